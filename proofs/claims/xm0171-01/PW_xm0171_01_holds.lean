import PyProof.Rows.All
import Wide.All
import OpenK.AllK
import Wide.FinOn
import PySem.Challenge.RW_xm0171_01
open PySem PySem.W PyProof.Rows PySem.Calls PySem.Spec
set_option Elab.async false
set_option linter.all false
namespace Mine
theorem mf : Manifest.find? = Manifest.find? := rfl
name_quick tw6448080314894763839 for Manifest.find? by mf
name_quick tw8075568018651887793 for Manifest.find? by mf
name_quick tw17988542015724977305 for Manifest.find? by mf
name_quick tw11514945112201208509 for Manifest.find? by mf
name_quick tw13900631225919944168 for Manifest.find? by mf
name_quick tw17279654841073493023 for Manifest.find? by mf
name_quick tw282004115355043989 for Manifest.find? by mf
name_quick tw151948405760981731 for Manifest.find? by mf
name_quick tw4302124980754421698 for Manifest.find? by mf
name_quick tw16916688483869632129 for Manifest.find? by mf
name_quick tw16049961110935095269 for Manifest.find? by mf
name_quick tw1258717718454355964 for Manifest.find? by mf
name_quick tw11985326045990495214 for Manifest.find? by mf
name_quick tw4090926877573551719 for Manifest.find? by mf
name_quick tw14333388528381170442 for Manifest.find? by mf
name_quick tw17476080006546285661 for Manifest.find? by mf
name_quick tw3282434896037501709 for Manifest.find? by mf
name_quick tw3764465048917985505 for Manifest.find? by mf
name_quick tw18340240734955500558 for Manifest.find? by mf
name_quick tw14834023430324568649 for Manifest.find? by mf
name_quick tw11420187438672877268 for Manifest.find? by mf
name_quick tw8206430501311747189 for Manifest.find? by mf
name_quick tw7745614565497352828 for Manifest.find? by mf
name_quick tw17975652961387846372 for Manifest.find? by mf
name_quick tw4011157648589011858 for Manifest.find? by mf
name_quick tw16531745337717519161 for Manifest.find? by mf
name_quick tw14714103240675001986 for Manifest.find? by mf
name_quick tw2283851925072248500 for Manifest.find? by mf
name_quick tw3152983702415266003 for Manifest.find? by mf
name_quick tw1291980286583624508 for Manifest.find? by mf
name_quick tw3636048126100218174 for Manifest.find? by mf
name_quick tw13236226663087606529 for Manifest.find? by mf
name_quick tw9011979029575296479 for Manifest.find? by mf
name_quick tw17730428716208468724 for Manifest.find? by mf
name_quick tw8603108125212654177 for Manifest.find? by mf
name_quick tw8376441433122354887 for Manifest.find? by mf
name_quick tw15475462885187679331 for Manifest.find? by mf
name_quick tw10227693086864044499 for Manifest.find? by mf
name_quick tw2862820112641550484 for Manifest.find? by mf
name_quick tw14126943448341045398 for Manifest.find? by mf
name_quick tw1333364371103165705 for Manifest.find? by mf
name_quick tw16018607276475445134 for Manifest.find? by mf
name_quick tw5721027456603625697 for Manifest.find? by mf
name_quick tw17000155066101142889 for Manifest.find? by mf
name_quick tw15007238320947547705 for Manifest.find? by mf
name_quick tw8703263022893421829 for Manifest.find? by mf
name_quick tw6245536207120538393 for Manifest.find? by mf
name_quick tw13678640442995254988 for Manifest.find? by mf
name_quick tw6683783046931543321 for Manifest.find? by mf
name_quick tw8537084889766193716 for Manifest.find? by mf
name_quick tw15066959818950650227 for Manifest.find? by mf
name_quick tw9862997608875712007 for Manifest.find? by mf
name_quick tw17532718790514356516 for Manifest.find? by mf
name_quick tw17888162413812561239 for Manifest.find? by mf
name_quick tw15168306246750427876 for Manifest.find? by mf
name_quick tw10938465397075749097 for Manifest.find? by mf
name_quick tw1218959903707654005 for Manifest.find? by mf
name_quick tw16414604833108395602 for Manifest.find? by mf
name_quick tw12945451867199242903 for Manifest.find? by mf
name_quick tw15263041282635125899 for Manifest.find? by mf
name_quick tw4071324889030633612 for Manifest.find? by mf
name_quick tw5349121933718820234 for Manifest.find? by mf
name_quick tw2478078296215019888 for Manifest.find? by mf
name_quick tw8693227569615203950 for Manifest.find? by mf
name_quick tw7232422423428716515 for Manifest.find? by mf
name_quick tw14223099787259518943 for Manifest.find? by mf
name_quick tw470574548607681690 for Manifest.find? by mf
name_quick tw3619232141914619222 for Manifest.find? by mf
name_quick tw4558998842232669794 for Manifest.find? by mf
name_quick tw662354867322794072 for Manifest.find? by mf
name_quick tw11317593695737139937 for Manifest.find? by mf
name_quick tw5268983451555188008 for Manifest.find? by mf
name_quick tw136631920214876835 for Manifest.find? by mf
name_quick tw16349804527192203551 for Manifest.find? by mf
name_quick tw505943868828395459 for Manifest.find? by mf
name_quick tw14168537005229113720 for Manifest.find? by mf
name_quick tw5770868932273138760 for Manifest.find? by mf
name_quick tw17497748084772794779 for Manifest.find? by mf
name_quick tw3131671291697673992 for Manifest.find? by mf
name_quick tw4527066259768149269 for Manifest.find? by mf
name_quick tw16593013826814733010 for Manifest.find? by mf
name_quick tw4933834842325187142 for Manifest.find? by mf
name_quick tw1355338860687761863 for Manifest.find? by mf
name_quick tw1537898542681612871 for Manifest.find? by mf
name_quick tw1377046205977697930 for Manifest.find? by mf
name_quick tw1092655722715705105 for Manifest.find? by mf
name_quick tw2627984346626558326 for Manifest.find? by mf
name_quick tw4552823106982906706 for Manifest.find? by mf
name_quick tw9407582987413476825 for Manifest.find? by mf
name_quick tw3976722010076183465 for Manifest.find? by mf
name_quick tw14386061602966655976 for Manifest.find? by mf
name_quick tw10424941004445345732 for Manifest.find? by mf
name_quick tw4658958612460137192 for Manifest.find? by mf
name_quick tw17964007177503468958 for Manifest.find? by mf
name_quick tw11588390666370768167 for Manifest.find? by mf
name_quick tw4549333791460862111 for Manifest.find? by mf
name_quick tw14311459727803291754 for Manifest.find? by mf
name_quick tw117213463901210413 for Manifest.find? by mf
name_quick tw18211773271919218964 for Manifest.find? by mf
name_quick tw13254397897704925713 for Manifest.find? by mf
name_quick tw2719445374943340272 for Manifest.find? by mf
name_quick tw4292500188555128830 for Manifest.find? by mf
name_quick tw10887116778572429059 for Manifest.find? by mf
name_quick tw3577408171920636059 for Manifest.find? by mf
name_quick tw13981391230805400906 for Manifest.find? by mf
name_quick tw4775785305629353868 for Manifest.find? by mf
name_quick tw14884601019740666482 for Manifest.find? by mf
name_quick tw5706481520468235054 for Manifest.find? by mf
name_quick tw15742981410569661332 for Manifest.find? by mf
name_quick tw3362959441861295915 for Manifest.find? by mf
name_quick tw5032809538720368765 for Manifest.find? by mf
name_quick tw9763268239775435451 for Manifest.find? by mf
name_quick tw6434138532213402376 for Manifest.find? by mf
name_quick tw2408619945344806742 for Manifest.find? by mf
name_quick tw11543547407058413889 for Manifest.find? by mf
name_quick tw16741492637210864865 for Manifest.find? by mf
name_quick tw14326252917377295143 for Manifest.find? by mf
name_quick tw4679858250743294509 for Manifest.find? by mf
name_quick tw10996506086634736982 for Manifest.find? by mf
name_quick tw6122645084068987007 for Manifest.find? by mf
name_quick tw11270796479367742343 for Manifest.find? by mf
name_quick tw6004533443673955352 for Manifest.find? by mf
name_quick tw6654550962395885724 for Manifest.find? by mf
name_quick tw10205541121877940668 for Manifest.find? by mf
name_quick tw13789449189825218787 for Manifest.find? by mf
name_quick tw2039238271031011813 for Manifest.find? by mf
name_quick tw460243522976405022 for Manifest.find? by mf
name_quick tw5529568453561195837 for Manifest.find? by mf
name_quick tw15278061642289888581 for Manifest.find? by mf
name_quick tw12290603225136948437 for Manifest.find? by mf
name_quick tw11333186260410459676 for Manifest.find? by mf
name_quick tw932993149863042379 for Manifest.find? by mf
name_quick tw17164873540382356111 for Manifest.find? by mf
name_quick tw1402947280878808549 for Manifest.find? by mf
name_quick tw11853533878840232495 for Manifest.find? by mf
name_quick tw15490439104401381959 for Manifest.find? by mf
name_quick tw5111356299099525756 for Manifest.find? by mf
name_quick tw8595292554425487202 for Manifest.find? by mf
name_quick tw5200128776193632040 for Manifest.find? by mf
name_quick tw3560238982266916124 for Manifest.find? by mf
name_quick tw3766158894648301139 for Manifest.find? by mf
name_quick tw16643706677886111943 for Manifest.find? by mf
name_quick tw1620339239838986703 for Manifest.find? by mf
name_quick tw16548257151911338427 for Manifest.find? by mf
name_quick tw18260038339965228139 for Manifest.find? by mf
name_quick tw16846860572762119324 for Manifest.find? by mf
name_quick tw5189142188285759775 for Manifest.find? by mf
name_quick tw13180171748994924942 for Manifest.find? by mf
name_quick tw9136488742655976645 for Manifest.find? by mf
name_quick tw13759679279233594173 for Manifest.find? by mf
name_quick tw11445135464325071761 for Manifest.find? by mf
name_quick tw7392212959928792091 for Manifest.find? by mf
name_quick tw14553827428707814869 for Manifest.find? by mf
name_quick tw900395245841561262 for Manifest.find? by mf
name_quick tw11130039905162102590 for Manifest.find? by mf
name_quick tw12659028871203227004 for Manifest.find? by mf
name_quick tw7250012664060256230 for Manifest.find? by mf
name_quick tw13559156169165276386 for Manifest.find? by mf
name_quick tw14530364306720264245 for Manifest.find? by mf
name_quick tw17828083071136270317 for Manifest.find? by mf
name_quick tw11277716924127702174 for Manifest.find? by mf
name_quick tw18101931140130867144 for Manifest.find? by mf
name_quick tw11186114360453789277 for Manifest.find? by mf
name_quick tw7323676302269181137 for Manifest.find? by mf
name_quick tw9759809726879904816 for Manifest.find? by mf
name_quick tw10706342367453228570 for Manifest.find? by mf
name_quick tw12635297910168745909 for Manifest.find? by mf
name_quick tw16145008321745377990 for Manifest.find? by mf
name_quick tw8119918657739134586 for Manifest.find? by mf
name_quick tw4978915544186085027 for Manifest.find? by mf
name_quick tw2664551874359636763 for Manifest.find? by mf
name_quick tw11306939235166856333 for Manifest.find? by mf
name_quick tw9501820088010722379 for Manifest.find? by mf
name_quick tw14821650378409806113 for Manifest.find? by mf
name_quick tw9285146279643344392 for Manifest.find? by mf
name_quick tw11452132507678324671 for Manifest.find? by mf
name_quick tw2670528217467546775 for Manifest.find? by mf
name_quick tw8719427161674164953 for Manifest.find? by mf
name_quick tw2660918139993853925 for Manifest.find? by mf
name_quick tw4075660801711882420 for Manifest.find? by mf
name_quick tw5357591511691535388 for Manifest.find? by mf
name_quick tw6817277305950994716 for Manifest.find? by mf
name_quick tw14023627001141898710 for Manifest.find? by mf
name_quick tw219737044198020058 for Manifest.find? by mf
name_quick tw2460228577881660442 for Manifest.find? by mf
name_quick tw2905824091091238844 for Manifest.find? by mf
name_quick tw3698559305507148144 for Manifest.find? by mf
name_quick tw17057272898397164401 for Manifest.find? by mf
name_quick tw10073347824450446311 for Manifest.find? by mf
name_quick tw18416463498863911781 for Manifest.find? by mf
name_quick tw10323183001455561277 for Manifest.find? by mf
name_quick tw9529234661008812162 for Manifest.find? by mf
name_quick tw13036272033356848781 for Manifest.find? by mf
name_quick tw9594665118957945026 for Manifest.find? by mf
name_quick tw7581352650102555174 for Manifest.find? by mf
name_quick tw7401281599722004195 for Manifest.find? by mf
name_quick tw16752143609539240740 for Manifest.find? by mf
name_quick tw15560500314895047343 for Manifest.find? by mf
name_quick tw2334299552400917057 for Manifest.find? by mf
name_quick tw5882768191206486792 for Manifest.find? by mf
name_quick tw4748654258956052638 for Manifest.find? by mf
name_quick tw16296994325663420285 for Manifest.find? by mf
name_quick tw6550987210724342151 for Manifest.find? by mf
name_quick tw2422670821966735624 for Manifest.find? by mf
name_quick tw9787463984185863102 for Manifest.find? by mf
name_quick tw347637069881736656 for Manifest.find? by mf
name_quick tw7496433998918960881 for Manifest.find? by mf
name_quick tw667198328695590252 for Manifest.find? by mf
name_quick tw3442601649717412197 for Manifest.find? by mf
name_quick tw15919542637913265678 for Manifest.find? by mf
name_quick tw15663404670287596823 for Manifest.find? by mf
name_quick tw3856783459128436802 for Manifest.find? by mf
name_quick tw5076957145309523181 for Manifest.find? by mf
name_quick tw14073706353221006472 for Manifest.find? by mf
name_quick tw9458956999447867950 for Manifest.find? by mf
name_quick tw15766043655864335149 for Manifest.find? by mf
name_quick tw13640514254501968386 for Manifest.find? by mf
name_quick tw11994158751524154303 for Manifest.find? by mf
name_quick tw12635813782599140982 for Manifest.find? by mf
name_quick tw6711915476519705758 for Manifest.find? by mf
name_quick tw11636919720809706868 for Manifest.find? by mf
name_quick tw9951705424602377420 for Manifest.find? by mf
name_quick tw12237943961548833269 for Manifest.find? by mf
name_quick tw13912434898499826684 for Manifest.find? by mf
name_quick tw912392155897948271 for Manifest.find? by mf
name_quick tw1617757218408452269 for Manifest.find? by mf
name_quick tw8098380416015320538 for Manifest.find? by mf
name_quick tw12329403913580668285 for Manifest.find? by mf
name_quick tw12172078356533094185 for Manifest.find? by mf
name_quick tw11462045893675790159 for Manifest.find? by mf
name_quick tw11161088081135249708 for Manifest.find? by mf
name_quick tw16979880578912567463 for Manifest.find? by mf
name_quick tw4039474712603431140 for Manifest.find? by mf
name_quick tw4224760802259116069 for Manifest.find? by mf
name_quick tw13141144453892091621 for Manifest.find? by mf
name_quick tw15450981722951097364 for Manifest.find? by mf
name_quick tw6019396324639902685 for Manifest.find? by mf
name_quick tw12813236842856870187 for Manifest.find? by mf
name_quick tw16697116713213952808 for Manifest.find? by mf
name_quick tw7650934615059315214 for Manifest.find? by mf
name_quick tw16966814322356759819 for Manifest.find? by mf
name_quick tw15323854079317868165 for Manifest.find? by mf
name_quick tw5135500740108067664 for Manifest.find? by mf
name_quick tw183835017167291270 for Manifest.find? by mf
name_quick tw3820604794100220378 for Manifest.find? by mf
name_quick tw3039592710220408265 for Manifest.find? by mf
name_quick tw8642067239939848140 for Manifest.find? by mf
name_quick tw7198390536060210744 for Manifest.find? by mf
name_quick tw1574873078441994576 for Manifest.find? by mf
name_quick tw9931943479562821362 for Manifest.find? by mf
name_quick tw13615603153576403970 for Manifest.find? by mf
name_quick tw3424931102881643321 for Manifest.find? by mf
name_quick tw14224011070414065920 for Manifest.find? by mf
name_quick tw17804436615005485693 for Manifest.find? by mf
name_quick tw10314498396905981064 for Manifest.find? by mf
name_quick tw9800571698397750058 for Manifest.find? by mf
name_quick tw12850107946570832962 for Manifest.find? by mf
name_quick tw9979284746773624096 for Manifest.find? by mf
name_quick tw16374537267813192141 for Manifest.find? by mf
name_quick tw11310463157757771331 for Manifest.find? by mf
name_quick tw6662432510661729299 for Manifest.find? by mf
name_quick tw8708707556590381134 for Manifest.find? by mf
name_quick tw17274371674624000324 for Manifest.find? by mf
name_quick tw9151444980202551346 for Manifest.find? by mf
name_quick tw3880421473898291048 for Manifest.find? by mf
name_quick tw10317580896714288900 for Manifest.find? by mf
name_quick tw5345256250457102556 for Manifest.find? by mf
name_quick tw8032284361305108907 for Manifest.find? by mf
name_quick tw15900120412870309639 for Manifest.find? by mf
name_quick tw313226197891681235 for Manifest.find? by mf
name_quick tw7299951869573292228 for Manifest.find? by mf
name_quick tw12832477231654346042 for Manifest.find? by mf
name_quick tw1706496860858754268 for Manifest.find? by mf
name_quick tw12392613427281201732 for Manifest.find? by mf
name_quick tw16176465441171805009 for Manifest.find? by mf
name_quick tw10470071008263537045 for Manifest.find? by mf
name_quick tw7788680626742099145 for Manifest.find? by mf
name_quick tw7397068168572129948 for Manifest.find? by mf
name_quick tw12734952128020822468 for Manifest.find? by mf
name_quick tw6363645014702824404 for Manifest.find? by mf
name_quick tw1156252341971683116 for Manifest.find? by mf
name_quick tw17863021456227041891 for Manifest.find? by mf
name_quick tw5701610774189311196 for Manifest.find? by mf
name_quick tw8796240567053077481 for Manifest.find? by mf
name_quick tw7035115661146626270 for Manifest.find? by mf
name_quick tw9908251947323293946 for Manifest.find? by mf
name_quick tw11863081143760314161 for Manifest.find? by mf
name_quick tw16947794391021106201 for Manifest.find? by mf
name_quick tw5732905514179830355 for Manifest.find? by mf
name_quick tw9376109419431680627 for Manifest.find? by mf
name_quick tw12835720964997663042 for Manifest.find? by mf
name_quick tw2447775223705975068 for Manifest.find? by mf
name_quick tw6059929106960060952 for Manifest.find? by mf
name_quick tw12825359941727978080 for Manifest.find? by mf
name_quick tw7365555872484859036 for Manifest.find? by mf
name_quick tw724751600484774222 for Manifest.find? by mf
name_quick tw4434333111790514575 for Manifest.find? by mf
name_quick tw15823609455315575823 for Manifest.find? by mf
name_quick tw17001327861769816259 for Manifest.find? by mf
name_quick tw12371321757623732685 for Manifest.find? by mf
name_quick tw1772237422875290029 for Manifest.find? by mf
name_quick tw10919533547850550483 for Manifest.find? by mf
name_quick tw8579058602437062094 for Manifest.find? by mf
name_quick tw1184552218554016812 for Manifest.find? by mf
name_quick tw14112274594779413971 for Manifest.find? by mf
name_quick tw878741703135273975 for Manifest.find? by mf
name_quick tw13002492023102617099 for Manifest.find? by mf
name_quick tw11108263761283441063 for Manifest.find? by mf
name_quick tw15423634916342008072 for Manifest.find? by mf
name_quick tw5518745428033880147 for Manifest.find? by mf
name_quick tw1735497430108182060 for Manifest.find? by mf
name_quick tw13642483538084851733 for Manifest.find? by mf
name_quick tw17018628822417861297 for Manifest.find? by mf
name_quick tw9674257727999782656 for Manifest.find? by mf
name_quick tw13776390136698705113 for Manifest.find? by mf
name_quick tw6434265647005701932 for Manifest.find? by mf
name_quick tw11682084944484805031 for Manifest.find? by mf
name_quick tw12393455550290869266 for Manifest.find? by mf
name_quick tw8224813933742928703 for Manifest.find? by mf
name_quick tw9626621113073979434 for Manifest.find? by mf
name_quick tw15079194523842364033 for Manifest.find? by mf
name_quick tw3118938333895590913 for Manifest.find? by mf
name_quick tw7581816359482902497 for Manifest.find? by mf
name_quick tw15542503528162795033 for Manifest.find? by mf
name_quick tw12022618010286034681 for Manifest.find? by mf
name_quick tw2354101950205528012 for Manifest.find? by mf
name_quick tw8253183596043897158 for Manifest.find? by mf
name_quick tw14210447440969649564 for Manifest.find? by mf
name_quick tw7094674258960923220 for Manifest.find? by mf
name_quick tw8989982439271903415 for Manifest.find? by mf
name_quick tw2193789692954389824 for Manifest.find? by mf
name_quick tw1886563365779066154 for Manifest.find? by mf
name_quick tw2315820567201803617 for Manifest.find? by mf
name_quick tw6135381517318000843 for Manifest.find? by mf
name_quick tw6426273055680023932 for Manifest.find? by mf
name_quick tw4921902886906138986 for Manifest.find? by mf
name_quick tw9676229304581654039 for Manifest.find? by mf
name_quick tw11707433790658880453 for Manifest.find? by mf
name_quick tw10833955939284561965 for Manifest.find? by mf
name_quick tw16869277618539721502 for Manifest.find? by mf
name_quick tw12898947447245864913 for Manifest.find? by mf
name_quick tw9305782018832362445 for Manifest.find? by mf
name_quick tw11790162104776037713 for Manifest.find? by mf
name_quick tw3315324234476444515 for Manifest.find? by mf
name_quick tw558745408833754511 for Manifest.find? by mf
name_quick tw17537794083376710389 for Manifest.find? by mf
name_quick tw1638017585896720355 for Manifest.find? by mf
name_quick tw16180582048198870337 for Manifest.find? by mf
name_quick tw1041845030581493396 for Manifest.find? by mf
name_quick tw8450942572126056277 for Manifest.find? by mf
name_quick tw12450158673883907302 for Manifest.find? by mf
name_quick tw1419416864934026935 for Manifest.find? by mf
name_quick tw5925582254088234700 for Manifest.find? by mf
name_quick tw4525517667737911620 for Manifest.find? by mf
name_quick tw11838138170533393997 for Manifest.find? by mf
name_quick tw7504490480230193789 for Manifest.find? by mf
name_quick tw12866136484021002089 for Manifest.find? by mf
name_quick tw6722154040420286063 for Manifest.find? by mf
name_quick tw7098571738820278039 for Manifest.find? by mf
name_quick tw3778451253796500701 for Manifest.find? by mf
name_quick tw9948023125614773506 for Manifest.find? by mf
name_quick tw14108194823987119177 for Manifest.find? by mf
name_quick tw7276740287692124622 for Manifest.find? by mf
name_quick tw12233582284571471492 for Manifest.find? by mf
name_quick tw7275051467321613617 for Manifest.find? by mf
name_quick tw15480198773659482676 for Manifest.find? by mf
name_quick tw9564595351457756722 for Manifest.find? by mf
name_quick tw6380047634161181297 for Manifest.find? by mf
name_quick tw5902227825499142635 for Manifest.find? by mf
name_quick tw8860024209350480642 for Manifest.find? by mf
name_quick tw10010936943081839664 for Manifest.find? by mf
name_quick tw14537914154153760125 for Manifest.find? by mf
name_quick tw11729385059970357855 for Manifest.find? by mf
name_quick tw6589095468515690095 for Manifest.find? by mf
name_quick tw13607416678640721797 for Manifest.find? by mf
name_quick tw18345786424863182364 for Manifest.find? by mf
name_quick tw1962928258387122110 for Manifest.find? by mf
name_quick tw1503297043503765363 for Manifest.find? by mf
name_quick tw10007627690174824804 for Manifest.find? by mf
name_quick tw4797165386629745026 for Manifest.find? by mf
name_quick tw13016732220969518872 for Manifest.find? by mf
name_quick tw1829445100760108279 for Manifest.find? by mf
name_quick tw15112985482279097393 for Manifest.find? by mf
name_quick tw704327219915372674 for Manifest.find? by mf
name_quick tw10948738476641704880 for Manifest.find? by mf
name_quick tw951843321253372498 for Manifest.find? by mf
name_quick tw1702518465993881591 for Manifest.find? by mf
name_quick tw8424611434330503625 for Manifest.find? by mf
name_quick tw7892128664451923741 for Manifest.find? by mf
name_quick tw16350708796919097252 for Manifest.find? by mf
name_quick tw17100903815162463580 for Manifest.find? by mf
name_quick tw8753696776887207221 for Manifest.find? by mf
name_quick tw392140993173905013 for Manifest.find? by mf
name_quick tw15980859228951719591 for Manifest.find? by mf
name_quick tw3972328310683599613 for Manifest.find? by mf
name_quick tw9315938663221665524 for Manifest.find? by mf
name_quick tw17000458434675057986 for Manifest.find? by mf
name_quick tw7269565832213808900 for Manifest.find? by mf
name_quick tw18056578402003937789 for Manifest.find? by mf
name_quick tw1414301608579184545 for Manifest.find? by mf
name_quick tw13106232238108311548 for Manifest.find? by mf
name_quick tw16060751757519763396 for Manifest.find? by mf
name_quick tw13597890204796452341 for Manifest.find? by mf
name_quick tw303557385243925966 for Manifest.find? by mf
name_quick tw13667205123737199278 for Manifest.find? by mf
name_quick tw10641921931208483163 for Manifest.find? by mf
name_quick tw17111948838632640456 for Manifest.find? by mf
name_quick tw13480552361792772618 for Manifest.find? by mf
name_quick tw4565691546616451037 for Manifest.find? by mf
name_quick tw970078002132370370 for Manifest.find? by mf
name_quick tw9764882154061713095 for Manifest.find? by mf
name_quick tw14376050681354390291 for Manifest.find? by mf
name_quick tw11075218271163461481 for Manifest.find? by mf
name_quick tw14400365274747737836 for Manifest.find? by mf
name_quick tw12469489778152837 for Manifest.find? by mf
name_quick tw13215998728584607739 for Manifest.find? by mf
name_quick tw10452746824273312429 for Manifest.find? by mf
name_quick tw10346894026039390216 for Manifest.find? by mf
name_quick tw14979626087600564940 for Manifest.find? by mf
name_quick tw16015989664499357557 for Manifest.find? by mf
name_quick tw10251461292339203613 for Manifest.find? by mf
set_option maxRecDepth 100000 in
set_option maxHeartbeats 8000000 in
open_top hd for PySem.Challenge.rw_xm0171_01
local macro_rules | `(tactic| walk_at $s:str) => `(tactic| k_extra $s)
local macro_rules | `(tactic| k_ne) => `(tactic| k_extra "k_ne")
local macro_rules | `(tactic| tb_rel) => `(tactic| k_extra "tb_rel")
local macro_rules | `(tactic| tb_start) => `(tactic| k_extra "tb_start")
local macro_rules | `(tactic| ktr_room) => `(tactic| k_extra "ktr_room")
local macro_rules | `(tactic| ktr_units) => `(tactic| k_extra "ktr_units")
local macro_rules | `(tactic| ktr_rel) => `(tactic| k_extra "ktr_rel")
local macro_rules | `(tactic| ktr_unf) => `(tactic| k_extra "ktr_unf")
local macro_rules | `(tactic| kby_size) => `(tactic| k_extra "kby_size")
local macro_rules | `(tactic| kd_in) => `(tactic| k_extra "kd_in")
local macro_rules | `(tactic| kd_all) => `(tactic| k_extra "kd_all")
local macro_rules | `(tactic| k_mem) => `(tactic| k_extra "k_mem")
local macro_rules | `(tactic| is_list) => `(tactic| k_extra "is_list")
local macro_rules | `(tactic| ke_room) => `(tactic| k_extra "ke_room")
local macro_rules | `(tactic| k_units) => `(tactic| k_extra "k_units")
local macro_rules | `(tactic| lcg_off) => `(tactic| k_extra "lcg_off")
local macro_rules | `(tactic| k_fold) => `(tactic| k_extra "k_fold")
local macro_rules | `(tactic| k_steps) => `(tactic| k_extra "k_steps")
local macro_rules | `(tactic| kln_le) => `(tactic| k_extra "kln_le")
local macro_rules | `(tactic| k_lt $h:ident) => `(tactic| (replace $h := allLt_of $h; dsimp only [AllLt] at $h:ident))
structure Row where
  g : Int
  k : Bool
  n : Int
  v : Int
  c : Int
def kStr (k : Bool) : Str := if k then Str.ofString "send" else Str.ofString "take"
structure LRow where
  a : Addr
  r : Row
  t1 : Tok
  t2 : Tok
  t3 : Tok
  t4 : Tok
  t5 : Tok
  e : Nat
abbrev tupN (vs : List Value) (e : Nat) : Obj := { cls := .type "tuple", data := .seq vs.toArray e }
abbrev LRow.obj (l : LRow) : Obj := tupN [.int l.r.g l.t1, .str (kStr l.r.k) l.t2, .int l.r.n l.t3, .int l.r.v l.t4, .int l.r.c l.t5] l.e
abbrev refsOf (rows : List LRow) : List Value := rows.map fun l => .ref l.a
def RowsIn (rows : List LRow) (news : List (Addr × Obj)) : Prop := ∀ l ∈ rows, (l.a, l.obj) ∈ news
theorem RowsIn.at {rows : List LRow} {news : List (Addr × Obj)} {l : LRow} (h : RowsIn rows news) (hl : l ∈ rows) : (l.a, l.obj) ∈ news := h l hl
theorem rowsAt {rows : List LRow} {news : List (Addr × Obj)} {l : LRow} (hl : l ∈ rows) (h : RowsIn rows news) : (l.a, l.obj) ∈ news := h l hl
section
variable {M : Model} {A : Around} {E : Value → Shared → Prop} {s : Shared} {h₀ : Heap} {L a : Addr} {m : Str → Option Value} {cn : Str} {cs : Scope} {ccd : Value} {cl : List (Str × Addr)} {x : Str} {v : Value} {Q : Unit → Shared → Prop} {news : List (Addr × Obj)}
theorem storeLet (F : Fr h₀ L s.heap m) (N : News h₀ L s.heap news)
    (h : ∀ h', let m' := (fun y => if y = x then some v else m y); Fr h₀ L h' m' → News h₀ L h' news → Q () { s with heap := h', toks := s.toks + 1 })
    (hk : cs.kind = .function := by rfl) (hx : (envX cn cs L a ccd cl).kindOf x = some .local := by rfl) : wpAny M A (storeName (envX cn cs L a ccd cl) x v) Q E s := storeX_L F N h hk hx
end
theorem RowsIn.cons {rows : List LRow} {p : Addr × Obj} {news : List (Addr × Obj)} (h : RowsIn rows news) : RowsIn rows (p :: news) := fun l hl => .tail _ (h l hl)
theorem RowsIn.filter {rows : List LRow} {p : LRow → Bool} {news : List (Addr × Obj)} (h : RowsIn rows news) : RowsIn (rows.filter p) news := fun l hl => h l (List.mem_filter.mp hl).1

section
variable {prog : Program} {w : World} {A : Around} {E : Value → Shared → Prop} {s : Shared} {env : Env} {h₀ : Heap} {x : Str} {body : List Stmt} {Q : Flow → Shared → Prop}
/-- a loop over a list of the ledger: J says what holds of what is behind, what lies ahead, the frame's map and the ledger -/
theorem iter_listJ {α : Type} {ax : Addr} {lo : Obj} {n : Nat} {m₀ : Str → Option Value} {news : List (Addr × Obj)} (val : α → Value) (xs : List α) (J : List α → List α → (Str → Option Value) → List (Addr × Obj) → Prop)
    (hh : A.handled = none) (F : Fr h₀ env.locals s.heap m₀) (N : News h₀ env.locals s.heap news) (hm : (ax, lo) ∈ news) (hc : lo.cls = .type "list") (hd : lo.data = .seq (xs.map val).toArray n)
    (hj : J [] xs m₀ news)
    (turn : ∀ I it pre v post m₁ news₁ h tk, xs = pre ++ v :: post → (∀ p ∈ news, p.1 < I) → it.cls = .type "list_iterator" → J pre (v :: post) m₁ news₁ → Fr h₀ env.locals h (fun y => if y = x then some (val v) else m₁ y) → News h₀ env.locals h ((I, it) :: news₁) →
      wpAny (model prog w) A (execs body env) (UnrPost h₀ env.locals { s with heap := h, toks := tk } I it (fun m' n' => (ax, lo) ∈ n' ∧ J (pre ++ [v]) post m' n') Q) E { s with heap := h, toks := tk })
    (done : ∀ m₁ news₁ h tk, J xs [] m₁ news₁ → Fr h₀ env.locals h m₁ → News h₀ env.locals h news₁ → Q .next { s with heap := h, toks := tk }) :
    wpAny (model prog w) A (pyIter (.ref ax)) (fun it s₂ => LoopAtV prog w A h₀ env x body Q E it s₂) E s := by
  refine iter_listUnr hh F N hm hc hd fun I hI => ?_
  have key : ∀ (post pre : List α) m₁ news₁, xs = pre ++ post → J pre post m₁ news₁ → ListRest prog w A E h₀ env x body Q s I (ax, lo) (post.map val) m₁ news₁ := by
    intro post
    induction post with
    | nil =>
      intro pre m₁ news₁ e j
      have e' : xs = pre := by rw [e, List.append_nil]
      subst e'
      exact ListRest.zero fun h tk F' N' => done m₁ news₁ h tk j F' N'
    | cons v r ih =>
      intro pre m₁ news₁ e j
      refine ListRest.succ fun it h tk hit F' N' => ?_
      refine wpAny_mono (turn I it pre v r m₁ news₁ h tk e hI hit j F' N') (fun f s₂ p => ?_) fun _ _ e => e
      have fin : UnrEnd h₀ env.locals { s with heap := h, toks := tk } I it (fun m' n' => (ax, lo) ∈ n' ∧ J (pre ++ [v]) r m' n') s₂ →
          UnrEnd h₀ env.locals { s with heap := h, toks := tk } I it (fun m' n' => (ax, lo) ∈ n' ∧ ListRest prog w A E h₀ env x body Q s I (ax, lo) (r.map val) m' n') s₂ := by
        rintro ⟨h', tk', m', news', e1, F1, N1, ho, hm1, j1⟩
        exact ⟨h', tk', m', news', e1, F1, N1, ho, hm1, ih (pre ++ [v]) m' news' (by rw [e, List.append_assoc]; rfl) j1⟩
      cases f with
      | ret _ => exact p
      | brk => exact p
      | next => exact fin p
      | cont => exact fin p
  exact key xs [] m₀ news rfl hj
/-- the same for a loop that stores nothing but its own name -/
theorem iter_listS {α : Type} {ax : Addr} {lo : Obj} {n : Nat} {m₀ : Str → Option Value} {news : List (Addr × Obj)} (val : α → Value) (xs : List α) (P : List α → Prop)
    (hh : A.handled = none) (F : Fr h₀ env.locals s.heap m₀) (N : News h₀ env.locals s.heap news) (hm : (ax, lo) ∈ news) (hc : lo.cls = .type "list") (hd : lo.data = .seq (xs.map val).toArray n)
    (hj : P [])
    (turn : ∀ I it pre v post h tk, xs = pre ++ v :: post → (∀ p ∈ news, p.1 < I) → it.cls = .type "list_iterator" → P pre → Fr h₀ env.locals h (fun y => if y = x then some (val v) else m₀ y) → News h₀ env.locals h ((I, it) :: news) →
      wpAny (model prog w) A (execs body env) (UnrPost h₀ env.locals { s with heap := h, toks := tk } I it (fun m' n' => n' = news ∧ m' = (fun y => if y = x then some (val v) else m₀ y) ∧ P (pre ++ [v])) Q) E { s with heap := h, toks := tk })
    (done : ∀ u h tk, P xs → Fr h₀ env.locals h (fun y => if y = x then u else m₀ y) → News h₀ env.locals h news → Q .next { s with heap := h, toks := tk }) :
    wpAny (model prog w) A (pyIter (.ref ax)) (fun it s₂ => LoopAtV prog w A h₀ env x body Q E it s₂) E s := by
  refine iter_listJ val xs (fun pre _ m₁ n₁ => n₁ = news ∧ (∃ u, m₁ = fun y => if y = x then u else m₀ y) ∧ P pre) hh F N hm hc hd ⟨rfl, ⟨m₀ x, ?_⟩, hj⟩ ?_ ?_
  · funext y; by_cases h : y = x <;> simp [h]
  · rintro I it pre v post m₁ news₁ h tk e hI hit ⟨rfl, ⟨u, rfl⟩, hp⟩ F' N'
    have e2 : (fun y => if y = x then some (val v) else (fun y => if y = x then u else m₀ y) y) = fun y => if y = x then some (val v) else m₀ y := by
      funext y; by_cases h : y = x <;> simp [h]
    rw [e2] at F'
    refine wpAny_mono (turn I it pre v post h tk e hI hit hp F' N') (fun f s₂ p => ?_) fun _ _ e => e
    have fin : UnrEnd h₀ env.locals { s with heap := h, toks := tk } I it (fun m' n' => n' = news₁ ∧ m' = (fun y => if y = x then some (val v) else m₀ y) ∧ P (pre ++ [v])) s₂ →
        UnrEnd h₀ env.locals { s with heap := h, toks := tk } I it (fun m' n' => (ax, lo) ∈ n' ∧ n' = news₁ ∧ (∃ u, m' = fun y => if y = x then u else m₀ y) ∧ P (pre ++ [v])) s₂ := by
      rintro ⟨h', tk', m', news', e1, F1, N1, ho, rfl, rfl, j1⟩
      exact ⟨h', tk', _, _, e1, F1, N1, ho, hm, rfl, ⟨_, rfl⟩, j1⟩
    cases f with
    | ret _ => exact p
    | brk => exact p
    | next => exact fin p
    | cont => exact fin p
  · rintro m₁ news₁ h tk ⟨rfl, ⟨u, rfl⟩, hp⟩ F' N'
    exact done u h tk hp F' N'
end
theorem pl1 {a b  : Nat} {R : Prop} (h : a < b ∧ R) : a < b := h.1
theorem pa1 {b x  : Nat} {R : Prop} (h : x < b ∧ R) : R := h.2
theorem pl2 {a b x1 : Nat} {R : Prop} (h : x1 < b ∧ a < b ∧ R) : a < b := h.2.1
theorem pa2 {b x x1 : Nat} {R : Prop} (h : x1 < b ∧ x < b ∧ R) : R := h.2.2
theorem pl3 {a b x1 x2 : Nat} {R : Prop} (h : x1 < b ∧ x2 < b ∧ a < b ∧ R) : a < b := h.2.2.1
theorem pa3 {b x x1 x2 : Nat} {R : Prop} (h : x1 < b ∧ x2 < b ∧ x < b ∧ R) : R := h.2.2.2
theorem pl4 {a b x1 x2 x3 : Nat} {R : Prop} (h : x1 < b ∧ x2 < b ∧ x3 < b ∧ a < b ∧ R) : a < b := h.2.2.2.1
theorem pa4 {b x x1 x2 x3 : Nat} {R : Prop} (h : x1 < b ∧ x2 < b ∧ x3 < b ∧ x < b ∧ R) : R := h.2.2.2.2
theorem pl5 {a b x1 x2 x3 x4 : Nat} {R : Prop} (h : x1 < b ∧ x2 < b ∧ x3 < b ∧ x4 < b ∧ a < b ∧ R) : a < b := h.2.2.2.2.1
theorem pa5 {b x x1 x2 x3 x4 : Nat} {R : Prop} (h : x1 < b ∧ x2 < b ∧ x3 < b ∧ x4 < b ∧ x < b ∧ R) : R := h.2.2.2.2.2
theorem pl6 {a b x1 x2 x3 x4 x5 : Nat} {R : Prop} (h : x1 < b ∧ x2 < b ∧ x3 < b ∧ x4 < b ∧ x5 < b ∧ a < b ∧ R) : a < b := h.2.2.2.2.2.1
theorem pa6 {b x x1 x2 x3 x4 x5 : Nat} {R : Prop} (h : x1 < b ∧ x2 < b ∧ x3 < b ∧ x4 < b ∧ x5 < b ∧ x < b ∧ R) : R := h.2.2.2.2.2.2
theorem pl7 {a b x1 x2 x3 x4 x5 x6 : Nat} {R : Prop} (h : x1 < b ∧ x2 < b ∧ x3 < b ∧ x4 < b ∧ x5 < b ∧ x6 < b ∧ a < b ∧ R) : a < b := h.2.2.2.2.2.2.1
theorem pa7 {b x x1 x2 x3 x4 x5 x6 : Nat} {R : Prop} (h : x1 < b ∧ x2 < b ∧ x3 < b ∧ x4 < b ∧ x5 < b ∧ x6 < b ∧ x < b ∧ R) : R := h.2.2.2.2.2.2.2
theorem pl8 {a b x1 x2 x3 x4 x5 x6 x7 : Nat} {R : Prop} (h : x1 < b ∧ x2 < b ∧ x3 < b ∧ x4 < b ∧ x5 < b ∧ x6 < b ∧ x7 < b ∧ a < b ∧ R) : a < b := h.2.2.2.2.2.2.2.1
theorem pa8 {b x x1 x2 x3 x4 x5 x6 x7 : Nat} {R : Prop} (h : x1 < b ∧ x2 < b ∧ x3 < b ∧ x4 < b ∧ x5 < b ∧ x6 < b ∧ x7 < b ∧ x < b ∧ R) : R := h.2.2.2.2.2.2.2.2
theorem pl9 {a b x1 x2 x3 x4 x5 x6 x7 x8 : Nat} {R : Prop} (h : x1 < b ∧ x2 < b ∧ x3 < b ∧ x4 < b ∧ x5 < b ∧ x6 < b ∧ x7 < b ∧ x8 < b ∧ a < b ∧ R) : a < b := h.2.2.2.2.2.2.2.2.1
theorem pa9 {b x x1 x2 x3 x4 x5 x6 x7 x8 : Nat} {R : Prop} (h : x1 < b ∧ x2 < b ∧ x3 < b ∧ x4 < b ∧ x5 < b ∧ x6 < b ∧ x7 < b ∧ x8 < b ∧ x < b ∧ R) : R := h.2.2.2.2.2.2.2.2.2
theorem pl10 {a b x1 x2 x3 x4 x5 x6 x7 x8 x9 : Nat} {R : Prop} (h : x1 < b ∧ x2 < b ∧ x3 < b ∧ x4 < b ∧ x5 < b ∧ x6 < b ∧ x7 < b ∧ x8 < b ∧ x9 < b ∧ a < b ∧ R) : a < b := h.2.2.2.2.2.2.2.2.2.1
theorem pa10 {b x x1 x2 x3 x4 x5 x6 x7 x8 x9 : Nat} {R : Prop} (h : x1 < b ∧ x2 < b ∧ x3 < b ∧ x4 < b ∧ x5 < b ∧ x6 < b ∧ x7 < b ∧ x8 < b ∧ x9 < b ∧ x < b ∧ R) : R := h.2.2.2.2.2.2.2.2.2.2
theorem pl11 {a b x1 x2 x3 x4 x5 x6 x7 x8 x9 x10 : Nat} {R : Prop} (h : x1 < b ∧ x2 < b ∧ x3 < b ∧ x4 < b ∧ x5 < b ∧ x6 < b ∧ x7 < b ∧ x8 < b ∧ x9 < b ∧ x10 < b ∧ a < b ∧ R) : a < b := h.2.2.2.2.2.2.2.2.2.2.1
theorem pa11 {b x x1 x2 x3 x4 x5 x6 x7 x8 x9 x10 : Nat} {R : Prop} (h : x1 < b ∧ x2 < b ∧ x3 < b ∧ x4 < b ∧ x5 < b ∧ x6 < b ∧ x7 < b ∧ x8 < b ∧ x9 < b ∧ x10 < b ∧ x < b ∧ R) : R := h.2.2.2.2.2.2.2.2.2.2.2
theorem pl12 {a b x1 x2 x3 x4 x5 x6 x7 x8 x9 x10 x11 : Nat} {R : Prop} (h : x1 < b ∧ x2 < b ∧ x3 < b ∧ x4 < b ∧ x5 < b ∧ x6 < b ∧ x7 < b ∧ x8 < b ∧ x9 < b ∧ x10 < b ∧ x11 < b ∧ a < b ∧ R) : a < b := h.2.2.2.2.2.2.2.2.2.2.2.1
theorem pa12 {b x x1 x2 x3 x4 x5 x6 x7 x8 x9 x10 x11 : Nat} {R : Prop} (h : x1 < b ∧ x2 < b ∧ x3 < b ∧ x4 < b ∧ x5 < b ∧ x6 < b ∧ x7 < b ∧ x8 < b ∧ x9 < b ∧ x10 < b ∧ x11 < b ∧ x < b ∧ R) : R := h.2.2.2.2.2.2.2.2.2.2.2.2
theorem pl13 {a b x1 x2 x3 x4 x5 x6 x7 x8 x9 x10 x11 x12 : Nat} {R : Prop} (h : x1 < b ∧ x2 < b ∧ x3 < b ∧ x4 < b ∧ x5 < b ∧ x6 < b ∧ x7 < b ∧ x8 < b ∧ x9 < b ∧ x10 < b ∧ x11 < b ∧ x12 < b ∧ a < b ∧ R) : a < b := h.2.2.2.2.2.2.2.2.2.2.2.2.1
theorem pa13 {b x x1 x2 x3 x4 x5 x6 x7 x8 x9 x10 x11 x12 : Nat} {R : Prop} (h : x1 < b ∧ x2 < b ∧ x3 < b ∧ x4 < b ∧ x5 < b ∧ x6 < b ∧ x7 < b ∧ x8 < b ∧ x9 < b ∧ x10 < b ∧ x11 < b ∧ x12 < b ∧ x < b ∧ R) : R := h.2.2.2.2.2.2.2.2.2.2.2.2.2
theorem pl14 {a b x1 x2 x3 x4 x5 x6 x7 x8 x9 x10 x11 x12 x13 : Nat} {R : Prop} (h : x1 < b ∧ x2 < b ∧ x3 < b ∧ x4 < b ∧ x5 < b ∧ x6 < b ∧ x7 < b ∧ x8 < b ∧ x9 < b ∧ x10 < b ∧ x11 < b ∧ x12 < b ∧ x13 < b ∧ a < b ∧ R) : a < b := h.2.2.2.2.2.2.2.2.2.2.2.2.2.1
theorem pa14 {b x x1 x2 x3 x4 x5 x6 x7 x8 x9 x10 x11 x12 x13 : Nat} {R : Prop} (h : x1 < b ∧ x2 < b ∧ x3 < b ∧ x4 < b ∧ x5 < b ∧ x6 < b ∧ x7 < b ∧ x8 < b ∧ x9 < b ∧ x10 < b ∧ x11 < b ∧ x12 < b ∧ x13 < b ∧ x < b ∧ R) : R := h.2.2.2.2.2.2.2.2.2.2.2.2.2.2
theorem pl15 {a b x1 x2 x3 x4 x5 x6 x7 x8 x9 x10 x11 x12 x13 x14 : Nat} {R : Prop} (h : x1 < b ∧ x2 < b ∧ x3 < b ∧ x4 < b ∧ x5 < b ∧ x6 < b ∧ x7 < b ∧ x8 < b ∧ x9 < b ∧ x10 < b ∧ x11 < b ∧ x12 < b ∧ x13 < b ∧ x14 < b ∧ a < b ∧ R) : a < b := h.2.2.2.2.2.2.2.2.2.2.2.2.2.2.1
theorem pa15 {b x x1 x2 x3 x4 x5 x6 x7 x8 x9 x10 x11 x12 x13 x14 : Nat} {R : Prop} (h : x1 < b ∧ x2 < b ∧ x3 < b ∧ x4 < b ∧ x5 < b ∧ x6 < b ∧ x7 < b ∧ x8 < b ∧ x9 < b ∧ x10 < b ∧ x11 < b ∧ x12 < b ∧ x13 < b ∧ x14 < b ∧ x < b ∧ R) : R := h.2.2.2.2.2.2.2.2.2.2.2.2.2.2.2
theorem pl16 {a b x1 x2 x3 x4 x5 x6 x7 x8 x9 x10 x11 x12 x13 x14 x15 : Nat} {R : Prop} (h : x1 < b ∧ x2 < b ∧ x3 < b ∧ x4 < b ∧ x5 < b ∧ x6 < b ∧ x7 < b ∧ x8 < b ∧ x9 < b ∧ x10 < b ∧ x11 < b ∧ x12 < b ∧ x13 < b ∧ x14 < b ∧ x15 < b ∧ a < b ∧ R) : a < b := h.2.2.2.2.2.2.2.2.2.2.2.2.2.2.2.1
theorem pa16 {b x x1 x2 x3 x4 x5 x6 x7 x8 x9 x10 x11 x12 x13 x14 x15 : Nat} {R : Prop} (h : x1 < b ∧ x2 < b ∧ x3 < b ∧ x4 < b ∧ x5 < b ∧ x6 < b ∧ x7 < b ∧ x8 < b ∧ x9 < b ∧ x10 < b ∧ x11 < b ∧ x12 < b ∧ x13 < b ∧ x14 < b ∧ x15 < b ∧ x < b ∧ R) : R := h.2.2.2.2.2.2.2.2.2.2.2.2.2.2.2.2
theorem pl17 {a b x1 x2 x3 x4 x5 x6 x7 x8 x9 x10 x11 x12 x13 x14 x15 x16 : Nat} {R : Prop} (h : x1 < b ∧ x2 < b ∧ x3 < b ∧ x4 < b ∧ x5 < b ∧ x6 < b ∧ x7 < b ∧ x8 < b ∧ x9 < b ∧ x10 < b ∧ x11 < b ∧ x12 < b ∧ x13 < b ∧ x14 < b ∧ x15 < b ∧ x16 < b ∧ a < b ∧ R) : a < b := h.2.2.2.2.2.2.2.2.2.2.2.2.2.2.2.2.1
theorem pa17 {b x x1 x2 x3 x4 x5 x6 x7 x8 x9 x10 x11 x12 x13 x14 x15 x16 : Nat} {R : Prop} (h : x1 < b ∧ x2 < b ∧ x3 < b ∧ x4 < b ∧ x5 < b ∧ x6 < b ∧ x7 < b ∧ x8 < b ∧ x9 < b ∧ x10 < b ∧ x11 < b ∧ x12 < b ∧ x13 < b ∧ x14 < b ∧ x15 < b ∧ x16 < b ∧ x < b ∧ R) : R := h.2.2.2.2.2.2.2.2.2.2.2.2.2.2.2.2.2
theorem pl18 {a b x1 x2 x3 x4 x5 x6 x7 x8 x9 x10 x11 x12 x13 x14 x15 x16 x17 : Nat} {R : Prop} (h : x1 < b ∧ x2 < b ∧ x3 < b ∧ x4 < b ∧ x5 < b ∧ x6 < b ∧ x7 < b ∧ x8 < b ∧ x9 < b ∧ x10 < b ∧ x11 < b ∧ x12 < b ∧ x13 < b ∧ x14 < b ∧ x15 < b ∧ x16 < b ∧ x17 < b ∧ a < b ∧ R) : a < b := h.2.2.2.2.2.2.2.2.2.2.2.2.2.2.2.2.2.1
theorem pa18 {b x x1 x2 x3 x4 x5 x6 x7 x8 x9 x10 x11 x12 x13 x14 x15 x16 x17 : Nat} {R : Prop} (h : x1 < b ∧ x2 < b ∧ x3 < b ∧ x4 < b ∧ x5 < b ∧ x6 < b ∧ x7 < b ∧ x8 < b ∧ x9 < b ∧ x10 < b ∧ x11 < b ∧ x12 < b ∧ x13 < b ∧ x14 < b ∧ x15 < b ∧ x16 < b ∧ x17 < b ∧ x < b ∧ R) : R := h.2.2.2.2.2.2.2.2.2.2.2.2.2.2.2.2.2.2
theorem pl19 {a b x1 x2 x3 x4 x5 x6 x7 x8 x9 x10 x11 x12 x13 x14 x15 x16 x17 x18 : Nat} {R : Prop} (h : x1 < b ∧ x2 < b ∧ x3 < b ∧ x4 < b ∧ x5 < b ∧ x6 < b ∧ x7 < b ∧ x8 < b ∧ x9 < b ∧ x10 < b ∧ x11 < b ∧ x12 < b ∧ x13 < b ∧ x14 < b ∧ x15 < b ∧ x16 < b ∧ x17 < b ∧ x18 < b ∧ a < b ∧ R) : a < b := h.2.2.2.2.2.2.2.2.2.2.2.2.2.2.2.2.2.2.1
theorem pa19 {b x x1 x2 x3 x4 x5 x6 x7 x8 x9 x10 x11 x12 x13 x14 x15 x16 x17 x18 : Nat} {R : Prop} (h : x1 < b ∧ x2 < b ∧ x3 < b ∧ x4 < b ∧ x5 < b ∧ x6 < b ∧ x7 < b ∧ x8 < b ∧ x9 < b ∧ x10 < b ∧ x11 < b ∧ x12 < b ∧ x13 < b ∧ x14 < b ∧ x15 < b ∧ x16 < b ∧ x17 < b ∧ x18 < b ∧ x < b ∧ R) : R := h.2.2.2.2.2.2.2.2.2.2.2.2.2.2.2.2.2.2.2
theorem pl20 {a b x1 x2 x3 x4 x5 x6 x7 x8 x9 x10 x11 x12 x13 x14 x15 x16 x17 x18 x19 : Nat} {R : Prop} (h : x1 < b ∧ x2 < b ∧ x3 < b ∧ x4 < b ∧ x5 < b ∧ x6 < b ∧ x7 < b ∧ x8 < b ∧ x9 < b ∧ x10 < b ∧ x11 < b ∧ x12 < b ∧ x13 < b ∧ x14 < b ∧ x15 < b ∧ x16 < b ∧ x17 < b ∧ x18 < b ∧ x19 < b ∧ a < b ∧ R) : a < b := h.2.2.2.2.2.2.2.2.2.2.2.2.2.2.2.2.2.2.2.1
theorem pa20 {b x x1 x2 x3 x4 x5 x6 x7 x8 x9 x10 x11 x12 x13 x14 x15 x16 x17 x18 x19 : Nat} {R : Prop} (h : x1 < b ∧ x2 < b ∧ x3 < b ∧ x4 < b ∧ x5 < b ∧ x6 < b ∧ x7 < b ∧ x8 < b ∧ x9 < b ∧ x10 < b ∧ x11 < b ∧ x12 < b ∧ x13 < b ∧ x14 < b ∧ x15 < b ∧ x16 < b ∧ x17 < b ∧ x18 < b ∧ x19 < b ∧ x < b ∧ R) : R := h.2.2.2.2.2.2.2.2.2.2.2.2.2.2.2.2.2.2.2.2
theorem pl21 {a b x1 x2 x3 x4 x5 x6 x7 x8 x9 x10 x11 x12 x13 x14 x15 x16 x17 x18 x19 x20 : Nat} {R : Prop} (h : x1 < b ∧ x2 < b ∧ x3 < b ∧ x4 < b ∧ x5 < b ∧ x6 < b ∧ x7 < b ∧ x8 < b ∧ x9 < b ∧ x10 < b ∧ x11 < b ∧ x12 < b ∧ x13 < b ∧ x14 < b ∧ x15 < b ∧ x16 < b ∧ x17 < b ∧ x18 < b ∧ x19 < b ∧ x20 < b ∧ a < b ∧ R) : a < b := h.2.2.2.2.2.2.2.2.2.2.2.2.2.2.2.2.2.2.2.2.1
theorem pa21 {b x x1 x2 x3 x4 x5 x6 x7 x8 x9 x10 x11 x12 x13 x14 x15 x16 x17 x18 x19 x20 : Nat} {R : Prop} (h : x1 < b ∧ x2 < b ∧ x3 < b ∧ x4 < b ∧ x5 < b ∧ x6 < b ∧ x7 < b ∧ x8 < b ∧ x9 < b ∧ x10 < b ∧ x11 < b ∧ x12 < b ∧ x13 < b ∧ x14 < b ∧ x15 < b ∧ x16 < b ∧ x17 < b ∧ x18 < b ∧ x19 < b ∧ x20 < b ∧ x < b ∧ R) : R := h.2.2.2.2.2.2.2.2.2.2.2.2.2.2.2.2.2.2.2.2.2
theorem pl22 {a b x1 x2 x3 x4 x5 x6 x7 x8 x9 x10 x11 x12 x13 x14 x15 x16 x17 x18 x19 x20 x21 : Nat} {R : Prop} (h : x1 < b ∧ x2 < b ∧ x3 < b ∧ x4 < b ∧ x5 < b ∧ x6 < b ∧ x7 < b ∧ x8 < b ∧ x9 < b ∧ x10 < b ∧ x11 < b ∧ x12 < b ∧ x13 < b ∧ x14 < b ∧ x15 < b ∧ x16 < b ∧ x17 < b ∧ x18 < b ∧ x19 < b ∧ x20 < b ∧ x21 < b ∧ a < b ∧ R) : a < b := h.2.2.2.2.2.2.2.2.2.2.2.2.2.2.2.2.2.2.2.2.2.1
theorem pa22 {b x x1 x2 x3 x4 x5 x6 x7 x8 x9 x10 x11 x12 x13 x14 x15 x16 x17 x18 x19 x20 x21 : Nat} {R : Prop} (h : x1 < b ∧ x2 < b ∧ x3 < b ∧ x4 < b ∧ x5 < b ∧ x6 < b ∧ x7 < b ∧ x8 < b ∧ x9 < b ∧ x10 < b ∧ x11 < b ∧ x12 < b ∧ x13 < b ∧ x14 < b ∧ x15 < b ∧ x16 < b ∧ x17 < b ∧ x18 < b ∧ x19 < b ∧ x20 < b ∧ x21 < b ∧ x < b ∧ R) : R := h.2.2.2.2.2.2.2.2.2.2.2.2.2.2.2.2.2.2.2.2.2.2
theorem pl23 {a b x1 x2 x3 x4 x5 x6 x7 x8 x9 x10 x11 x12 x13 x14 x15 x16 x17 x18 x19 x20 x21 x22 : Nat} {R : Prop} (h : x1 < b ∧ x2 < b ∧ x3 < b ∧ x4 < b ∧ x5 < b ∧ x6 < b ∧ x7 < b ∧ x8 < b ∧ x9 < b ∧ x10 < b ∧ x11 < b ∧ x12 < b ∧ x13 < b ∧ x14 < b ∧ x15 < b ∧ x16 < b ∧ x17 < b ∧ x18 < b ∧ x19 < b ∧ x20 < b ∧ x21 < b ∧ x22 < b ∧ a < b ∧ R) : a < b := h.2.2.2.2.2.2.2.2.2.2.2.2.2.2.2.2.2.2.2.2.2.2.1
theorem pa23 {b x x1 x2 x3 x4 x5 x6 x7 x8 x9 x10 x11 x12 x13 x14 x15 x16 x17 x18 x19 x20 x21 x22 : Nat} {R : Prop} (h : x1 < b ∧ x2 < b ∧ x3 < b ∧ x4 < b ∧ x5 < b ∧ x6 < b ∧ x7 < b ∧ x8 < b ∧ x9 < b ∧ x10 < b ∧ x11 < b ∧ x12 < b ∧ x13 < b ∧ x14 < b ∧ x15 < b ∧ x16 < b ∧ x17 < b ∧ x18 < b ∧ x19 < b ∧ x20 < b ∧ x21 < b ∧ x22 < b ∧ x < b ∧ R) : R := h.2.2.2.2.2.2.2.2.2.2.2.2.2.2.2.2.2.2.2.2.2.2.2
theorem pl24 {a b x1 x2 x3 x4 x5 x6 x7 x8 x9 x10 x11 x12 x13 x14 x15 x16 x17 x18 x19 x20 x21 x22 x23 : Nat} {R : Prop} (h : x1 < b ∧ x2 < b ∧ x3 < b ∧ x4 < b ∧ x5 < b ∧ x6 < b ∧ x7 < b ∧ x8 < b ∧ x9 < b ∧ x10 < b ∧ x11 < b ∧ x12 < b ∧ x13 < b ∧ x14 < b ∧ x15 < b ∧ x16 < b ∧ x17 < b ∧ x18 < b ∧ x19 < b ∧ x20 < b ∧ x21 < b ∧ x22 < b ∧ x23 < b ∧ a < b ∧ R) : a < b := h.2.2.2.2.2.2.2.2.2.2.2.2.2.2.2.2.2.2.2.2.2.2.2.1
theorem pa24 {b x x1 x2 x3 x4 x5 x6 x7 x8 x9 x10 x11 x12 x13 x14 x15 x16 x17 x18 x19 x20 x21 x22 x23 : Nat} {R : Prop} (h : x1 < b ∧ x2 < b ∧ x3 < b ∧ x4 < b ∧ x5 < b ∧ x6 < b ∧ x7 < b ∧ x8 < b ∧ x9 < b ∧ x10 < b ∧ x11 < b ∧ x12 < b ∧ x13 < b ∧ x14 < b ∧ x15 < b ∧ x16 < b ∧ x17 < b ∧ x18 < b ∧ x19 < b ∧ x20 < b ∧ x21 < b ∧ x22 < b ∧ x23 < b ∧ x < b ∧ R) : R := h.2.2.2.2.2.2.2.2.2.2.2.2.2.2.2.2.2.2.2.2.2.2.2.2
theorem pl25 {a b x1 x2 x3 x4 x5 x6 x7 x8 x9 x10 x11 x12 x13 x14 x15 x16 x17 x18 x19 x20 x21 x22 x23 x24 : Nat} {R : Prop} (h : x1 < b ∧ x2 < b ∧ x3 < b ∧ x4 < b ∧ x5 < b ∧ x6 < b ∧ x7 < b ∧ x8 < b ∧ x9 < b ∧ x10 < b ∧ x11 < b ∧ x12 < b ∧ x13 < b ∧ x14 < b ∧ x15 < b ∧ x16 < b ∧ x17 < b ∧ x18 < b ∧ x19 < b ∧ x20 < b ∧ x21 < b ∧ x22 < b ∧ x23 < b ∧ x24 < b ∧ a < b ∧ R) : a < b := h.2.2.2.2.2.2.2.2.2.2.2.2.2.2.2.2.2.2.2.2.2.2.2.2.1
theorem pa25 {b x x1 x2 x3 x4 x5 x6 x7 x8 x9 x10 x11 x12 x13 x14 x15 x16 x17 x18 x19 x20 x21 x22 x23 x24 : Nat} {R : Prop} (h : x1 < b ∧ x2 < b ∧ x3 < b ∧ x4 < b ∧ x5 < b ∧ x6 < b ∧ x7 < b ∧ x8 < b ∧ x9 < b ∧ x10 < b ∧ x11 < b ∧ x12 < b ∧ x13 < b ∧ x14 < b ∧ x15 < b ∧ x16 < b ∧ x17 < b ∧ x18 < b ∧ x19 < b ∧ x20 < b ∧ x21 < b ∧ x22 < b ∧ x23 < b ∧ x24 < b ∧ x < b ∧ R) : R := h.2.2.2.2.2.2.2.2.2.2.2.2.2.2.2.2.2.2.2.2.2.2.2.2.2
theorem pl26 {a b x1 x2 x3 x4 x5 x6 x7 x8 x9 x10 x11 x12 x13 x14 x15 x16 x17 x18 x19 x20 x21 x22 x23 x24 x25 : Nat} {R : Prop} (h : x1 < b ∧ x2 < b ∧ x3 < b ∧ x4 < b ∧ x5 < b ∧ x6 < b ∧ x7 < b ∧ x8 < b ∧ x9 < b ∧ x10 < b ∧ x11 < b ∧ x12 < b ∧ x13 < b ∧ x14 < b ∧ x15 < b ∧ x16 < b ∧ x17 < b ∧ x18 < b ∧ x19 < b ∧ x20 < b ∧ x21 < b ∧ x22 < b ∧ x23 < b ∧ x24 < b ∧ x25 < b ∧ a < b ∧ R) : a < b := h.2.2.2.2.2.2.2.2.2.2.2.2.2.2.2.2.2.2.2.2.2.2.2.2.2.1
theorem pa26 {b x x1 x2 x3 x4 x5 x6 x7 x8 x9 x10 x11 x12 x13 x14 x15 x16 x17 x18 x19 x20 x21 x22 x23 x24 x25 : Nat} {R : Prop} (h : x1 < b ∧ x2 < b ∧ x3 < b ∧ x4 < b ∧ x5 < b ∧ x6 < b ∧ x7 < b ∧ x8 < b ∧ x9 < b ∧ x10 < b ∧ x11 < b ∧ x12 < b ∧ x13 < b ∧ x14 < b ∧ x15 < b ∧ x16 < b ∧ x17 < b ∧ x18 < b ∧ x19 < b ∧ x20 < b ∧ x21 < b ∧ x22 < b ∧ x23 < b ∧ x24 < b ∧ x25 < b ∧ x < b ∧ R) : R := h.2.2.2.2.2.2.2.2.2.2.2.2.2.2.2.2.2.2.2.2.2.2.2.2.2.2
theorem pl27 {a b x1 x2 x3 x4 x5 x6 x7 x8 x9 x10 x11 x12 x13 x14 x15 x16 x17 x18 x19 x20 x21 x22 x23 x24 x25 x26 : Nat} {R : Prop} (h : x1 < b ∧ x2 < b ∧ x3 < b ∧ x4 < b ∧ x5 < b ∧ x6 < b ∧ x7 < b ∧ x8 < b ∧ x9 < b ∧ x10 < b ∧ x11 < b ∧ x12 < b ∧ x13 < b ∧ x14 < b ∧ x15 < b ∧ x16 < b ∧ x17 < b ∧ x18 < b ∧ x19 < b ∧ x20 < b ∧ x21 < b ∧ x22 < b ∧ x23 < b ∧ x24 < b ∧ x25 < b ∧ x26 < b ∧ a < b ∧ R) : a < b := h.2.2.2.2.2.2.2.2.2.2.2.2.2.2.2.2.2.2.2.2.2.2.2.2.2.2.1
theorem pa27 {b x x1 x2 x3 x4 x5 x6 x7 x8 x9 x10 x11 x12 x13 x14 x15 x16 x17 x18 x19 x20 x21 x22 x23 x24 x25 x26 : Nat} {R : Prop} (h : x1 < b ∧ x2 < b ∧ x3 < b ∧ x4 < b ∧ x5 < b ∧ x6 < b ∧ x7 < b ∧ x8 < b ∧ x9 < b ∧ x10 < b ∧ x11 < b ∧ x12 < b ∧ x13 < b ∧ x14 < b ∧ x15 < b ∧ x16 < b ∧ x17 < b ∧ x18 < b ∧ x19 < b ∧ x20 < b ∧ x21 < b ∧ x22 < b ∧ x23 < b ∧ x24 < b ∧ x25 < b ∧ x26 < b ∧ x < b ∧ R) : R := h.2.2.2.2.2.2.2.2.2.2.2.2.2.2.2.2.2.2.2.2.2.2.2.2.2.2.2
theorem pl28 {a b x1 x2 x3 x4 x5 x6 x7 x8 x9 x10 x11 x12 x13 x14 x15 x16 x17 x18 x19 x20 x21 x22 x23 x24 x25 x26 x27 : Nat} {R : Prop} (h : x1 < b ∧ x2 < b ∧ x3 < b ∧ x4 < b ∧ x5 < b ∧ x6 < b ∧ x7 < b ∧ x8 < b ∧ x9 < b ∧ x10 < b ∧ x11 < b ∧ x12 < b ∧ x13 < b ∧ x14 < b ∧ x15 < b ∧ x16 < b ∧ x17 < b ∧ x18 < b ∧ x19 < b ∧ x20 < b ∧ x21 < b ∧ x22 < b ∧ x23 < b ∧ x24 < b ∧ x25 < b ∧ x26 < b ∧ x27 < b ∧ a < b ∧ R) : a < b := h.2.2.2.2.2.2.2.2.2.2.2.2.2.2.2.2.2.2.2.2.2.2.2.2.2.2.2.1
theorem pa28 {b x x1 x2 x3 x4 x5 x6 x7 x8 x9 x10 x11 x12 x13 x14 x15 x16 x17 x18 x19 x20 x21 x22 x23 x24 x25 x26 x27 : Nat} {R : Prop} (h : x1 < b ∧ x2 < b ∧ x3 < b ∧ x4 < b ∧ x5 < b ∧ x6 < b ∧ x7 < b ∧ x8 < b ∧ x9 < b ∧ x10 < b ∧ x11 < b ∧ x12 < b ∧ x13 < b ∧ x14 < b ∧ x15 < b ∧ x16 < b ∧ x17 < b ∧ x18 < b ∧ x19 < b ∧ x20 < b ∧ x21 < b ∧ x22 < b ∧ x23 < b ∧ x24 < b ∧ x25 < b ∧ x26 < b ∧ x27 < b ∧ x < b ∧ R) : R := h.2.2.2.2.2.2.2.2.2.2.2.2.2.2.2.2.2.2.2.2.2.2.2.2.2.2.2.2
theorem pl29 {a b x1 x2 x3 x4 x5 x6 x7 x8 x9 x10 x11 x12 x13 x14 x15 x16 x17 x18 x19 x20 x21 x22 x23 x24 x25 x26 x27 x28 : Nat} {R : Prop} (h : x1 < b ∧ x2 < b ∧ x3 < b ∧ x4 < b ∧ x5 < b ∧ x6 < b ∧ x7 < b ∧ x8 < b ∧ x9 < b ∧ x10 < b ∧ x11 < b ∧ x12 < b ∧ x13 < b ∧ x14 < b ∧ x15 < b ∧ x16 < b ∧ x17 < b ∧ x18 < b ∧ x19 < b ∧ x20 < b ∧ x21 < b ∧ x22 < b ∧ x23 < b ∧ x24 < b ∧ x25 < b ∧ x26 < b ∧ x27 < b ∧ x28 < b ∧ a < b ∧ R) : a < b := h.2.2.2.2.2.2.2.2.2.2.2.2.2.2.2.2.2.2.2.2.2.2.2.2.2.2.2.2.1
theorem pa29 {b x x1 x2 x3 x4 x5 x6 x7 x8 x9 x10 x11 x12 x13 x14 x15 x16 x17 x18 x19 x20 x21 x22 x23 x24 x25 x26 x27 x28 : Nat} {R : Prop} (h : x1 < b ∧ x2 < b ∧ x3 < b ∧ x4 < b ∧ x5 < b ∧ x6 < b ∧ x7 < b ∧ x8 < b ∧ x9 < b ∧ x10 < b ∧ x11 < b ∧ x12 < b ∧ x13 < b ∧ x14 < b ∧ x15 < b ∧ x16 < b ∧ x17 < b ∧ x18 < b ∧ x19 < b ∧ x20 < b ∧ x21 < b ∧ x22 < b ∧ x23 < b ∧ x24 < b ∧ x25 < b ∧ x26 < b ∧ x27 < b ∧ x28 < b ∧ x < b ∧ R) : R := h.2.2.2.2.2.2.2.2.2.2.2.2.2.2.2.2.2.2.2.2.2.2.2.2.2.2.2.2.2
theorem pl30 {a b x1 x2 x3 x4 x5 x6 x7 x8 x9 x10 x11 x12 x13 x14 x15 x16 x17 x18 x19 x20 x21 x22 x23 x24 x25 x26 x27 x28 x29 : Nat} {R : Prop} (h : x1 < b ∧ x2 < b ∧ x3 < b ∧ x4 < b ∧ x5 < b ∧ x6 < b ∧ x7 < b ∧ x8 < b ∧ x9 < b ∧ x10 < b ∧ x11 < b ∧ x12 < b ∧ x13 < b ∧ x14 < b ∧ x15 < b ∧ x16 < b ∧ x17 < b ∧ x18 < b ∧ x19 < b ∧ x20 < b ∧ x21 < b ∧ x22 < b ∧ x23 < b ∧ x24 < b ∧ x25 < b ∧ x26 < b ∧ x27 < b ∧ x28 < b ∧ x29 < b ∧ a < b ∧ R) : a < b := h.2.2.2.2.2.2.2.2.2.2.2.2.2.2.2.2.2.2.2.2.2.2.2.2.2.2.2.2.2.1
theorem pa30 {b x x1 x2 x3 x4 x5 x6 x7 x8 x9 x10 x11 x12 x13 x14 x15 x16 x17 x18 x19 x20 x21 x22 x23 x24 x25 x26 x27 x28 x29 : Nat} {R : Prop} (h : x1 < b ∧ x2 < b ∧ x3 < b ∧ x4 < b ∧ x5 < b ∧ x6 < b ∧ x7 < b ∧ x8 < b ∧ x9 < b ∧ x10 < b ∧ x11 < b ∧ x12 < b ∧ x13 < b ∧ x14 < b ∧ x15 < b ∧ x16 < b ∧ x17 < b ∧ x18 < b ∧ x19 < b ∧ x20 < b ∧ x21 < b ∧ x22 < b ∧ x23 < b ∧ x24 < b ∧ x25 < b ∧ x26 < b ∧ x27 < b ∧ x28 < b ∧ x29 < b ∧ x < b ∧ R) : R := h.2.2.2.2.2.2.2.2.2.2.2.2.2.2.2.2.2.2.2.2.2.2.2.2.2.2.2.2.2.2
theorem rm0 {d k r : Nat} (h : d + k < r) : d < r := by omega
theorem rm1 {d k r a : Nat} (h : d + k < r) (e : Nat.ble a k = true) : d + a < r := by have := Nat.le_of_ble_eq_true e; omega
theorem rm2 {d k r a b : Nat} (h : d + k < r) (e : Nat.ble (a + b) k = true) : d + a + b < r := by have := Nat.le_of_ble_eq_true e; omega
theorem rm3 {d k r a b c : Nat} (h : d + k < r) (e : Nat.ble (a + b + c) k = true) : d + a + b + c < r := by have := Nat.le_of_ble_eq_true e; omega
def Seq (M : Model) (A : Around) (rest : List Stmt) (env : Env) (Q : Flow → Shared → Prop) (E : Value → Shared → Prop) : Flow → Shared → Prop :=
  fun f s' => match f with | .next => wpAny M A (execs rest env) Q E s' | f => Q f s'
section
variable {M : Model} {A : Around} {st : Stmt} {rest : List Stmt} {env : Env} {Q : Flow → Shared → Prop} {E : Value → Shared → Prop} {s s₀ : Shared} {h : Heap} {T : Nat} {v : Value}
theorem seq_start (H : ∀ tk, let q := Seq M A rest env Q E; wpAny M A (exec st env) q E { s₀ with heap := h, toks := tk }) :
    wpAny M A (execs (st :: rest) env) Q E { s₀ with heap := h, toks := T } := wpAny_execs_cons (H T)
theorem seq_go (H : ∀ tk, let q := Seq M A rest env Q E; wpAny M A (exec st env) q E { s₀ with heap := h, toks := tk }) :
    Seq M A (st :: rest) env Q E .next { s₀ with heap := h, toks := T } := seq_start H
theorem seq_startS (H : let q := Seq M A rest env Q E; wpAny M A (exec st env) q E s) : wpAny M A (execs (st :: rest) env) Q E s := wpAny_execs_cons H
theorem seq_goS (H : let q := Seq M A rest env Q E; wpAny M A (exec st env) q E s) : Seq M A (st :: rest) env Q E .next s := wpAny_execs_cons H
theorem seq_end (H : Q .next s) : Seq M A [] env Q E .next s := wpAny_execs_nil H
theorem seq_ret (H : Q (.ret v) s) : Seq M A rest env Q E (.ret v) s := H
theorem seq_brk (H : Q .brk s) : Seq M A rest env Q E .brk s := H
theorem seq_cont (H : Q .cont s) : Seq M A rest env Q E .cont s := H
theorem name_in {body : List Stmt} (H : let e := env; let B := A; let N := M; let q := Q; let x := E; wpAny N B (execs body e) q x s) : wpAny M A (execs body env) Q E s := H
theorem name_q {body : List Stmt} (H : let q := Q; let x := E; wpAny M A (execs body env) q x s) : wpAny M A (execs body env) Q E s := H
end
/-- what lies in a list, by its place -/
theorem ix_mem {α : Type} {l : List α} {x : α} (k : Nat) (h : l[k]? = some x) : x ∈ l := List.mem_of_getElem? h
theorem ix_tl {α : Type} {l r : List α} {x : α} (k : Nat) (h : l.drop k = r) (hx : x ∈ r) : x ∈ l := List.mem_of_mem_drop (h ▸ hx)
theorem ix_sub {α : Type} {old new : List α} (is : List Nat) (h : is.map (fun i => old[i]?) = new.map some) : ∀ p ∈ new, p ∈ old := fun p hp => by
  have h1 : some p ∈ new.map some := List.mem_map.mpr ⟨p, hp, rfl⟩
  rw [← h] at h1
  obtain ⟨i, _, e⟩ := List.mem_map.mp h1
  exact List.mem_of_getElem? e
theorem ix_subT {α : Type} {old new r : List α} (is : List Nat) (h : is.map (fun i => old[i]?) = (new.take is.length).map some) (e : new.drop is.length = r) (hr : ∀ p ∈ r, p ∈ old) : ∀ p ∈ new, p ∈ old := fun p hp => by
  rw [← List.take_append_drop is.length new] at hp
  rcases List.mem_append.mp hp with hp | hp
  · exact ix_sub is h p hp
  · exact hr p (e ▸ hp)
theorem ix_all {α : Type} {old r : List α} (k : Nat) (h : old.drop k = r) : ∀ p ∈ r, p ∈ old := fun _ hp => List.mem_of_mem_drop (h ▸ hp)
theorem sub_app {α : Type} {a b old : List α} (h1 : ∀ p ∈ a, p ∈ old) (h2 : ∀ p ∈ b, p ∈ old) : ∀ p ∈ a ++ b, p ∈ old := fun p hp => (List.mem_append.mp hp).elim (h1 p) (h2 p)
theorem sub_L {α : Type} {a b c : List α} (h : ∀ p ∈ c, p ∈ a) : ∀ p ∈ c, p ∈ a ++ b := fun p hp => List.mem_append_left _ (h p hp)
theorem sub_R {α : Type} {a b c : List α} (h : ∀ p ∈ c, p ∈ b) : ∀ p ∈ c, p ∈ a ++ b := fun p hp => List.mem_append_right _ (h p hp)
theorem sub_D {α : Type} {old r c : List α} (k : Nat) (e : old.drop k = r) (h : ∀ p ∈ c, p ∈ r) : ∀ p ∈ c, p ∈ old := fun p hp => List.mem_of_mem_drop (e ▸ h p hp)
theorem sub_rfl {α : Type} {a : List α} : ∀ p ∈ a, p ∈ a := fun _ h => h
theorem sub_mid {α : Type} {a r : List α} {q : α} : ∀ p ∈ a ++ r, p ∈ a ++ q :: r := sub_app (sub_L sub_rfl) (sub_R fun _ h => .tail _ h)
theorem sub_nil {α : Type} {a : List α} : ∀ p ∈ ([] : List α), p ∈ a := fun _ h => nomatch h
theorem sub_cons {α : Type} {x : α} {c a : List α} (h : x ∈ a) (hs : ∀ p ∈ c, p ∈ a) : ∀ p ∈ x :: c, p ∈ a := fun p hp => by
  rcases List.mem_cons.mp hp with rfl | hp
  · exact h
  · exact hs p hp
/-- apart, list by list -/
theorem off_nil {bs : List Addr} : OwnOff [] bs := fun _ h => nomatch h
theorem off_con {a : Addr} {o : Obj} {l : List (Addr × Obj)} {bs : List Addr} (h1 : ∀ b ∈ bs, a ≠ b) (h : OwnOff l bs) : OwnOff ((a, o) :: l) bs := fun p hp => by
  rcases List.mem_cons.mp hp with rfl | hp
  · exact h1
  · exact h p hp
theorem off_app {l r : List (Addr × Obj)} {bs : List Addr} (h1 : OwnOff l bs) (h : OwnOff r bs) : OwnOff (l ++ r) bs := fun p hp => (List.mem_append.mp hp).elim (h1 p) (h p)
theorem nb_nil {a : Addr} : ∀ b ∈ ([] : List Addr), a ≠ b := fun _ h => nomatch h
theorem nb_con {a x : Addr} {bs : List Addr} (h : a ≠ x) (hs : ∀ b ∈ bs, a ≠ b) : ∀ b ∈ x :: bs, a ≠ b := fun b hb => by
  rcases List.mem_cons.mp hb with rfl | hb
  · exact h
  · exact hs b hb
theorem nb_map {a : Addr} {l : List (Addr × Obj)} (h : ∀ p ∈ l, a ≠ p.1) : ∀ b ∈ l.map (·.1), a ≠ b := fun b hb => by
  obtain ⟨p, hp, rfl⟩ := List.mem_map.mp hb
  exact h p hp
/-- apart, by places in a falling row of addresses -/
def Falls : List Nat → Prop
  | a :: b :: r => b < a ∧ Falls (b :: r)
  | _ => True
theorem Falls.one {a : Nat} : Falls [a] := True.intro
theorem Falls.cons {a b : Nat} {r : List Nat} (h : b < a) (t : Falls (b :: r)) : Falls (a :: b :: r) := ⟨h, t⟩
theorem Falls.lt : ∀ {l : List Nat} {a : Nat}, Falls (a :: l) → ∀ b ∈ l, b < a
  | b :: r, a, ⟨h, t⟩, x, hx => by
    rcases List.mem_cons.mp hx with rfl | hx
    · exact h
    · exact Nat.lt_trans (Falls.lt t x hx) h
theorem Falls.tl {a : Nat} : ∀ {l : List Nat}, Falls (a :: l) → Falls l
  | [], _ => True.intro
  | _ :: _, h => h.2
theorem Falls.at : ∀ {l : List Nat} (i j : Nat) {a b : Nat}, Falls l → Nat.blt i j = true → l[i]? = some a → l[j]? = some b → b < a
  | x :: l, 0, j + 1, a, b, h, _, ha, hb => by
    have e : x = a := Option.some.inj ha
    exact e ▸ Falls.lt h b (List.mem_of_getElem? hb)
  | x :: l, i + 1, j + 1, a, b, h, hij, ha, hb => Falls.at i j (Falls.tl h) hij ha hb
theorem Falls.ne {l : List Nat} (h : Falls l) (i j : Nat) {a b : Nat} (ij : Nat.beq i j = false) (ha : l[i]? = some a) (hb : l[j]? = some b) : a ≠ b := by
  rcases Nat.lt_or_gt_of_ne (Nat.ne_of_beq_eq_false ij) with k | k
  · exact Nat.ne_of_gt (Falls.at i j h (Nat.ble_eq_true_of_le k) ha hb)
  · exact Nat.ne_of_lt (Falls.at j i h (Nat.ble_eq_true_of_le k) hb ha)
/-- all of ps (at places is of the row) are apart from all of bs (at places js) -/
theorem Falls.off {l : List Nat} (h : Falls l) (is js : List Nat) {ps : List (Addr × Obj)} {bs : List Addr} (hp : is.map (fun i => l[i]?) = ps.map (fun p => some p.1)) (hb : js.map (fun i => l[i]?) = bs.map some)
    (hd : (is.all fun i => js.all fun j => !(Nat.beq i j)) = true) : OwnOff ps bs := fun p hpm b hbm => by
  have h1 : some p.1 ∈ ps.map (fun p => some p.1) := List.mem_map.mpr ⟨p, hpm, rfl⟩
  have h2 : some b ∈ bs.map some := List.mem_map.mpr ⟨b, hbm, rfl⟩
  rw [← hp] at h1
  rw [← hb] at h2
  obtain ⟨i, hi, ei⟩ := List.mem_map.mp h1
  obtain ⟨j, hj, ej⟩ := List.mem_map.mp h2
  have hn := List.all_eq_true.mp (List.all_eq_true.mp hd i hi) j hj
  exact Falls.ne h i j (by simpa using hn) ei ej
theorem Falls.nb {l : List Nat} (h : Falls l) (i : Nat) (js : List Nat) {a : Addr} {bs : List Addr} (ha : l[i]? = some a) (hb : js.map (fun i => l[i]?) = bs.map some) (hd : (js.all fun j => !(Nat.beq i j)) = true) : ∀ b ∈ bs, a ≠ b := fun b hbm => by
  have h2 : some b ∈ bs.map some := List.mem_map.mpr ⟨b, hbm, rfl⟩
  rw [← hb] at h2
  obtain ⟨j, hj, ej⟩ := List.mem_map.mp h2
  exact Falls.ne h i j (by simpa using List.all_eq_true.mp hd j hj) ha ej
/-- what is below the i-th is apart from all at places up to i -/
theorem Falls.low {l : List Nat} (h : Falls l) (i : Nat) (js : List Nat) {c a : Addr} {bs : List Addr} (d : c < a) (ha : l[i]? = some a) (hb : js.map (fun i => l[i]?) = bs.map some) (hd : (js.all fun j => Nat.ble j i) = true) : ∀ b ∈ bs, c ≠ b := fun b hbm => by
  have h2 : some b ∈ bs.map some := List.mem_map.mpr ⟨b, hbm, rfl⟩
  rw [← hb] at h2
  obtain ⟨j, hj, ej⟩ := List.mem_map.mp h2
  have k := Nat.le_of_ble_eq_true (List.all_eq_true.mp hd j hj)
  rcases Nat.lt_or_eq_of_le k with k | k
  · exact Nat.ne_of_lt (Nat.lt_trans d (Falls.at j i h (Nat.ble_eq_true_of_le k) ej ha))
  · rw [k, ha] at ej
    exact Nat.ne_of_lt (Option.some.inj ej ▸ d)
theorem Falls.nodup : ∀ {l : List Nat}, Falls l → l.Nodup
  | [], _ => List.nodup_nil
  | [_], _ => List.nodup_cons.mpr ⟨List.not_mem_nil, List.nodup_nil⟩
  | a :: b :: r, h => List.nodup_cons.mpr ⟨fun hm => Nat.lt_irrefl _ (Falls.lt h a hm), Falls.nodup h.2⟩
/-- numbers apart, by reckoning -/
theorem ne_c {a b : Nat} (h : Nat.beq a b = false) : a ≠ b := Nat.ne_of_beq_eq_false h
theorem ne_a {a j b : Nat} (h : Nat.blt b a = true) : a + j ≠ b := Nat.ne_of_gt (Nat.lt_of_lt_of_le (Nat.le_of_ble_eq_true h) (Nat.le_add_right a j))
theorem ne_b {a j b : Nat} (h : Nat.blt b a = true) : b ≠ a + j := Ne.symm (ne_a h)
theorem ne_d {a b i j : Nat} (hi : i < 2) (h : Nat.ble (a + 2) b = true) : a + i ≠ b + j := Nat.ne_of_lt (Nat.lt_of_lt_of_le (Nat.add_lt_add_left hi a) (Nat.le_trans (Nat.le_of_ble_eq_true h) (Nat.le_add_right b j)))
theorem ne_e {a b i j : Nat} (hi : i < 2) (h : Nat.ble (a + 2) b = true) : b + j ≠ a + i := Ne.symm (ne_d hi h)
theorem ne_f {a i j : Nat} (h : i ≠ j) : a + i ≠ a + j := fun e => h (Nat.add_left_cancel e)
theorem lt_c {a b : Nat} (h : Nat.blt a b = true) : a < b := Nat.le_of_ble_eq_true h
theorem lt_a {a i b : Nat} (hi : i < 2) (h : Nat.ble (a + 2) b = true) : a + i < b := Nat.lt_of_lt_of_le (Nat.add_lt_add_left hi a) (Nat.le_of_ble_eq_true h)
theorem allLt_mono {d c : Nat} : ∀ {l : List (Addr × Obj)}, AllLt d l → d < c → AllLt c l
  | [], _, _ => trivial
  | _ :: _, h, k => ⟨Nat.lt_trans h.1 k, allLt_mono h.2 k⟩
theorem put_put {x : Str} {a b : Option Value} {m : Str → Option Value} : (fun y => if y = x then a else if y = x then b else m y) = fun y => if y = x then a else m y := by
  funext y
  split <;> rfl
theorem fr_put2 {h₀ h : Heap} {L : Addr} {x : Str} {a b : Option Value} {m : Str → Option Value} (F : Fr h₀ L h (fun y => if y = x then a else if y = x then b else m y)) : Fr h₀ L h (fun y => if y = x then a else m y) := put_put (x := x) (a := a) (b := b) (m := m) ▸ F
theorem put_self {x : Str} {m : Str → Option Value} : m = fun y => if y = x then m x else m y := by
  funext y
  split
  · next e => rw [e]
  · rfl
theorem unrPost_imp {h₀ : Heap} {L I : Addr} {s₁ : Shared} {it : Obj} {J J' : (Str → Option Value) → List (Addr × Obj) → Prop} {Q : Flow → Shared → Prop} (h : ∀ m n, J m n → J' m n) : ∀ f s₂, UnrPost h₀ L s₁ I it J Q f s₂ → UnrPost h₀ L s₁ I it J' Q f s₂ := fun f s₂ p => by
  have fin : UnrEnd h₀ L s₁ I it J s₂ → UnrEnd h₀ L s₁ I it J' s₂ := fun ⟨h', tk', m', news', e1, F1, N1, ho, j⟩ => ⟨h', tk', m', news', e1, F1, N1, ho, h _ _ j⟩
  cases f with
  | ret _ => exact p
  | brk => exact p
  | next => exact fin p
  | cont => exact fin p
theorem fill_P01 : Challenge.rw_xm0171_01 = Challenge.rw_xm0171_01 ∧ Mine.hd.heap_39 = Mine.hd.heap_39 := by
  k_fill
  w_top off
  k_with_none
  k_with "gnd" => ((case u0 => k_asm); (case u1 => k_asm); (case u2 => k_asm); (case u3 => k_asm); (case u4 => first | exact rfl | assumption); (case u5 => ktr_room); (case u6 => ktr_units); (case u7 => k_asm))
  k_with "kln_le" => (first | exact ne_c rfl | exact lt_c rfl | exact ne_a rfl | exact ne_b rfl | exact ne_d (by assumption) rfl | exact ne_e (by assumption) rfl | exact lt_a (by assumption) rfl | exact ne_f (by assumption) | exact ne_f (Ne.symm (by assumption)) | exact ne_g (by assumption) rfl | exact ne_two (by assumption) (by assumption) (by assumption) | exact or5 (by assumption) (by kln_le) (by kln_le) (by kln_le) (by kln_le) (by kln_le) | omega)
  k_with "pl" => (with_reducible first | exact pl1 (by assumption) | exact pl2 (by assumption) | exact pl3 (by assumption) | exact pl4 (by assumption) | exact pl5 (by assumption) | exact pl6 (by assumption) | exact pl7 (by assumption) | exact pl8 (by assumption) | exact pl9 (by assumption) | exact pl10 (by assumption) | exact pl11 (by assumption) | exact pl12 (by assumption) | exact pl13 (by assumption) | exact pl14 (by assumption) | exact pl15 (by assumption) | exact pl16 (by assumption) | exact pl17 (by assumption) | exact pl18 (by assumption) | exact pl19 (by assumption) | exact pl20 (by assumption) | exact pl21 (by assumption) | exact pl22 (by assumption) | exact pl23 (by assumption) | exact pl24 (by assumption) | exact pl25 (by assumption) | exact pl26 (by assumption) | exact pl27 (by assumption) | exact pl28 (by assumption) | exact pl29 (by assumption) | exact pl30 (by assumption))
  k_with "pa" => (with_reducible first | exact pa1 (by assumption) | exact pa2 (by assumption) | exact pa3 (by assumption) | exact pa4 (by assumption) | exact pa5 (by assumption) | exact pa6 (by assumption) | exact pa7 (by assumption) | exact pa8 (by assumption) | exact pa9 (by assumption) | exact pa10 (by assumption) | exact pa11 (by assumption) | exact pa12 (by assumption) | exact pa13 (by assumption) | exact pa14 (by assumption) | exact pa15 (by assumption) | exact pa16 (by assumption) | exact pa17 (by assumption) | exact pa18 (by assumption) | exact pa19 (by assumption) | exact pa20 (by assumption) | exact pa21 (by assumption) | exact pa22 (by assumption) | exact pa23 (by assumption) | exact pa24 (by assumption) | exact pa25 (by assumption) | exact pa26 (by assumption) | exact pa27 (by assumption) | exact pa28 (by assumption) | exact pa29 (by assumption) | exact pa30 (by assumption))
  k_with "execs cons" => ((k_here; with_reducible first | (refine seq_start (s₀ := s) ?_; intro tkz9 qz9) | (refine seq_startS ?_; intro qz9; (try k_gentoks))))
  k_with "Seq" => ((k_here; with_reducible first | (refine seq_go (s₀ := s) ?_; intro tkz9 qz9) | (refine seq_goS ?_; intro qz9; (try k_gentoks)) | refine seq_end ?_ | refine seq_ret ?_ | refine seq_brk ?_ | refine seq_cont ?_))
  k_with "k_fold" => ((refine name_in ?_; intro e9z9 B9z9 M9z9 q9z9 x9z9))
  k_with "k_steps" => (repeat' (first | walk1 | (k_end; wrow_close) | (dsimp only; walk1) | (leave1; walk_say "STEP leave1"; try dsimp only) | (k_unfold; (try dsimp only)) | fail "no step"))
  k_with "storeName" => ((k_here; k_dflt (refine' storeLet ?F ?N ?_ ?a ?b; (case a => first | assumption | rfl); (case b => rfl); (case F => k_asm); (case N => k_asm); k_whole); intro hz9 mz9 Fz9 Nz9; (try k_sweep)))
  k_with "subscriptTail Name Constant ref int" => ((k_here; k_dflt (refine' item_tupleT ?t ?a ?b ?c ?d ?_; (case t => exact News.isTup (by k_asm) (rowsAt (by assumption) (by ktr_rel))); (case a => decide); (case b => decide); (case c => rfl); (case d => rfl))))
  k_with "kby_size" => (first | (rename ((_ ≠ _ ∧ _ ≠ _ ∧ _ ≠ _) ∧ _) => q9z9; with_reducible first | exact q9z9.1.1 | exact Ne.symm q9z9.1.1 | exact q9z9.1.2.1 | exact Ne.symm q9z9.1.2.1 | exact q9z9.1.2.2 | exact Ne.symm q9z9.1.2.2 | (replace q9z9 := q9z9.2; kby_size)) | (rename (_ ≠ _ ∧ _ ≠ _ ∧ _ ≠ _) => q9z9; with_reducible first | exact q9z9.1 | exact Ne.symm q9z9.1 | exact q9z9.2.1 | exact Ne.symm q9z9.2.1 | exact q9z9.2.2 | exact Ne.symm q9z9.2.2))
  k_with "k_ne" => (first | kby_size | (refine neN ?_; (try dsimp only); omega (config := { splitDisjunctions := false })))
  k_with "k_ne" => (first | kby_size | (refine neN (Nat.ne_of_gt ?_); k_extra "pl") | (refine neN (Nat.ne_of_lt ?_); k_extra "pl"))
  k_with "ktr_room" => (first | exact rm2 (by assumption) rfl | exact rm1 (by assumption) rfl | exact rm0 (by assumption) | exact rm3 (by assumption) rfl)
  k_with "ktr_units" => (first | exact rm2 (by assumption) rfl | exact rm1 (by assumption) rfl | exact rm0 (by assumption) | exact rm3 (by assumption) rfl)
  k_with "k_mem" => (first | assumption | exact RowsIn.at (by assumption) (by assumption))
  k_with "subscriptTail" => ((k_here; (with_reducible show wpAny _ _ (subscriptTail _ _ (Value.ref _) (Value.str _ _)) _ _ _); k_dflt (refine' kda_item (knd := PySem.strKind _ _) ?N ?hp ?hd (strKind_is _ _ _ _) ?hl ?_; (case N => k_asm); (case hp => k_mem); (case hd => k_asm); (case hl => rfl)); (try dsimp only)))
  k_with "exec For Name Subscript cons nil" => ((k_here; (rename Fr _ _ _ _ => lFz9); (with_unfolding_all refine' For_invVF lFz9 ?k1 ?k2 ?_; (case k1 => exact rfl); (case k2 => exact rfl); k_whole)))
  k_with "eval ListComp" => ((k_here; (with_reducible show wpAny _ _ (eval (Expr.ListComp _ [Comprehension.mk (Expr.Name _ _) _ [_] _] _ _) _) _ _ _); k_dflt (refine LCt.ListComp_T (F₀ := by k_asm) (by with_unfolding_all rfl) (by decide) (by rfl) (by decide) (by rfl) ?_)))
  k_with "CompSrcT" => ((k_here; k_dflt (refine LCt.CompSrcT.ledger (by rfl) (by k_asm) (by k_asm) (by k_mem) (by first | size_fits | (simp only [List.size_toArray, List.length_map, sizeLine_eq]; omega)) ?_); intro gz9))
  k_with "setItem ref str" => ((k_here; k_dflt (refine' kda_set (knd := PySem.strKind _ _) ?F ?N ?U ?d (strKind_is _ _ _ _) ?z ?_; (case F => k_asm); (case N => k_asm); (case U => k_updF); (case d => k_asm); (case z => rw [sizeLine_eq]; exact Nat.le_of_ble_eq_true (by with_unfolding_all rfl))); intro hz9 oz9 Fz9 Nz9 hdz9; (try dsimp only at Nz9)))
  k_with "is_list" => (exact News.isList (by k_asm) (by k_mem))
  k_with "ke_room" => (ktr_units)
  k_with "k_units" => (ktr_units)
  exact ⟨rfl, rfl⟩
def hits (k : Bool) (n : Int) (r : Row) : Bool := r.k == k && r.n == n
theorem kStr_inj {a b : Bool} : (kStr a == kStr b) = (a == b) := by cases a <;> cases b <;> decide
structure ChTok where
  k1 : Int
  u1 : Tok
  k2 : Int
  u2 : Tok
structure OneTok where
  k1 : Int
  u1 : Tok
  k2 : Int
  u2 : Tok
  k3 : Int
  u3 : Tok
abbrev chDict (t : ChTok) (chl w' : Addr) : Obj := dictOf [⟨t.k1, .str "channels" t.u1, .ref chl⟩, ⟨t.k2, .str "waiting" t.u2, .ref w'⟩] 2
abbrev oneDict (t : OneTok) (room : Int) (tr : Tok) (l : Addr) (b : Bool) : Obj := dictOf [⟨t.k1, .str "room" t.u1, .int room tr⟩, ⟨t.k2, .str "held" t.u2, .ref l⟩, ⟨t.k3, .str "is_closed" t.u3, .bool b⟩] 3
abbrev bkKvs (br bh bc : Addr) (w' : Addr) : List (Str × Value) := [("rooms", .ref br), ("held", .ref bh), ("closed", .ref bc), ("waiting", .ref w')]
set_option maxRecDepth 100000 in
set_option maxHeartbeats 8000000 in
theorem first_rule {prog : Program} {w : World} {p : Program} {loose : List Str} {mean : ExcName → Option Value} {mg mb : Str → Option Value}
  {dp un : Nat} {gd : Option (List Code)} {cn : Str} {cs : Scope} {a : Addr} {ccd : Value} {cl : List (Str × Addr)} {outer : List Env} {A₀ : Around} {base h₀ : Heap} {L : Addr} {m : Str → Option Value} {s : Shared} {Q E : Value → Shared → Prop}
  {news : List (Addr × Obj)}
  {x dx w' chl : Addr} {ct : ChTok} {nw : Nat} {rows : List LRow} {k : Bool} {n : Int} {tk tn : Tok}
  (B : Below A₀ base outer h₀) (F : Fr h₀ L s.heap m) (X : (Mine.hd.heap_39 w.params).In h₀) (T : Top p loose mean mg mb h₀) (hk : cs.kind = .function) (hdp : dp + 10 < recursionLimit) (hun : un + 80 < cLine) (N : News h₀ L s.heap news)
  (hx : (x, instObj 155 dx) ∈ news) (hdx : (dx, chDict ct chl w') ∈ news)
  (hw : (w', listOf (refsOf rows).toArray nw) ∈ news) (hr : RowsIn rows news)
  (hret : ∀ h' tk', Fr h₀ L h' m → News h₀ L h' news → rows.find? (fun l => hits k n l.r) = none → Q .none { s with heap := h', toks := tk' })
  (hret2 : ∀ l h' tk', Fr h₀ L h' m → News h₀ L h' news → rows.find? (fun l => hits k n l.r) = some l → l ∈ rows → Q (.ref l.a) { s with heap := h', toks := tk' }) :
  wpAny (model prog w) (ktrTop dp un gd cn cs L a ccd cl outer) (call (.ref 84) [.ref x, .str (kStr k) tk, .int n tn]) Q E s := by
  refine wpAny_call ?_
  k_dflt ktr_enter
  k_steps
  rename Fr _ _ _ _ => lF'
  rename News _ _ _ _ => lN'
  k_dflt refine' iter_listS (fun l : LRow => Value.ref l.a) rows (fun pre => pre.find? (fun l => hits k n l.r) = none) ?hh lF' lN' hw ?hc ?hd ?hj ?turn ?done
  case hh => exact rfl
  case hc => exact rfl
  case hd => exact rfl
  case hj => exact rfl
  case turn =>
    intro I it pre v post h tk e hI hit hP F' N'
    have hv := hr v (by rw [e]; simp)
    have hf : rows.find? (fun l => hits k n l.r) = if hits k n v.r then some v else post.find? (fun l => hits k n l.r) := by
      rw [e, List.find?_append, hP, List.find?_cons]; cases hits k n v.r <;> rfl
    k_steps
    · refine hret2 v _ _ (by assumption) (News.tail' (by assumption)) ?_ (by rw [e]; simp)
      have h1 : hits k n v.r = true := by simp_all [hits, kStr_inj]
      rw [hf, h1]; rfl
    all_goals
      refine UnrEnd.intro (by assumption) (by assumption) news (fun p hp => hp) (fun p hp => Nat.ne_of_lt (hI p hp)) ⟨rfl, rfl, ?_⟩
      have h1 : hits k n v.r = false := by simp_all [hits, kStr_inj]
      rw [List.find?_append, hP]; simp [h1]
  case done =>
    intro u h tk hP F' N'
    k_steps
    exact hret _ _ (by assumption) (by assumption) hP
set_option maxRecDepth 100000 in
set_option maxHeartbeats 8000000 in
theorem lawfirst_rule {prog : Program} {w : World} {p : Program} {loose : List Str} {mean : ExcName → Option Value} {mg mb : Str → Option Value}
  {dp un : Nat} {gd : Option (List Code)} {cn : Str} {cs : Scope} {a : Addr} {ccd : Value} {cl : List (Str × Addr)} {outer : List Env} {A₀ : Around} {base h₀ : Heap} {L : Addr} {m : Str → Option Value} {s : Shared} {Q E : Value → Shared → Prop}
  {news : List (Addr × Obj)}
  {bk w' br bh bc : Addr} {ob : Obj} {nw : Nat} {rows : List LRow} {k : Bool} {n : Int} {tk tn : Tok}
  (B : Below A₀ base outer h₀) (F : Fr h₀ L s.heap m) (X : (Mine.hd.heap_39 w.params).In h₀) (T : Top p loose mean mg mb h₀) (hk : cs.kind = .function) (hdp : dp + 10 < recursionLimit) (hun : un + 80 < cLine) (N : News h₀ L s.heap news)
  (hbk : (bk, ob) ∈ news) (hob : ob.IsDictOf (strKind prog w) (bkKvs br bh bc w'))
  (hw : (w', listOf (refsOf rows).toArray nw) ∈ news) (hr : RowsIn rows news)
  (hret : ∀ h' tk', Fr h₀ L h' m → News h₀ L h' news → rows.find? (fun l => hits k n l.r) = none → Q .none { s with heap := h', toks := tk' })
  (hret2 : ∀ l h' tk', Fr h₀ L h' m → News h₀ L h' news → rows.find? (fun l => hits k n l.r) = some l → l ∈ rows → Q (.ref l.a) { s with heap := h', toks := tk' }) :
  wpAny (model prog w) (ktrTop dp un gd cn cs L a ccd cl outer) (call (.ref 316) [.ref bk, .str (kStr k) tk, .int n tn]) Q E s := by
  refine wpAny_call ?_
  k_dflt ktr_enter
  k_steps
  rename Fr _ _ _ _ => lF'
  rename News _ _ _ _ => lN'
  k_dflt refine' iter_listS (fun l : LRow => Value.ref l.a) rows (fun pre => pre.find? (fun l => hits k n l.r) = none) ?hh lF' lN' hw ?hc ?hd ?hj ?turn ?done
  case hh => exact rfl
  case hc => exact rfl
  case hd => exact rfl
  case hj => exact rfl
  case turn =>
    intro I it pre v post h tk e hI hit hP F' N'
    have hv := hr v (by rw [e]; simp)
    have hf : rows.find? (fun l => hits k n l.r) = if hits k n v.r then some v else post.find? (fun l => hits k n l.r) := by
      rw [e, List.find?_append, hP, List.find?_cons]; cases hits k n v.r <;> rfl
    k_steps
    · refine hret2 v _ _ (by assumption) (News.tail' (by assumption)) ?_ (by rw [e]; simp)
      have h1 : hits k n v.r = true := by simp_all [hits, kStr_inj]
      rw [hf, h1]; rfl
    all_goals
      refine UnrEnd.intro (by assumption) (by assumption) news (fun p hp => hp) (fun p hp => Nat.ne_of_lt (hI p hp)) ⟨rfl, rfl, ?_⟩
      have h1 : hits k n v.r = false := by simp_all [hits, kStr_inj]
      rw [List.find?_append, hP]; simp [h1]
  case done =>
    intro u h tk hP F' N'
    k_steps
    exact hret _ _ (by assumption) (by assumption) hP
theorem News.drop2 {h₀ h : Heap} {L : Addr} {p q : Addr × Obj} {l : List (Addr × Obj)} (N : News h₀ L h (p :: q :: l)) : News h₀ L h (p :: l) := fun r hr => by
  rcases List.mem_cons.mp hr with rfl | hr
  · exact N _ (.head _)
  · exact N _ (.tail _ (.tail _ hr))
theorem News.sub {h₀ h : Heap} {L : Addr} {l l' : List (Addr × Obj)} (N : News h₀ L h l) (hs : ∀ p ∈ l', p ∈ l) : News h₀ L h l' := fun p hp => N p (hs p hp)
section
variable {prog : Program} {w : World} {A : Around} {h₀ : Heap} {L : Addr} {m : Str → Option Value} {env : Env}
/-- the turns of a comprehension with one test over a list of the ledger: what it hands on is the filtered list -/
theorem compT_ind {α : Type} {ct elt : Expr} {x : Str} {scope : Scope} {cl : List (Str × Addr)} {s : Shared} {S : List (Addr × Obj) → Prop} {Fin : List Value → List (Addr × Obj) → Prop} {news : List (Addr × Obj)} (val : α → Value) (xs : List α) (p : α → Bool)
    (turn : ∀ (R : List Value → List (Addr × Obj) → Prop) ys v I oI C oC D m₂ h tk (E' : Value → Shared → Prop), v ∈ xs → LCg.NsObj oC m₂ → m₂ x = some (val v) → Fr h₀ L h m → News h₀ L h ((I, oI) :: (C, oC) :: (D, LCg.lst ys) :: news) → LCg.Off3 I C D news → ((@Ne Nat I C) ∧ (@Ne Nat I D) ∧ (@Ne Nat C D)) →
      (p v = true → R (ys ++ [val v]) news) → (p v = false → R ys news) →
      wpAny (model prog w) A (isTrue ct (compEnvC scope cl C env) (eval ct (compEnvC scope cl C env))) (fun ok s' => if ok = true then
        wpAny (model prog w) A (eval elt (compEnvC scope cl C env)) (LCg.CompEnd h₀ L m { s with heap := h, toks := tk } I oI C oC D (LCg.lst ys) S (fun y news' => R (ys ++ [y]) news')) E' s'
        else LCg.CompEnd h₀ L m { s with heap := h, toks := tk } I oI C oC D (LCg.lst ys) S (fun _ news' => R ys news') Value.none s') E' { s with heap := h, toks := tk })
    (fin : Fin ((xs.filter p).map val) news) :
    LCt.CompRestT prog w A h₀ L m env ct elt x scope cl s S (fun i v => (xs.map val).toArray[i]? = some v) Fin (xs.map val).toArray.size 0 [] news := by
  have key : ∀ k i ys, i + k = xs.length → ys = ((xs.take i).filter p).map val → LCt.CompRestT prog w A h₀ L m env ct elt x scope cl s S (fun i v => (xs.map val).toArray[i]? = some v) Fin k i ys news := by
    intro k
    induction k with
    | zero =>
      intro i ys hi hy
      have : i = xs.length := by omega
      subst this
      rw [List.take_length] at hy
      subst hy
      exact LCt.CompRestT.zero fin
    | succ k ih =>
      intro i ys hi hy
      refine LCt.CompRestT.succ fun v I oI C oC D m₂ h tk E' hP hC hx F N off ne => ?_
      have hlt : i < xs.length := by omega
      have hv : v = val xs[i] := by
        have h1 : (xs.map val)[i]? = some v := by simpa using hP
        rw [List.getElem?_map, List.getElem?_eq_getElem hlt] at h1
        exact (Option.some.inj h1).symm
      subst hv
      have ht : xs.take (i + 1) = xs.take i ++ [xs[i]] := by rw [List.take_add_one, List.getElem?_eq_getElem hlt]; rfl
      refine turn (fun ys' news' => LCt.CompRestT prog w A h₀ L m env ct elt x scope cl s S (fun i v => (xs.map val).toArray[i]? = some v) Fin k (i + 1) ys' news') ys xs[i] I oI C oC D m₂ h tk E' (List.getElem_mem hlt) hC hx F N off ne (fun hp => ?_) (fun hp => ?_)
      · exact ih (i + 1) _ (by omega) (by rw [hy, ht, List.filter_append, List.map_append]; simp [hp])
      · exact ih (i + 1) _ (by omega) (by rw [hy, ht, List.filter_append, List.map_append]; simp [hp])
  exact key _ 0 [] (by simp) rfl
end
theorem off1_mem {D : Addr} : ∀ {l : List (Addr × Obj)}, LCg.Off1 D l → ∀ p ∈ l, p.1 ≠ D
  | [], _, _, h => nomatch h
  | _ :: _, x, p, h => by
    rcases List.mem_cons.mp h with rfl | h
    · exact x.1
    · exact off1_mem x.2 p h
set_option maxRecDepth 100000 in
set_option maxHeartbeats 8000000 in
theorem letgo_rule {prog : Program} {w : World} {p : Program} {loose : List Str} {mean : ExcName → Option Value} {mg mb : Str → Option Value}
  {dp un : Nat} {gd : Option (List Code)} {cn : Str} {cs : Scope} {a : Addr} {ccd : Value} {cl : List (Str × Addr)} {outer : List Env} {A₀ : Around} {base h₀ : Heap} {L : Addr} {m : Str → Option Value} {s : Shared} {Q E : Value → Shared → Prop}
  {rest : List (Addr × Obj)}
  {x dx w' chl : Addr} {ct : ChTok} {nw : Nat} {rows : List LRow} {g : Int} {tg : Tok}
  (B : Below A₀ base outer h₀) (F : Fr h₀ L s.heap m) (X : (Mine.hd.heap_39 w.params).In h₀) (T : Top p loose mean mg mb h₀) (hk : cs.kind = .function) (hdp : dp + 10 < recursionLimit) (hun : un + 80 < cLine) (N : News h₀ L s.heap ((dx, chDict ct chl w') :: rest)) (off : OwnOff rest [dx])
  (hx : (x, instObj 155 dx) ∈ rest) (hw : (w', listOf (refsOf rows).toArray nw) ∈ rest) (hr : RowsIn rows rest) (hlen : rows.length ≤ 1000)
  (hret : ∀ w₂ nw₂ h' tk', (∀ p ∈ rest, p.1 ≠ w₂) → dx ≠ w₂ → Fr h₀ L h' m → News h₀ L h' ((w₂, listOf (refsOf (rows.filter fun l => l.r.g != g)).toArray nw₂) :: (dx, chDict ct chl w₂) :: rest) → Q .none { s with heap := h', toks := tk' }) :
  wpAny (model prog w) (ktrTop dp un gd cn cs L a ccd cl outer) (call (.ref 89) [.ref x, .int g tg]) Q E s := by
  refine wpAny_call ?_
  k_dflt (refine' code_defC ?k1 ?k2 ?k3 ?k4 ?k5 ?kA ?kF ?kK ?k6 ?k7 ?k8 ?k9 ?kB ?kD ?_ ?c2 ?c3 ?c4; (case kA => exact rfl); (case kF => exact rfl); (case kK => assumption); (case k1 => k_asm); (case k2 => k_asm); (case k3 => k_asm); (case k4 => k_asm); (case k5 => k_asm); (case k6 => k_is); (case k7 => k_is); (case k8 => ktr_room); (case k9 => exact BindsTo.of_eq rfl); (case kB => exact rfl); (case kD => decide +kernel); (case c2 => exact rfl); (case c3 => exact rfl); (case c4 => exact rfl); k_whole; intro g' L' h' tk' cells' FG' F' N' Y' B' X' T' l1; (try k_lt l1); k_cells Y'; (try dsimp only [List.cons_append, List.nil_append] at N'); (try dsimp only); (try k_fold))
  k_steps
  k_dflt refine compT_ind (fun l : LRow => Value.ref l.a) rows (fun l => l.r.g != g) ?turn ?fin
  case turn =>
    intro R ys v I oI C oC D m₂ h tk E' hv hC hx2 F' N' off' ne' hRt hRf
    have hrv := hr v hv
    k_steps
    · exact LCg.CompEnd.intro (by assumption) (by assumption) _ (fun p hp => hp) off' (Or.inr ⟨_, List.Mem.tail _ (List.Mem.tail _ hw), rfl, _, rfl⟩) (hRt (by simp; assumption))
    · exact LCg.CompEnd.intro (by assumption) (by assumption) _ (fun p hp => hp) off' (Or.inr ⟨_, List.Mem.tail _ (List.Mem.tail _ hw), rfl, _, rfl⟩) (hRf (by simp_all))
  case fin =>
    k_steps
    rename (_ ≠ _ ∧ _ ≠ _ ∧ LCg.Off1 _ _) => hoff
    exact hret _ _ _ _ (off1_mem hoff.2.2) hoff.2.1 (by assumption) (News.drop2 (by assumption))
set_option maxRecDepth 100000 in
set_option maxHeartbeats 8000000 in
theorem lawletgo_rule {prog : Program} {w : World} {p : Program} {loose : List Str} {mean : ExcName → Option Value} {mg mb : Str → Option Value}
  {dp un : Nat} {gd : Option (List Code)} {cn : Str} {cs : Scope} {a : Addr} {ccd : Value} {cl : List (Str × Addr)} {outer : List Env} {A₀ : Around} {base h₀ : Heap} {L : Addr} {m : Str → Option Value} {s : Shared} {Q E : Value → Shared → Prop}
  {rest : List (Addr × Obj)}
  {bk w' br bh bc : Addr} {ob : Obj} {nw : Nat} {rows : List LRow} {g : Int} {tg : Tok}
  (B : Below A₀ base outer h₀) (F : Fr h₀ L s.heap m) (X : (Mine.hd.heap_39 w.params).In h₀) (T : Top p loose mean mg mb h₀) (hk : cs.kind = .function) (hdp : dp + 10 < recursionLimit) (hun : un + 80 < cLine) (N : News h₀ L s.heap ((bk, ob) :: rest)) (off : OwnOff rest [bk]) (hob : ob.IsDictOf (strKind prog w) (bkKvs br bh bc w'))
  (hw : (w', listOf (refsOf rows).toArray nw) ∈ rest) (hr : RowsIn rows rest) (hlen : rows.length ≤ 1000)
  (hret : ∀ ob' w₂ nw₂ h' tk', (∀ p ∈ rest, p.1 ≠ w₂) → bk ≠ w₂ → ob'.IsDictOf (strKind prog w) (bkKvs br bh bc w₂) → Fr h₀ L h' m → News h₀ L h' ((w₂, listOf (refsOf (rows.filter fun l => l.r.g != g)).toArray nw₂) :: (bk, ob') :: rest) → Q .none { s with heap := h', toks := tk' }) :
  wpAny (model prog w) (ktrTop dp un gd cn cs L a ccd cl outer) (call (.ref 321) [.ref bk, .int g tg]) Q E s := by
  refine wpAny_call ?_
  k_dflt (refine' code_defC ?k1 ?k2 ?k3 ?k4 ?k5 ?kA ?kF ?kK ?k6 ?k7 ?k8 ?k9 ?kB ?kD ?_ ?c2 ?c3 ?c4; (case kA => exact rfl); (case kF => exact rfl); (case kK => assumption); (case k1 => k_asm); (case k2 => k_asm); (case k3 => k_asm); (case k4 => k_asm); (case k5 => k_asm); (case k6 => k_is); (case k7 => k_is); (case k8 => ktr_room); (case k9 => exact BindsTo.of_eq rfl); (case kB => exact rfl); (case kD => decide +kernel); (case c2 => exact rfl); (case c3 => exact rfl); (case c4 => exact rfl); k_whole; intro g' L' h' tk' cells' FG' F' N' Y' B' X' T' l1; (try k_lt l1); k_cells Y'; (try dsimp only [List.cons_append, List.nil_append] at N'); (try dsimp only); (try k_fold))
  k_steps
  k_dflt refine compT_ind (fun l : LRow => Value.ref l.a) rows (fun l => l.r.g != g) ?turn ?fin
  case turn =>
    intro R ys v I oI C oC D m₂ h tk E' hv hC hx2 F' N' off' ne' hRt hRf
    have hrv := hr v hv
    k_steps
    · exact LCg.CompEnd.intro (by assumption) (by assumption) _ (fun p hp => hp) off' (Or.inr ⟨_, List.Mem.tail _ (List.Mem.tail _ hw), rfl, _, rfl⟩) (hRt (by simp; assumption))
    · exact LCg.CompEnd.intro (by assumption) (by assumption) _ (fun p hp => hp) off' (Or.inr ⟨_, List.Mem.tail _ (List.Mem.tail _ hw), rfl, _, rfl⟩) (hRf (by simp_all))
  case fin =>
    k_steps
    rename (_ ≠ _ ∧ _ ≠ _ ∧ LCg.Off1 _ _) => hoff
    exact hret _ _ _ _ _ (off1_mem hoff.2.2) hoff.2.1 (by assumption) (by assumption) (News.drop2 (by assumption))
theorem my_item {prog : Program} {w : World} {A : Around} {E : Value → Shared → Prop} {s : Shared} {h₀ : Heap} {L : Addr} {news : List (Addr × Obj)} {value slice : PySem.Expr} {l : Addr} {vs : List Value} {nv : Nat} {k : Int} {u : Tok} {v : Value} {Q : Value → Shared → Prop}
    (N : News h₀ L s.heap news) (hm : (l, listOf vs.toArray nv) ∈ news) (h0 : 0 ≤ k) (hhi : k < 2 ^ 63) (hx : vs[k.toNat]? = some v) (h : Q v s)
    (hs : subscripted slice false (.ref l) (.int k u) = operate [.ref l, .int k u] (getItem (.ref l) (.int k u)) := by with_unfolding_all rfl) :
    wpAny (model prog w) A (subscriptTail value slice (.ref l) (.int k u)) Q E s :=
  have hl : s.heap.IsList l vs.toArray := ⟨_, (N _ hm).1, rfl, nv, rfl⟩
  tail_any hl.typeIs slot_list_getitem.lookup (wpAny_getItem_list hl h0 hhi (by simpa using hx) h) hs
theorem q_bool {Q : Value → Shared → Prop} {b c : Bool} {s : Shared} (h : Q (.bool b) s) (e : b = c) : Q (.bool c) s := e ▸ h
theorem fill_P06 : Challenge.rw_xm0171_01 = Challenge.rw_xm0171_01 ∧ Mine.hd.heap_39 = Mine.hd.heap_39 := by
  k_fill
  w_top off
  k_with "subscriptTail" => ((k_here; (with_reducible show wpAny _ _ (subscriptTail _ _ (Value.ref _) (Value.int _ _)) _ _ _); k_dflt (refine' my_item ?N ?hm ?h0 ?hhi ?hx ?_; (case N => k_asm); (case hm => k_mem); (case h0 => with_reducible assumption); (case hhi => with_reducible assumption); (case hx => with_reducible assumption))))
  k_with "ktr_rel" => (first | assumption | exact RowsIn.filter (by assumption) | (refine RowsIn.cons ?_; ktr_rel))
  k_with "ktr_unf" => (assumption)
  k_with "tb_rel" => (first | with_reducible assumption | (first | k_extra "pl" | k_extra "pa") | assumption | omega)
  k_with "tb_start" => (first | exact List.forall_mem_nil _ | (refine List.forall_mem_cons.mpr ⟨⟨by tb_rel, by tb_rel, by tb_rel⟩, ?_⟩; tb_start) | (refine List.forall_mem_cons.mpr ⟨⟨by tb_rel, by tb_rel, by tb_rel, by tb_rel⟩, ?_⟩; tb_start))
  k_with "call builtin:list.pop" => ((k_here; (try (rename News _ _ _ _ => N9pz9; simp only [List.push_toArray] at N9pz9)); k_dflt ((refine' my_pop0 ?F ?N ?U ?hi ?hne ?hz ?_); (case F => k_asm); (case N => k_asm); (case U => k_upd); (case hi => first | assumption | exact ints_snoc (by assumption)); (case hne => first | assumption | exact of_decide_eq_false (by assumption) | simp); (case hz => (try simp only [List.length_append, List.length_cons, List.length_nil]); omega)); intro t9z9 h9z9 F9z9 N9z9 hi9z9))
  k_with "call builtin:list.append" => ((k_here; (with_reducible show wpAny _ _ (call (Value.builtin _) [Value.ref _, _]) _ _ _); k_dflt (refine' append_K ?k1 ?k2 ?k3 ?_ ?z; (case k1 => k_asm); (case k2 => k_asm); (case k3 => k_upd); (case z => (simp only [List.size_toArray, List.length_tail, sizeLine_eq]; omega)); k_whole); intro hz9 Fz9 Nz9; (try simp only [List.push_toArray] at Nz9); (try k_sweep)))
  k_with "subscriptTail Name Name ref int" => ((k_here; (with_reducible show wpAny _ _ (subscriptTail _ _ (Value.ref _) (Value.int _ _)) _ _ _); k_dflt (first | (refine' my_item ?N ?hm ?h0 ?hhi ?hx ?_; (case N => k_asm); (case hm => k_mem); (case h0 => with_reducible assumption); (case hhi => with_reducible assumption); (case hx => with_reducible assumption)) | (refine' my_item ?N ?hm ?h0 ?hhi ?hx ?_; (case N => k_asm); (case hm => k_mem); (case h0 => decide); (case hhi => decide); (case hx => rfl)))))
  k_with "subscriptTail Attribute" => ((k_here; (with_reducible show wpAny _ _ (subscriptTail _ _ (Value.ref _) (Value.int _ _)) _ _ _); k_dflt (first | (refine' my_item ?N ?hm ?h0 ?hhi ?hx ?_; (case N => k_asm); (case hm => k_mem); (case h0 => with_reducible assumption); (case hhi => with_reducible assumption); (case hx => with_reducible assumption)) | (refine' my_item ?N ?hm ?h0 ?hhi ?hx ?_; (case N => k_asm); (case hm => k_mem); (case h0 => decide); (case hhi => decide); (case hx => rfl)))))
  k_with "subscriptTail Subscript" => ((k_here; (with_reducible show wpAny _ _ (subscriptTail _ _ (Value.ref _) (Value.int _ _)) _ _ _); k_dflt (first | (refine' my_item ?N ?hm ?h0 ?hhi ?hx ?_; (case N => k_asm); (case hm => k_mem); (case h0 => with_reducible assumption); (case hhi => with_reducible assumption); (case hx => with_reducible assumption)) | (refine' my_item ?N ?hm ?h0 ?hhi ?hx ?_; (case N => k_asm); (case hm => k_mem); (case h0 => decide); (case hhi => decide); (case hx => rfl)))))
  k_with "call ref" => ((k_here; guard_target =~ wpAny _ _ (call (Value.ref 84) _) _ _ _; k_dflt ((first | refine' first_rule (k := true) ?u0 ?u1 ?u2 ?u3 ?u4 ?u5 ?u6 ?u7 ?u8 ?u9 ?u10 ?u11 ?_ ?_ | refine' first_rule (k := false) ?u0 ?u1 ?u2 ?u3 ?u4 ?u5 ?u6 ?u7 ?u8 ?u9 ?u10 ?u11 ?_ ?_ | refine' first_rule ?u0 ?u1 ?u2 ?u3 ?u4 ?u5 ?u6 ?u7 ?u8 ?u9 ?u10 ?u11 ?_ ?_); k_extra "gnd"; (case u8 => k_mem); (case u9 => k_mem); (case u10 => k_mem); (case u11 => ktr_rel)); (intro h9z9 tk9z9 F9z9 N9z9 hf9z9); rotate_left; (intro l9z9 h9z9 tk9z9 F9z9 N9z9 hf9z9 hm9z9); rotate_right))
  k_with "call ref" => ((k_here; guard_target =~ wpAny _ _ (call (Value.ref 316) _) _ _ _; k_dflt ((first | refine' lawfirst_rule (k := true) ?u0 ?u1 ?u2 ?u3 ?u4 ?u5 ?u6 ?u7 ?u8 ?u9 ?u10 ?u11 ?_ ?_ | refine' lawfirst_rule (k := false) ?u0 ?u1 ?u2 ?u3 ?u4 ?u5 ?u6 ?u7 ?u8 ?u9 ?u10 ?u11 ?_ ?_ | refine' lawfirst_rule ?u0 ?u1 ?u2 ?u3 ?u4 ?u5 ?u6 ?u7 ?u8 ?u9 ?u10 ?u11 ?_ ?_); k_extra "gnd"; (case u8 => k_mem); (case u9 => assumption); (case u10 => k_mem); (case u11 => ktr_rel)); (intro h9z9 tk9z9 F9z9 N9z9 hf9z9); rotate_left; (intro l9z9 h9z9 tk9z9 F9z9 N9z9 hf9z9 hm9z9); rotate_right))
  k_with "call ref" => ((k_here; guard_target =~ wpAny _ _ (call (Value.ref 96) _) _ _ _; k_dflt (refine' maysend_rule ?u0 ?u1 ?u2 ?u3 ?u4 ?u5 ?u6 ?u7 ?u8 ?u9 ?u10 ?u11 ?u12 ?u13 ?u14 ?u15 ?u16 ?u17 ?u18 ?u19 ?u20 ?_; k_extra "gnd"; (case u8 => k_mem); (case u9 => k_mem); (case u10 => k_mem); (case u11 => k_mem); (case u12 => ktr_rel); (case u13 => ktr_unf); (case u14 => ktr_unf); (case u15 => ktr_unf); (case u16 => k_mem); (case u17 => k_mem); (case u18 => k_mem); (case u19 => ktr_unf); (case u20 => ktr_unf)); (intro y0 y1 y2 yN)))
  k_with "call ref" => ((k_here; guard_target =~ wpAny _ _ (call (Value.ref 103) _) _ _ _; k_dflt (refine' maytake_rule ?u0 ?u1 ?u2 ?u3 ?u4 ?u5 ?u6 ?u7 ?u8 ?u9 ?u10 ?u11 ?u12 ?u13 ?u14 ?u15 ?u16 ?u17 ?u18 ?u19 ?u20 ?_; k_extra "gnd"; (case u8 => k_mem); (case u9 => k_mem); (case u10 => k_mem); (case u11 => k_mem); (case u12 => ktr_rel); (case u13 => ktr_unf); (case u14 => ktr_unf); (case u15 => ktr_unf); (case u16 => k_mem); (case u17 => k_mem); (case u18 => k_mem); (case u19 => ktr_unf); (case u20 => ktr_unf)); (intro y0 y1 y2 yN)))
  k_with "call ref" => ((k_here; guard_target =~ wpAny _ _ (call (Value.ref 96) _) _ _ _; k_dflt (refine' maysend_none ?u0 ?u1 ?u2 ?u3 ?u4 ?u5 ?u6 ?u7 ?_; k_extra "gnd"); (intro y0 y1 y2 yN)))
  k_with "call ref" => ((k_here; guard_target =~ wpAny _ _ (call (Value.ref 103) _) _ _ _; k_dflt (refine' maytake_none ?u0 ?u1 ?u2 ?u3 ?u4 ?u5 ?u6 ?u7 ?_; k_extra "gnd"); (intro y0 y1 y2 yN)))
  k_with "call ref" => ((k_here; guard_target =~ wpAny _ _ (call (Value.ref 89) _) _ _ _; k_dflt (refine' letgo_upd ?u0 ?u1 ?u2 ?u3 ?u4 ?u5 ?u6 ?u7 ?u8 ?u9 ?u10 ?u11 ?u12 ?_; k_extra "gnd"; (case u9 => k_mem); (case u8 => k_updF); (case u10 => k_mem); (case u11 => ktr_rel); (case u12 => ktr_unf)); (intro w9z9 nw9z9 h9z9 tk9z9 o9z9 F9z9 N9z9); (try simp only [LCg.Off1, and_true] at o9z9); (try dsimp only at N9z9)))
  k_with "call ref" => ((k_here; guard_target =~ wpAny _ _ (call (Value.ref 321) _) _ _ _; k_dflt (refine' lawletgo_upd ?u0 ?u1 ?u2 ?u3 ?u4 ?u5 ?u6 ?u7 ?u8 ?u9 ?u10 ?u11 ?u12 ?_; k_extra "gnd"; (case u8 => k_updF); (case u9 => assumption); (case u10 => k_mem); (case u11 => ktr_rel); (case u12 => ktr_unf)); (intro ob9z9 w9z9 nw9z9 h9z9 tk9z9 o9z9 hob9z9 F9z9 N9z9); (try simp only [LCg.Off1, and_true] at o9z9); (try dsimp only at N9z9)))
  exact ⟨rfl, rfl⟩
set_option maxRecDepth 100000 in
set_option maxHeartbeats 8000000 in
theorem maysend_rule {prog : Program} {w : World} {p : Program} {loose : List Str} {mean : ExcName → Option Value} {mg mb : Str → Option Value}
  {dp un : Nat} {gd : Option (List Code)} {cn : Str} {cs : Scope} {a : Addr} {ccd : Value} {cl : List (Str × Addr)} {outer : List Env} {A₀ : Around} {base h₀ : Heap} {L : Addr} {m : Str → Option Value} {s : Shared} {Q E : Value → Shared → Prop}
  {news : List (Addr × Obj)}
  {x dx w' chl c d l : Addr} {ct : ChTok} {ot : OneTok} {room : Int} {tr : Tok} {b : Bool} {vc vs : List Value} {hs : List Int} {nc nl nw : Nat} {rows : List LRow} {n : Int} {tn : Tok}
  (B : Below A₀ base outer h₀) (F : Fr h₀ L s.heap m) (X : (Mine.hd.heap_39 w.params).In h₀) (T : Top p loose mean mg mb h₀) (hk : cs.kind = .function) (hdp : dp + 20 < recursionLimit) (hun : un + 160 < cLine) (N : News h₀ L s.heap news)
  (hx : (x, instObj 155 dx) ∈ news) (hdx : (dx, chDict ct chl w') ∈ news) (hchl : (chl, listOf vc.toArray nc) ∈ news)
  (hw : (w', listOf (refsOf rows).toArray nw) ∈ news) (hr : RowsIn rows news)
  (n0 : 0 ≤ n) (n1 : n < 2 ^ 63) (hcn : vc[n.toNat]? = some (.ref c)) (hc : (c, instObj 38 d) ∈ news) (hd : (d, oneDict ot room tr l b) ∈ news)
  (hl : (l, listOf vs.toArray nl) ∈ news) (hi : IntsAre vs hs) (hlen : hs.length ≤ 1000)
  (hret : ∀ h' tk', Fr h₀ L h' m → News h₀ L h' news → Q (.bool (b || (decide ((hs.length : Int) < room) || (rows.find? (fun l => hits false n l.r)).isSome))) { s with heap := h', toks := tk' }) :
  wpAny (model prog w) (ktrTop dp un gd cn cs L a ccd cl outer) (call (.ref 96) [.ref x, .int n tn]) Q E s := by
  refine wpAny_call ?_
  k_dflt ktr_enter
  k_steps
  all_goals (refine q_bool (hret _ _ (by assumption) (by assumption)) ?_; simp_all)
set_option maxRecDepth 100000 in
set_option maxHeartbeats 8000000 in
theorem maysend_none {prog : Program} {w : World} {p : Program} {loose : List Str} {mean : ExcName → Option Value} {mg mb : Str → Option Value}
  {dp un : Nat} {gd : Option (List Code)} {cn : Str} {cs : Scope} {a : Addr} {ccd : Value} {cl : List (Str × Addr)} {outer : List Env} {A₀ : Around} {base h₀ : Heap} {L : Addr} {m : Str → Option Value} {s : Shared} {Q E : Value → Shared → Prop}
  {news : List (Addr × Obj)} {x : Addr}
  (B : Below A₀ base outer h₀) (F : Fr h₀ L s.heap m) (X : (Mine.hd.heap_39 w.params).In h₀) (T : Top p loose mean mg mb h₀) (hk : cs.kind = .function) (hdp : dp + 20 < recursionLimit) (hun : un + 160 < cLine) (N : News h₀ L s.heap news)
  (hret : ∀ h' tk', Fr h₀ L h' m → News h₀ L h' news → Q (.bool false) { s with heap := h', toks := tk' }) :
  wpAny (model prog w) (ktrTop dp un gd cn cs L a ccd cl outer) (call (.ref 96) [.ref x, .none]) Q E s := by
  refine wpAny_call ?_
  k_dflt ktr_enter
  k_steps
  all_goals exact hret _ _ (by assumption) (by assumption)
set_option maxRecDepth 100000 in
set_option maxHeartbeats 8000000 in
theorem maytake_none {prog : Program} {w : World} {p : Program} {loose : List Str} {mean : ExcName → Option Value} {mg mb : Str → Option Value}
  {dp un : Nat} {gd : Option (List Code)} {cn : Str} {cs : Scope} {a : Addr} {ccd : Value} {cl : List (Str × Addr)} {outer : List Env} {A₀ : Around} {base h₀ : Heap} {L : Addr} {m : Str → Option Value} {s : Shared} {Q E : Value → Shared → Prop}
  {news : List (Addr × Obj)} {x : Addr}
  (B : Below A₀ base outer h₀) (F : Fr h₀ L s.heap m) (X : (Mine.hd.heap_39 w.params).In h₀) (T : Top p loose mean mg mb h₀) (hk : cs.kind = .function) (hdp : dp + 20 < recursionLimit) (hun : un + 160 < cLine) (N : News h₀ L s.heap news)
  (hret : ∀ h' tk', Fr h₀ L h' m → News h₀ L h' news → Q (.bool false) { s with heap := h', toks := tk' }) :
  wpAny (model prog w) (ktrTop dp un gd cn cs L a ccd cl outer) (call (.ref 103) [.ref x, .none]) Q E s := by
  refine wpAny_call ?_
  k_dflt ktr_enter
  k_steps
  all_goals exact hret _ _ (by assumption) (by assumption)
set_option maxRecDepth 100000 in
set_option maxHeartbeats 8000000 in
theorem maytake_rule {prog : Program} {w : World} {p : Program} {loose : List Str} {mean : ExcName → Option Value} {mg mb : Str → Option Value}
  {dp un : Nat} {gd : Option (List Code)} {cn : Str} {cs : Scope} {a : Addr} {ccd : Value} {cl : List (Str × Addr)} {outer : List Env} {A₀ : Around} {base h₀ : Heap} {L : Addr} {m : Str → Option Value} {s : Shared} {Q E : Value → Shared → Prop}
  {news : List (Addr × Obj)}
  {x dx w' chl c d l : Addr} {ct : ChTok} {ot : OneTok} {room : Int} {tr : Tok} {b : Bool} {vc vs : List Value} {hs : List Int} {nc nl nw : Nat} {rows : List LRow} {n : Int} {tn : Tok}
  (B : Below A₀ base outer h₀) (F : Fr h₀ L s.heap m) (X : (Mine.hd.heap_39 w.params).In h₀) (T : Top p loose mean mg mb h₀) (hk : cs.kind = .function) (hdp : dp + 20 < recursionLimit) (hun : un + 260 < cLine) (N : News h₀ L s.heap news)
  (hx : (x, instObj 155 dx) ∈ news) (hdx : (dx, chDict ct chl w') ∈ news) (hchl : (chl, listOf vc.toArray nc) ∈ news)
  (hw : (w', listOf (refsOf rows).toArray nw) ∈ news) (hr : RowsIn rows news)
  (n0 : 0 ≤ n) (n1 : n < 2 ^ 63) (hcn : vc[n.toNat]? = some (.ref c)) (hc : (c, instObj 38 d) ∈ news) (hd : (d, oneDict ot room tr l b) ∈ news)
  (hl : (l, listOf vs.toArray nl) ∈ news) (hi : IntsAre vs hs) (hlen : hs.length ≤ 1000)
  (hret : ∀ h' tk', Fr h₀ L h' m → News h₀ L h' news → Q (.bool (b || (!decide (hs = []) || (rows.find? (fun l => hits true n l.r)).isSome))) { s with heap := h', toks := tk' }) :
  wpAny (model prog w) (ktrTop dp un gd cn cs L a ccd cl outer) (call (.ref 103) [.ref x, .int n tn]) Q E s := by
  refine wpAny_call ?_
  k_dflt ktr_enter
  k_steps
  all_goals (refine q_bool (hret _ _ (by assumption) (by first | assumption | exact News.tail' (by assumption))) ?_; simp_all)
theorem kStr_send {k : Bool} : (kStr k == Str.ofString "send") = k := by cases k <;> decide
def mayOf (k b : Bool) (hs : List Int) (room : Int) (rows : List LRow) (n : Int) : Bool :=
  b || (if k then decide ((hs.length : Int) < room) || (rows.find? (fun l => hits false n l.r)).isSome else !decide (hs = []) || (rows.find? (fun l => hits true n l.r)).isSome)
set_option maxRecDepth 100000 in
set_option maxHeartbeats 8000000 in
theorem lawmay_rule {prog : Program} {w : World} {p : Program} {loose : List Str} {mean : ExcName → Option Value} {mg mb : Str → Option Value}
  {dp un : Nat} {gd : Option (List Code)} {cn : Str} {cs : Scope} {a : Addr} {ccd : Value} {cl : List (Str × Addr)} {outer : List Env} {A₀ : Around} {base h₀ : Heap} {L : Addr} {m : Str → Option Value} {s : Shared} {Q E : Value → Shared → Prop}
  {news : List (Addr × Obj)}
  {bk w' br bh bc l : Addr} {ob : Obj} {room : Int} {tr : Tok} {b : Bool} {vr vh vc vs : List Value} {hs : List Int} {nr nh nc nl nw : Nat} {rows : List LRow} {k : Bool} {n : Int} {tk tn : Tok}
  (B : Below A₀ base outer h₀) (F : Fr h₀ L s.heap m) (X : (Mine.hd.heap_39 w.params).In h₀) (T : Top p loose mean mg mb h₀) (hk : cs.kind = .function) (hdp : dp + 20 < recursionLimit) (hun : un + 260 < cLine) (N : News h₀ L s.heap news)
  (hbk : (bk, ob) ∈ news) (hob : ob.IsDictOf (strKind prog w) (bkKvs br bh bc w'))
  (hw : (w', listOf (refsOf rows).toArray nw) ∈ news) (hr : RowsIn rows news)
  (n0 : 0 ≤ n) (n1 : n < 2 ^ 63) (hbc : (bc, listOf vc.toArray nc) ∈ news) (hcn : vc[n.toNat]? = some (.bool b))
  (hbh : (bh, listOf vh.toArray nh) ∈ news) (hhn : vh[n.toNat]? = some (.ref l)) (hbr : (br, listOf vr.toArray nr) ∈ news) (hrn : vr[n.toNat]? = some (.int room tr))
  (hl : (l, listOf vs.toArray nl) ∈ news) (hi : IntsAre vs hs) (hlen : hs.length ≤ 1000)
  (hret : ∀ h' tk', Fr h₀ L h' m → News h₀ L h' news → Q (.bool (mayOf k b hs room rows n)) { s with heap := h', toks := tk' }) :
  wpAny (model prog w) (ktrTop dp un gd cn cs L a ccd cl outer) (call (.ref 328) [.ref bk, .str (kStr k) tk, .int n tn]) Q E s := by
  refine wpAny_call ?_
  k_dflt ktr_enter
  k_steps
  all_goals (refine q_bool (hret _ _ (by assumption) (by first | assumption | exact News.tail' (by assumption))) ?_; simp_all [mayOf, kStr_send])
set_option maxRecDepth 100000 in
set_option maxHeartbeats 8000000 in
theorem maydo_rule {prog : Program} {w : World} {p : Program} {loose : List Str} {mean : ExcName → Option Value} {mg mb : Str → Option Value}
  {dp un : Nat} {gd : Option (List Code)} {cn : Str} {cs : Scope} {a : Addr} {ccd : Value} {cl : List (Str × Addr)} {outer : List Env} {A₀ : Around} {base h₀ : Heap} {L : Addr} {m : Str → Option Value} {s : Shared} {Q E : Value → Shared → Prop}
  {news : List (Addr × Obj)}
  {x dx w' chl c d l : Addr} {ct : ChTok} {ot : OneTok} {room : Int} {tr : Tok} {b : Bool} {vc vs : List Value} {hs : List Int} {nc nl nw : Nat} {rows : List LRow} {k : Bool} {n : Int} {tk tn : Tok}
  (B : Below A₀ base outer h₀) (F : Fr h₀ L s.heap m) (X : (Mine.hd.heap_39 w.params).In h₀) (T : Top p loose mean mg mb h₀) (hk : cs.kind = .function) (hdp : dp + 30 < recursionLimit) (hun : un + 460 < cLine) (N : News h₀ L s.heap news)
  (hx : (x, instObj 155 dx) ∈ news) (hdx : (dx, chDict ct chl w') ∈ news) (hchl : (chl, listOf vc.toArray nc) ∈ news)
  (hw : (w', listOf (refsOf rows).toArray nw) ∈ news) (hr : RowsIn rows news)
  (n0 : 0 ≤ n) (n1 : n < 2 ^ 63) (hcn : vc[n.toNat]? = some (.ref c)) (hc : (c, instObj 38 d) ∈ news) (hd : (d, oneDict ot room tr l b) ∈ news)
  (hl : (l, listOf vs.toArray nl) ∈ news) (hi : IntsAre vs hs) (hlen : hs.length ≤ 1000)
  (hret : ∀ h' tk', Fr h₀ L h' m → News h₀ L h' news → Q (.bool (mayOf k b hs room rows n)) { s with heap := h', toks := tk' }) :
  wpAny (model prog w) (ktrTop dp un gd cn cs L a ccd cl outer) (call (.ref 110) [.ref x, .str (kStr k) tk, .int n tn]) Q E s := by
  refine wpAny_call ?_
  k_dflt ktr_enter
  k_steps
  all_goals (refine q_bool (hret _ _ (by assumption) (by assumption)) ?_; simp_all [mayOf, kStr_send])
set_option maxRecDepth 100000 in
set_option maxHeartbeats 8000000 in
theorem maydo_none {prog : Program} {w : World} {p : Program} {loose : List Str} {mean : ExcName → Option Value} {mg mb : Str → Option Value}
  {dp un : Nat} {gd : Option (List Code)} {cn : Str} {cs : Scope} {a : Addr} {ccd : Value} {cl : List (Str × Addr)} {outer : List Env} {A₀ : Around} {base h₀ : Heap} {L : Addr} {m : Str → Option Value} {s : Shared} {Q E : Value → Shared → Prop}
  {news : List (Addr × Obj)} {x dx : Addr} {od : Obj} {k : Bool} {tk : Tok} {ct : ChTok} {chl w' : Addr}
  (B : Below A₀ base outer h₀) (F : Fr h₀ L s.heap m) (X : (Mine.hd.heap_39 w.params).In h₀) (T : Top p loose mean mg mb h₀) (hk : cs.kind = .function) (hdp : dp + 30 < recursionLimit) (hun : un + 460 < cLine) (N : News h₀ L s.heap news)
  (hx : (x, instObj 155 dx) ∈ news) (hdx : (dx, chDict ct chl w') ∈ news)
  (hret : ∀ h' tk', Fr h₀ L h' m → News h₀ L h' news → Q (.bool false) { s with heap := h', toks := tk' }) :
  wpAny (model prog w) (ktrTop dp un gd cn cs L a ccd cl outer) (call (.ref 110) [.ref x, .str (kStr k) tk, .none]) Q E s := by
  refine wpAny_call ?_
  k_dflt ktr_enter
  k_steps
  all_goals exact hret _ _ (by assumption) (by assumption)
theorem off1_of {D : Addr} : ∀ {l : List (Addr × Obj)}, (∀ p ∈ l, p.1 ≠ D) → LCg.Off1 D l
  | [], _ => True.intro
  | p :: _, h => ⟨h p (.head _), off1_of fun q hq => h q (.tail _ hq)⟩
theorem updF_split {h₀ h : Heap} {L d : Addr} {o : Obj} {news : List (Addr × Obj)} {g : Obj → List (Addr × Obj)} (N : News h₀ L h news) (U : UpdF d o news g) :
    ∃ rest, News h₀ L h ((d, o) :: rest) ∧ OwnOff rest [d] ∧ (∀ p ∈ news, p.2 ≠ o → p ∈ rest) ∧ (∀ p ∈ news, p ∈ (d, o) :: rest) ∧ (∀ o' p, p ∈ g o' → p ∈ (d, o') :: rest) := by
  obtain ⟨pre, post, rfl, hg, a, b⟩ := U.split
  have mv : ∀ (o' : Obj) p, p ∈ pre ++ (d, o') :: post → p ∈ (d, o') :: (pre ++ post) := fun o' p hp => by
    simp only [List.mem_cons, List.mem_append] at hp ⊢
    rcases hp with h | h | h
    · exact .inr (.inl h)
    · exact .inl h
    · exact .inr (.inr h)
  refine ⟨pre ++ post, fun p hp => N p ?_, fun p hp c hc => ?_, fun p hp hne => ?_, fun p hp => mv o p hp, fun o' p hp => mv o' p (hg o' ▸ hp)⟩
  · simp only [List.mem_cons, List.mem_append] at hp ⊢
    rcases hp with h | h | h
    · exact .inr (.inl h)
    · exact .inl h
    · exact .inr (.inr h)
  · rw [List.mem_singleton] at hc
    subst hc
    exact (List.mem_append.mp hp).elim (a p) (b p)
  · rcases List.mem_cons.mp (mv o p hp) with h | h
    · exact absurd (by rw [h]) hne
    · exact h
theorem ne_cls {a b : Obj} {x y : Value} (ha : a.cls = x) (hb : b.cls = y) (h : x ≠ y) : a ≠ b := fun e => h (by rw [← ha, ← hb, e])
theorem letgo_upd {prog : Program} {w : World} {p : Program} {loose : List Str} {mean : ExcName → Option Value} {mg mb : Str → Option Value}
  {dp un : Nat} {gd : Option (List Code)} {cn : Str} {cs : Scope} {a : Addr} {ccd : Value} {cl : List (Str × Addr)} {outer : List Env} {A₀ : Around} {base h₀ : Heap} {L : Addr} {m : Str → Option Value} {s : Shared} {Q E : Value → Shared → Prop}
  {news : List (Addr × Obj)} {gg : Obj → List (Addr × Obj)}
  {x dx w' chl : Addr} {ct : ChTok} {nw : Nat} {rows : List LRow} {g : Int} {tg : Tok}
  (B : Below A₀ base outer h₀) (F : Fr h₀ L s.heap m) (X : (Mine.hd.heap_39 w.params).In h₀) (T : Top p loose mean mg mb h₀) (hk : cs.kind = .function) (hdp : dp + 10 < recursionLimit) (hun : un + 80 < cLine) (N : News h₀ L s.heap news) (U : UpdF dx (chDict ct chl w') news gg)
  (hx : (x, instObj 155 dx) ∈ news) (hw : (w', listOf (refsOf rows).toArray nw) ∈ news) (hr : RowsIn rows news) (hlen : rows.length ≤ 1000)
  (hret : ∀ w₂ nw₂ h' tk', LCg.Off1 w₂ news → Fr h₀ L h' m → News h₀ L h' ((w₂, listOf (refsOf (rows.filter fun l => l.r.g != g)).toArray nw₂) :: gg (chDict ct chl w₂)) → Q .none { s with heap := h', toks := tk' }) :
  wpAny (model prog w) (ktrTop dp un gd cn cs L a ccd cl outer) (call (.ref 89) [.ref x, .int g tg]) Q E s := by
  obtain ⟨rest, N1, o1, m1, m2, m3⟩ := updF_split N U
  refine letgo_rule B F X T hk hdp hun N1 o1 (m1 _ hx (ne_cls rfl rfl (by simp))) (m1 _ hw (ne_cls rfl rfl (by simp))) (fun l hl => m1 _ (hr l hl) (ne_cls rfl rfl (by simp))) hlen fun w₂ nw₂ h' tk' f1 f2 F' N' => ?_
  refine hret w₂ nw₂ h' tk' (off1_of fun p hp => ?_) F' fun p hp => ?_
  · rcases List.mem_cons.mp (m2 p hp) with rfl | h
    · exact f2
    · exact f1 p h
  · rcases List.mem_cons.mp hp with rfl | hp
    · exact N' _ (.head _)
    · exact N' p (.tail _ (m3 _ p hp))
theorem lawletgo_upd {prog : Program} {w : World} {p : Program} {loose : List Str} {mean : ExcName → Option Value} {mg mb : Str → Option Value}
  {dp un : Nat} {gd : Option (List Code)} {cn : Str} {cs : Scope} {a : Addr} {ccd : Value} {cl : List (Str × Addr)} {outer : List Env} {A₀ : Around} {base h₀ : Heap} {L : Addr} {m : Str → Option Value} {s : Shared} {Q E : Value → Shared → Prop}
  {news : List (Addr × Obj)} {gg : Obj → List (Addr × Obj)}
  {bk w' br bh bc : Addr} {ob : Obj} {nw : Nat} {rows : List LRow} {g : Int} {tg : Tok}
  (B : Below A₀ base outer h₀) (F : Fr h₀ L s.heap m) (X : (Mine.hd.heap_39 w.params).In h₀) (T : Top p loose mean mg mb h₀) (hk : cs.kind = .function) (hdp : dp + 10 < recursionLimit) (hun : un + 80 < cLine) (N : News h₀ L s.heap news) (U : UpdF bk ob news gg) (hob : ob.IsDictOf (strKind prog w) (bkKvs br bh bc w'))
  (hw : (w', listOf (refsOf rows).toArray nw) ∈ news) (hr : RowsIn rows news) (hlen : rows.length ≤ 1000)
  (hret : ∀ o₂ w₂ nw₂ h' tk', LCg.Off1 w₂ news → o₂.IsDictOf (strKind prog w) (bkKvs br bh bc w₂) → Fr h₀ L h' m → News h₀ L h' ((w₂, listOf (refsOf (rows.filter fun l => l.r.g != g)).toArray nw₂) :: gg o₂) → Q .none { s with heap := h', toks := tk' }) :
  wpAny (model prog w) (ktrTop dp un gd cn cs L a ccd cl outer) (call (.ref 321) [.ref bk, .int g tg]) Q E s := by
  obtain ⟨rest, N1, o1, m1, m2, m3⟩ := updF_split N U
  have hc : ob.cls = .type "dict" := by obtain ⟨_, _, e, _⟩ := hob; exact e.1
  refine lawletgo_rule B F X T hk hdp hun N1 o1 hob (m1 _ hw (ne_cls rfl hc (by simp))) (fun l hl => m1 _ (hr l hl) (ne_cls rfl hc (by simp))) hlen fun o₂ w₂ nw₂ h' tk' f1 f2 hd F' N' => ?_
  refine hret o₂ w₂ nw₂ h' tk' (off1_of fun p hp => ?_) hd F' fun p hp => ?_
  · rcases List.mem_cons.mp (m2 p hp) with rfl | h
    · exact f2
    · exact f1 p h
  · rcases List.mem_cons.mp hp with rfl | hp
    · exact N' _ (.head _)
    · exact N' p (.tail _ (m3 _ p hp))
/-- every heap that bears the ledger reads v as d -/
def Bears (news : List (Addr × Obj)) (v : Value) (d : PyData) : Prop := ∀ h₀ L h, News h₀ L h news → ∃ as, Reads h v d as
def strD (s : String) : PyData := .str (Str.ofString s)
def resD (res : PyData) (wake : List (Int × Int × PyData)) : PyData := .tuple [res, .list (wake.map fun q => .tuple [.int q.1, .int q.2.1, q.2.2])]
def sentD : PyData := .tuple [strD "sent"]
def panicD (s : String) : PyData := .tuple [strD "panic", strD s]
def recvD (v : PyData) (b : Bool) : PyData := .tuple [strD "received", v, .bool b]
def WNew (w' w₂ : Addr) (adr : List Addr) : Prop := w₂ = w' ∨ w₂ ∉ adr
structure Out where
  res : PyData
  hs : List Int
  rows : List LRow
theorem AllLt.mem {d : Addr} : ∀ {l : List (Addr × Obj)}, AllLt d l → ∀ p ∈ l, p.1 < d
  | [], _, _, h => nomatch h
  | _ :: _, x, p, h => by
    rcases List.mem_cons.mp h with rfl | h
    · exact x.1
    · exact AllLt.mem x.2 p h
theorem ends_new {fresh rest : List (Addr × Obj)} {w₂ dx l : Addr} (h : ∀ p ∈ fresh, @LT.lt Nat _ w₂ p.1 ∧ @LT.lt Nat _ dx p.1 ∧ @LT.lt Nat _ l p.1 ∧ AllLt p.1 rest) : OwnOff fresh (w₂ :: dx :: l :: rest.map (·.1)) := by
  intro p hp b hb
  obtain ⟨h1, h2, h3, h4⟩ := h p hp
  simp only [List.mem_cons, List.mem_map] at hb
  rcases hb with rfl | rfl | rfl | ⟨q, hq, rfl⟩
  · exact Nat.ne_of_gt h1
  · exact Nat.ne_of_gt h2
  · exact Nat.ne_of_gt h3
  · exact Nat.ne_of_gt (AllLt.mem h4 q hq)
theorem ends_old {fresh rest : List (Addr × Obj)} {w' dx l : Addr} {o : Obj} (hw : (w', o) ∈ rest) (h : ∀ p ∈ fresh, @LT.lt Nat _ dx p.1 ∧ @LT.lt Nat _ l p.1 ∧ AllLt p.1 rest) : OwnOff fresh (w' :: dx :: l :: rest.map (·.1)) :=
  ends_new fun p hp => ⟨AllLt.mem (h p hp).2.2 _ hw, h p hp⟩
theorem wnew_of {w' w₂ dx l : Addr} {rest : List (Addr × Obj)} (h : dx ≠ w₂ ∧ l ≠ w₂ ∧ LCg.Off1 w₂ rest) : WNew w' w₂ (dx :: l :: rest.map (·.1)) := by
  refine .inr fun hm => ?_
  simp only [List.mem_cons, List.mem_map] at hm
  rcases hm with rfl | rfl | ⟨q, hq, rfl⟩
  · exact h.1 rfl
  · exact h.2.1 rfl
  · exact off1_mem h.2.2 q hq rfl
theorem ints_snoc {v : Int} {t : Tok} : ∀ {vs : List Value} {ns : List Int}, IntsAre vs ns → IntsAre (vs ++ [.int v t]) (ns ++ [v])
  | _, _, .nil => .cons v t .nil
  | _, _, .cons i u h => .cons i u (ints_snoc h)
theorem end_old {h₀ h : Heap} {L : Addr} {fresh rest : List (Addr × Obj)} {w' dx l : Addr} {o1 o2 ow : Obj} (kN : News h₀ L h (fresh ++ ((dx, o1) :: (l, o2) :: rest))) (hw : (w', ow) ∈ rest)
    (hf : ∀ p ∈ fresh, @LT.lt Nat _ dx p.1 ∧ @LT.lt Nat _ l p.1 ∧ AllLt p.1 rest) : OwnOff fresh (w' :: dx :: l :: rest.map (·.1)) ∧ News h₀ L h ((dx, o1) :: (l, o2) :: (w', ow) :: (fresh ++ rest)) := by
  refine ⟨ends_old hw hf, fun p hp => kN p ?_⟩
  simp only [List.mem_cons, List.mem_append] at hp ⊢
  rcases hp with h | h | h | h | h
  · exact .inr (.inl h)
  · exact .inr (.inr (.inl h))
  · exact .inr (.inr (.inr (h ▸ hw)))
  · exact .inl h
  · exact .inr (.inr (.inr h))
theorem end_new {h₀ h : Heap} {L : Addr} {fresh rest : List (Addr × Obj)} {w₂ dx l : Addr} {o1 o2 ow : Obj} (kN : News h₀ L h (fresh ++ ((w₂, ow) :: (dx, o1) :: (l, o2) :: rest)))
    (hf : ∀ p ∈ fresh, @LT.lt Nat _ w₂ p.1 ∧ @LT.lt Nat _ dx p.1 ∧ @LT.lt Nat _ l p.1 ∧ AllLt p.1 rest) : OwnOff fresh (w₂ :: dx :: l :: rest.map (·.1)) ∧ News h₀ L h ((dx, o1) :: (l, o2) :: (w₂, ow) :: (fresh ++ rest)) := by
  refine ⟨ends_new hf, fun p hp => kN p ?_⟩
  simp only [List.mem_cons, List.mem_append] at hp ⊢
  rcases hp with h | h | h | h | h
  · exact .inr (.inr (.inl h))
  · exact .inr (.inr (.inr (.inl h)))
  · exact .inr (.inl h)
  · exact .inl h
  · exact .inr (.inr (.inr (.inr h)))
def sendF (b : Bool) (hs : List Int) (rows : List LRow) (n v : Int) : Out :=
  if b then ⟨resD (panicD "send on closed channel") [], hs, rows⟩
  else match rows.find? (fun l => hits false n l.r) with
    | none => ⟨resD sentD [], hs ++ [v], rows⟩
    | some t => ⟨resD sentD [(t.r.g, t.r.c, recvD (.int v) true)], hs, rows.filter fun l => l.r.g != t.r.g⟩
theorem sent_1 {b : Bool} {hs : List Int} {rows : List LRow} {n v : Int} (hb : b = true) : sendF b hs rows n v = ⟨resD (panicD "send on closed channel") [], hs, rows⟩ := by simp [sendF, hb]
theorem sent_2 {b : Bool} {hs : List Int} {rows : List LRow} {n v : Int} (hb : b = false) (hf : rows.find? (fun l => hits false n l.r) = none) : sendF b hs rows n v = ⟨resD sentD [], hs ++ [v], rows⟩ := by simp [sendF, hb, hf]
theorem sent_3 {b : Bool} {hs : List Int} {rows : List LRow} {n v : Int} {t : LRow} (hb : b = false) (hf : rows.find? (fun l => hits false n l.r) = some t) : sendF b hs rows n v = ⟨resD sentD [(t.r.g, t.r.c, recvD (.int v) true)], hs, rows.filter fun l => l.r.g != t.r.g⟩ := by simp [sendF, hb, hf]
set_option maxRecDepth 100000 in
set_option maxHeartbeats 8000000 in
theorem send_rule {prog : Program} {w : World} {p : Program} {loose : List Str} {mean : ExcName → Option Value} {mg mb : Str → Option Value}
  {dp un : Nat} {gd : Option (List Code)} {cn : Str} {cs : Scope} {a : Addr} {ccd : Value} {cl : List (Str × Addr)} {outer : List Env} {A₀ : Around} {base h₀ : Heap} {L : Addr} {m : Str → Option Value} {s : Shared} {Q E : Value → Shared → Prop}
  {rest : List (Addr × Obj)}
  {x dx w' chl c d l : Addr} {ct : ChTok} {ot : OneTok} {room : Int} {tr : Tok} {b : Bool} {vc vs : List Value} {hs : List Int} {nc nl nw : Nat} {rows : List LRow} {n v : Int} {tn tv : Tok}
  (B : Below A₀ base outer h₀) (F : Fr h₀ L s.heap m) (X : (Mine.hd.heap_39 w.params).In h₀) (T : Top p loose mean mg mb h₀) (hk : cs.kind = .function) (hdp : dp + 20 < recursionLimit) (hun : un + 260 < cLine) (N : News h₀ L s.heap ((dx, chDict ct chl w') :: (l, listOf vs.toArray nl) :: rest)) (off : OwnOff rest [dx, l]) (hne : @Ne Nat dx l)
  (hx : (x, instObj 155 dx) ∈ rest) (hchl : (chl, listOf vc.toArray nc) ∈ rest)
  (hw : (w', listOf (refsOf rows).toArray nw) ∈ rest) (hr : RowsIn rows rest) (hlr : rows.length ≤ 1000)
  (n0 : 0 ≤ n) (n1 : n < 2 ^ 63) (hcn : vc[n.toNat]? = some (.ref c)) (hc : (c, instObj 38 d) ∈ rest) (hd : (d, oneDict ot room tr l b) ∈ rest)
  (hi : IntsAre vs hs) (hlen : hs.length ≤ 1000)
  (hret : ∀ r w₂ nw₂ vs' nl' fresh h' tk', IntsAre vs' (sendF b hs rows n v).hs → WNew w' w₂ (dx :: l :: rest.map (·.1)) → OwnOff fresh (w₂ :: dx :: l :: rest.map (·.1)) → Fr h₀ L h' m →
    News h₀ L h' ((dx, chDict ct chl w₂) :: (l, listOf vs'.toArray nl') :: (w₂, listOf (refsOf (sendF b hs rows n v).rows).toArray nw₂) :: (fresh ++ rest)) → Bears fresh r (sendF b hs rows n v).res → Q r { s with heap := h', toks := tk' }) :
  wpAny (model prog w) (ktrTop dp un gd cn cs L a ccd cl outer) (call (.ref 117) [.ref x, .int n tn, .int v tv]) Q E s := by
  replace hret : ∀ o, sendF b hs rows n v = o → ∀ r w₂ nw₂ vs' nl' fresh h' tk', IntsAre vs' o.hs → WNew w' w₂ (dx :: l :: rest.map (·.1)) → OwnOff fresh (w₂ :: dx :: l :: rest.map (·.1)) → Fr h₀ L h' m →
    News h₀ L h' ((dx, chDict ct chl w₂) :: (l, listOf vs'.toArray nl') :: (w₂, listOf (refsOf o.rows).toArray nw₂) :: (fresh ++ rest)) → Bears fresh r o.res → Q r { s with heap := h', toks := tk' } := fun o e => e ▸ hret
  refine wpAny_call ?_
  k_dflt ktr_enter
  k_steps
  · rename News h₀ L _ _ => kN
    have hb : b = true := by assumption
    obtain ⟨oo, NN⟩ := end_old (fresh := [_, _, _]) kN hw (by tb_start)
    exact hret _ (sent_1 hb) _ _ _ _ _ _ _ _ hi (.inl rfl) oo (by assumption) NN (fun _ _ _ N9 => ⟨_, by ked_read⟩)
  · rename News h₀ L _ _ => kN
    have hb : b = false := by assumption
    have hf : rows.find? (fun l => hits false n l.r) = none := by assumption
    obtain ⟨oo, NN⟩ := end_old (fresh := [_, _, _]) kN hw (by tb_start)
    rw [List.push_toArray] at NN
    exact hret _ (sent_2 hb hf) _ _ _ _ _ _ _ _ (ints_snoc hi) (.inl rfl) oo (by assumption) NN (fun _ _ _ N9 => ⟨_, by ked_read⟩)
  · rename News h₀ L _ _ => kN
    rename LRow => t
    rename (_ ≠ _ ∧ _ ≠ _ ∧ LCg.Off1 _ _) => hoff
    have hb : b = false := by assumption
    have hf : rows.find? (fun l => hits false n l.r) = some t := by assumption
    obtain ⟨oo, NN⟩ := end_new (fresh := [_, _, _, _, _]) kN (by tb_start)
    exact hret _ (sent_3 hb hf) _ _ _ _ _ _ _ _ hi (wnew_of hoff) oo (by assumption) NN (fun _ _ _ N9 => ⟨_, by ked_read⟩)
theorem my_pop0 {prog : Program} {w : World} {A : Around} {E : Value → Shared → Prop} {s : Shared} {h₀ : Heap} {L D : Addr} {m : Str → Option Value} {news news' : List (Addr × Obj)} {vs : List Value} {ns : List Int} {n : Nat} {u : Tok} {Q : Value → Shared → Prop}
    (F : Fr h₀ L s.heap m) (N : News h₀ L s.heap news) (U : Upd D (listOf vs.toArray n) (listOf vs.tail.toArray (n + 1)) news news') (hi : IntsAre vs ns) (hne : ns ≠ []) (hz : ns.length ≤ 2000)
    (h : ∀ t h', Fr h₀ L h' m → News h₀ L h' news' → IntsAre vs.tail ns.tail → Q (.int (ns.headD 0) t) { s with heap := h' }) :
    wpAny (model prog w) A (call (.builtin "list.pop") [.ref D, .int 0 u]) Q E s := by
  have hl := hi.length
  match vs, ns, hi with
  | _, _, .nil => exact absurd rfl hne
  | _, _, .cons (vs := vs') i t h' =>
    refine kl_popAt (k := 0) (p := []) (q := vs') (y := .int i t) F N (by decide) (by simp [seqIndex?]) rfl U ?_ fun h9 F9 N9 => h t h9 F9 N9 h'
    rw [sizeLine_eq]
    simp at hl hz ⊢
    omega
theorem News.junk {h₀ h : Heap} {L : Addr} {a j b : List (Addr × Obj)} {p : Addr × Obj} (N : News h₀ L h (a ++ (p :: (j ++ b)))) : News h₀ L h (a ++ (p :: b)) := fun q hq => N q (by
  simp only [List.mem_append, List.mem_cons] at hq ⊢
  rcases hq with h | h | h
  · exact .inl h
  · exact .inr (.inl h)
  · exact .inr (.inr (.inr h)))
def takeF (hs : List Int) (rows : List LRow) (n : Int) : Out :=
  match rows.find? (fun l => hits true n l.r) with
  | none => match hs with
    | [] => ⟨resD (recvD .none false) [], [], rows⟩
    | a :: r => ⟨resD (recvD (.int a) true) [], r, rows⟩
  | some t => ⟨resD (recvD (.int ((hs ++ [t.r.v]).headD 0)) true) [(t.r.g, t.r.c, sentD)], (hs ++ [t.r.v]).tail, rows.filter fun l => l.r.g != t.r.g⟩
theorem took_1 {hs : List Int} {rows : List LRow} {n : Int} (hb : hs = []) (hf : rows.find? (fun l => hits true n l.r) = none) : takeF hs rows n = ⟨resD (recvD .none false) [], [], rows⟩ := by simp [takeF, hb, hf]
theorem took_2 {hs : List Int} {rows : List LRow} {n : Int} (hb : hs ≠ []) (hf : rows.find? (fun l => hits true n l.r) = none) : takeF hs rows n = ⟨resD (recvD (.int (hs.headD 0)) true) [], hs.tail, rows⟩ := by
  cases hs with
  | nil => exact absurd rfl hb
  | cons a r => simp [takeF, hf]
theorem took_3 {hs : List Int} {rows : List LRow} {n : Int} {t : LRow} (hf : rows.find? (fun l => hits true n l.r) = some t) : takeF hs rows n = ⟨resD (recvD (.int ((hs ++ [t.r.v]).headD 0)) true) [(t.r.g, t.r.c, sentD)], (hs ++ [t.r.v]).tail, rows.filter fun l => l.r.g != t.r.g⟩ := by simp [takeF, hf]
set_option maxRecDepth 100000 in
set_option maxHeartbeats 8000000 in
theorem take_rule {prog : Program} {w : World} {p : Program} {loose : List Str} {mean : ExcName → Option Value} {mg mb : Str → Option Value}
  {dp un : Nat} {gd : Option (List Code)} {cn : Str} {cs : Scope} {a : Addr} {ccd : Value} {cl : List (Str × Addr)} {outer : List Env} {A₀ : Around} {base h₀ : Heap} {L : Addr} {m : Str → Option Value} {s : Shared} {Q E : Value → Shared → Prop}
  {rest : List (Addr × Obj)}
  {x dx w' chl c d l : Addr} {ct : ChTok} {ot : OneTok} {room : Int} {tr : Tok} {b : Bool} {vc vs : List Value} {hs : List Int} {nc nl nw : Nat} {rows : List LRow} {n : Int} {tn : Tok}
  (B : Below A₀ base outer h₀) (F : Fr h₀ L s.heap m) (X : (Mine.hd.heap_39 w.params).In h₀) (T : Top p loose mean mg mb h₀) (hk : cs.kind = .function) (hdp : dp + 20 < recursionLimit) (hun : un + 260 < cLine) (N : News h₀ L s.heap ((dx, chDict ct chl w') :: (l, listOf vs.toArray nl) :: rest)) (off : OwnOff rest [dx, l]) (hne : @Ne Nat dx l)
  (hx : (x, instObj 155 dx) ∈ rest) (hchl : (chl, listOf vc.toArray nc) ∈ rest)
  (hw : (w', listOf (refsOf rows).toArray nw) ∈ rest) (hr : RowsIn rows rest) (hlr : rows.length ≤ 1000)
  (n0 : 0 ≤ n) (n1 : n < 2 ^ 63) (hcn : vc[n.toNat]? = some (.ref c)) (hc : (c, instObj 38 d) ∈ rest) (hd : (d, oneDict ot room tr l b) ∈ rest)
  (hi : IntsAre vs hs) (hlen : hs.length ≤ 1000)
  (hret : ∀ r w₂ nw₂ vs' nl' fresh h' tk', IntsAre vs' (takeF hs rows n).hs → WNew w' w₂ (dx :: l :: rest.map (·.1)) → OwnOff fresh (w₂ :: dx :: l :: rest.map (·.1)) → Fr h₀ L h' m →
    News h₀ L h' ((dx, chDict ct chl w₂) :: (l, listOf vs'.toArray nl') :: (w₂, listOf (refsOf (takeF hs rows n).rows).toArray nw₂) :: (fresh ++ rest)) → Bears fresh r (takeF hs rows n).res → Q r { s with heap := h', toks := tk' }) :
  wpAny (model prog w) (ktrTop dp un gd cn cs L a ccd cl outer) (call (.ref 124) [.ref x, .int n tn]) Q E s := by
  replace hret : ∀ o, takeF hs rows n = o → ∀ r w₂ nw₂ vs' nl' fresh h' tk', IntsAre vs' o.hs → WNew w' w₂ (dx :: l :: rest.map (·.1)) → OwnOff fresh (w₂ :: dx :: l :: rest.map (·.1)) → Fr h₀ L h' m →
    News h₀ L h' ((dx, chDict ct chl w₂) :: (l, listOf vs'.toArray nl') :: (w₂, listOf (refsOf o.rows).toArray nw₂) :: (fresh ++ rest)) → Bears fresh r o.res → Q r { s with heap := h', toks := tk' } := fun o e => e ▸ hret
  refine wpAny_call ?_
  k_dflt ktr_enter
  k_steps
  · rename News h₀ L _ _ => kN
    have hb : hs = [] := of_decide_eq_true (by assumption)
    have hf : rows.find? (fun l => hits true n l.r) = none := by assumption
    have e9 := end_old (fresh := [_, _, _, _, _]) kN hw (by tb_start)
    exact hret _ (took_1 hb hf) _ _ _ _ _ _ _ _ (hb ▸ hi) (.inl rfl) e9.1 (by assumption) e9.2 (fun _ _ _ N9 => ⟨_, by ked_read⟩)
  · rename News h₀ L _ _ => kN
    have hb : hs ≠ [] := of_decide_eq_false (by assumption)
    have hf : rows.find? (fun l => hits true n l.r) = none := by assumption
    have e9 := end_old (fresh := [_, _, _, _, _]) kN hw (by tb_start)
    exact hret _ (took_2 hb hf) _ _ _ _ _ _ _ _ (by assumption) (.inl rfl) e9.1 (by assumption) e9.2 (fun _ _ _ N9 => ⟨_, by ked_read⟩)
  all_goals
    rename News h₀ L _ _ => kN
    rename LRow => t
    rename (_ ≠ _ ∧ _ ≠ _ ∧ _ ≠ _ ∧ _ ≠ _ ∧ LCg.Off1 _ _) => hoff
    have hf : rows.find? (fun l => hits true n l.r) = some t := by assumption
    have e9 := end_new (fresh := [_, _, _, _, _]) (News.junk (a := [_, _, _, _, _]) (j := [_, _]) kN) (by tb_start)
    exact hret _ (took_3 hf) _ _ _ _ _ _ _ _ (by assumption) (wnew_of hoff.2.2) e9.1 (by assumption) e9.2 (fun _ _ _ N9 => ⟨_, by ked_read⟩)
def doneF (k b : Bool) (hs : List Int) (rows : List LRow) (n v : Int) : Out := if k then sendF b hs rows n v else takeF hs rows n
section
variable {k b : Bool} {hs : List Int} {rows : List LRow} {n v : Int} {t : LRow}
theorem done_1 (hk : k = true) (hb : b = true) : doneF k b hs rows n v = ⟨resD (panicD "send on closed channel") [], hs, rows⟩ := by simp [doneF, sendF, hk, hb]
theorem done_2 (hk : k = true) (hb : b = false) (hf : rows.find? (fun l => hits false n l.r) = none) : doneF k b hs rows n v = ⟨resD sentD [], hs ++ [v], rows⟩ := by simp [doneF, sendF, hk, hb, hf]
theorem done_3 (hk : k = true) (hb : b = false) (hf : rows.find? (fun l => hits false n l.r) = some t) : doneF k b hs rows n v = ⟨resD sentD [(t.r.g, t.r.c, recvD (.int v) true)], hs, rows.filter fun l => l.r.g != t.r.g⟩ := by simp [doneF, sendF, hk, hb, hf]
theorem done_4 (hk : k = false) (hb : hs = []) (hf : rows.find? (fun l => hits true n l.r) = none) : doneF k b hs rows n v = ⟨resD (recvD .none false) [], [], rows⟩ := by simp [doneF, takeF, hk, hb, hf]
theorem done_5 (hk : k = false) (hb : hs ≠ []) (hf : rows.find? (fun l => hits true n l.r) = none) : doneF k b hs rows n v = ⟨resD (recvD (.int (hs.headD 0)) true) [], hs.tail, rows⟩ := by
  cases hs with
  | nil => exact absurd rfl hb
  | cons a r => simp [doneF, takeF, hk, hf]
theorem done_6 (hk : k = false) (hb : hs = []) (hf : rows.find? (fun l => hits true n l.r) = some t) : doneF k b hs rows n v = ⟨resD (recvD (.int t.r.v) true) [(t.r.g, t.r.c, sentD)], [], rows.filter fun l => l.r.g != t.r.g⟩ := by simp [doneF, takeF, hk, hb, hf]
theorem done_7 (hk : k = false) (hb : hs ≠ []) (hf : rows.find? (fun l => hits true n l.r) = some t) : doneF k b hs rows n v = ⟨resD (recvD (.int (hs.headD 0)) true) [(t.r.g, t.r.c, sentD)], hs.tail ++ [t.r.v], rows.filter fun l => l.r.g != t.r.g⟩ := by
  cases hs with
  | nil => exact absurd rfl hb
  | cons a r => simp [doneF, takeF, hk, hf]
end
set_option maxRecDepth 100000 in
set_option maxHeartbeats 8000000 in
theorem lawdone_rule {prog : Program} {w : World} {p : Program} {loose : List Str} {mean : ExcName → Option Value} {mg mb : Str → Option Value}
  {dp un : Nat} {gd : Option (List Code)} {cn : Str} {cs : Scope} {a : Addr} {ccd : Value} {cl : List (Str × Addr)} {outer : List Env} {A₀ : Around} {base h₀ : Heap} {L : Addr} {m : Str → Option Value} {s : Shared} {Q E : Value → Shared → Prop}
  {rest : List (Addr × Obj)}
  {bk w' br bh bc l : Addr} {ob : Obj} {b : Bool} {vh vc vs : List Value} {hs : List Int} {nh nc nl nw : Nat} {rows : List LRow} {k : Bool} {n v : Int} {tk tn tv : Tok}
  (B : Below A₀ base outer h₀) (F : Fr h₀ L s.heap m) (X : (Mine.hd.heap_39 w.params).In h₀) (T : Top p loose mean mg mb h₀) (hk : cs.kind = .function) (hdp : dp + 20 < recursionLimit) (hun : un + 260 < cLine) (N : News h₀ L s.heap ((bk, ob) :: (l, listOf vs.toArray nl) :: rest)) (off : OwnOff rest [bk, l]) (hne : @Ne Nat bk l)
  (hob : ob.IsDictOf (strKind prog w) (bkKvs br bh bc w'))
  (hw : (w', listOf (refsOf rows).toArray nw) ∈ rest) (hr : RowsIn rows rest) (hlr : rows.length ≤ 1000)
  (n0 : 0 ≤ n) (n1 : n < 2 ^ 63) (hbc : (bc, listOf vc.toArray nc) ∈ rest) (hcn : vc[n.toNat]? = some (.bool b))
  (hbh : (bh, listOf vh.toArray nh) ∈ rest) (hhn : vh[n.toNat]? = some (.ref l))
  (hi : IntsAre vs hs) (hlen : hs.length ≤ 1000)
  (hret : ∀ r w₂ nw₂ vs' nl' fresh o₂ h' tk', IntsAre vs' (doneF k b hs rows n v).hs → WNew w' w₂ (bk :: l :: rest.map (·.1)) → OwnOff fresh (w₂ :: bk :: l :: rest.map (·.1)) → o₂.IsDictOf (strKind prog w) (bkKvs br bh bc w₂) → Fr h₀ L h' m →
    News h₀ L h' ((bk, o₂) :: (l, listOf vs'.toArray nl') :: (w₂, listOf (refsOf (doneF k b hs rows n v).rows).toArray nw₂) :: (fresh ++ rest)) → Bears fresh r (doneF k b hs rows n v).res → Q r { s with heap := h', toks := tk' }) :
  wpAny (model prog w) (ktrTop dp un gd cn cs L a ccd cl outer) (call (.ref 335) [.ref bk, .str (kStr k) tk, .int n tn, .int v tv]) Q E s := by
  have hvl : vs.length ≤ 1000 := Nat.le_trans (Nat.le_of_eq hi.length) hlen
  replace hret : ∀ o, doneF k b hs rows n v = o → ∀ r w₂ nw₂ vs' nl' fresh o₂ h' tk', IntsAre vs' o.hs → WNew w' w₂ (bk :: l :: rest.map (·.1)) → OwnOff fresh (w₂ :: bk :: l :: rest.map (·.1)) → o₂.IsDictOf (strKind prog w) (bkKvs br bh bc w₂) → Fr h₀ L h' m →
    News h₀ L h' ((bk, o₂) :: (l, listOf vs'.toArray nl') :: (w₂, listOf (refsOf o.rows).toArray nw₂) :: (fresh ++ rest)) → Bears fresh r o.res → Q r { s with heap := h', toks := tk' } := fun o e => e ▸ hret
  refine wpAny_call ?_
  k_dflt ktr_enter
  k_steps
  · rename News h₀ L _ _ => kN
    have hk1 : k = true := kStr_send.symm.trans (by assumption)
    have hb : b = true := by assumption
    have e9 := end_old (fresh := [_, _, _]) kN hw (by tb_start)
    exact hret _ (done_1 hk1 hb) _ _ _ _ _ _ _ _ _ hi (.inl rfl) e9.1 hob (by assumption) e9.2 (fun _ _ _ N9 => ⟨_, by ked_read⟩)
  · rename News h₀ L _ _ => kN
    have hk1 : k = true := kStr_send.symm.trans (by assumption)
    have hb : b = false := by assumption
    have hf : rows.find? (fun l => hits false n l.r) = none := by assumption
    obtain ⟨oo, NN⟩ := end_old (fresh := [_, _, _]) kN hw (by tb_start)
    (try rw [List.push_toArray] at NN)
    exact hret _ (done_2 hk1 hb hf) _ _ _ _ _ _ _ _ _ (ints_snoc hi) (.inl rfl) oo hob (by assumption) NN (fun _ _ _ N9 => ⟨_, by ked_read⟩)
  · rename News h₀ L _ _ => kN
    rename LRow => t
    rename (_ ≠ _ ∧ _ ≠ _ ∧ LCg.Off1 _ _) => hoff
    have hk1 : k = true := kStr_send.symm.trans (by assumption)
    have hb : b = false := by assumption
    have hf : rows.find? (fun l => hits false n l.r) = some t := by assumption
    have e9 := end_new (fresh := [_, _, _, _, _]) kN (by tb_start)
    exact hret _ (done_3 hk1 hb hf) _ _ _ _ _ _ _ _ _ hi (wnew_of hoff) e9.1 (by assumption) (by assumption) e9.2 (fun _ _ _ N9 => ⟨_, by ked_read⟩)
  · rename News h₀ L _ _ => kN
    have hk1 : k = false := kStr_send.symm.trans (by assumption)
    have hb : hs = [] := of_decide_eq_true (by assumption)
    have hf : rows.find? (fun l => hits true n l.r) = none := by assumption
    have e9 := end_old (fresh := [_, _, _, _]) kN hw (by tb_start)
    exact hret _ (done_4 hk1 hb hf) _ _ _ _ _ _ _ _ _ (hb ▸ hi) (.inl rfl) e9.1 hob (by assumption) e9.2 (fun _ _ _ N9 => ⟨_, by ked_read⟩)
  · rename News h₀ L _ _ => kN
    have hk1 : k = false := kStr_send.symm.trans (by assumption)
    have hb : hs ≠ [] := of_decide_eq_false (by assumption)
    have hf : rows.find? (fun l => hits true n l.r) = none := by assumption
    have e9 := end_old (fresh := [_, _, _, _]) kN hw (by tb_start)
    exact hret _ (done_5 hk1 hb hf) _ _ _ _ _ _ _ _ _ (by assumption) (.inl rfl) e9.1 hob (by assumption) e9.2 (fun _ _ _ N9 => ⟨_, by ked_read⟩)
  · rename News h₀ L _ _ => kN
    rename LRow => t
    rename (_ ≠ _ ∧ _ ≠ _ ∧ LCg.Off1 _ _) => hoff
    have hk1 : k = false := kStr_send.symm.trans (by assumption)
    have hb : hs = [] := of_decide_eq_true (by assumption)
    have hf : rows.find? (fun l => hits true n l.r) = some t := by assumption
    have e9 := end_new (fresh := [_, _, _, _, _, _]) kN (by tb_start)
    exact hret _ (done_6 hk1 hb hf) _ _ _ _ _ _ _ _ _ (hb ▸ hi) (wnew_of hoff) e9.1 (by assumption) (by assumption) e9.2 (fun _ _ _ N9 => ⟨_, by ked_read⟩)
  · rename News h₀ L _ _ => kN
    rename LRow => t
    rename (_ ≠ _ ∧ _ ≠ _ ∧ LCg.Off1 _ _) => hoff
    have hk1 : k = false := kStr_send.symm.trans (by assumption)
    have hb : hs ≠ [] := of_decide_eq_false (by assumption)
    have hf : rows.find? (fun l => hits true n l.r) = some t := by assumption
    obtain ⟨oo, NN⟩ := end_new (fresh := [_, _, _, _, _, _]) kN (by tb_start)
    (try rw [List.push_toArray] at NN)
    exact hret _ (done_7 hk1 hb hf) _ _ _ _ _ _ _ _ _ (ints_snoc (by assumption)) (wnew_of hoff) oo (by assumption) (by assumption) NN (fun _ _ _ N9 => ⟨_, by ked_read⟩)
theorem off2_cons {a i : Nat} {o : Obj} {l : List (Addr × Obj)} (h1 : @Ne Nat a (i + 1)) (h2 : @Ne Nat a i) (h : ∀ p ∈ l, @Ne Nat p.1 (i + 1) ∧ @Ne Nat p.1 i) : ∀ p ∈ ((a, o) : Addr × Obj) :: l, @Ne Nat p.1 (i + 1) ∧ @Ne Nat p.1 i := fun p hp => by
  rcases List.mem_cons.mp hp with rfl | hp
  · exact ⟨h1, h2⟩
  · exact h p hp
theorem off2_rest {i : Nat} {l : List (Addr × Obj)} (h : AllLt i l) : ∀ p ∈ l, @Ne Nat p.1 (i + 1) ∧ @Ne Nat p.1 i := fun p hp => by
  have h1 : @LT.lt Nat _ p.1 i := AllLt.mem h p hp
  exact ⟨Nat.ne_of_lt (Nat.lt_succ_of_lt h1), Nat.ne_of_lt h1⟩
theorem unrEndW_mid {h₀ h' : Heap} {L : Addr} {i : Nat} {o1 o2 : Obj} {a b : List (Addr × Obj)} {rest : (Str → Option Value) → List (Addr × Obj) → Prop} {s₁ : Shared} {tk : Nat} {m' : Str → Option Value} (F : Fr h₀ L h' m')
    (N : News h₀ L h' (a ++ ((i + 1, o1) :: (i, o2) :: b))) (off : ∀ p ∈ a ++ b, @Ne Nat p.1 (i + 1) ∧ @Ne Nat p.1 i) (r : rest m' (a ++ b)) : UnrEndW h₀ L s₁ [(i + 1, o1), (i, o2)] rest { s₁ with heap := h', toks := tk } := by
  refine ⟨h', tk, m', a ++ b, rfl, F, fun p hp => N p ?_, fun p hp q hq => ?_, r⟩
  · simp only [List.mem_append, List.mem_cons, List.not_mem_nil, or_false] at hp ⊢
    rcases hp with (h | h) | h | h
    · exact .inr (.inl h)
    · exact .inr (.inr (.inl h))
    · exact .inl h
    · exact .inr (.inr (.inr h))
  · simp only [List.mem_cons, List.not_mem_nil, or_false] at hq
    rcases hq with rfl | rfl
    · exact (off p hp).1
    · exact (off p hp).2
theorem wait_end1 {h₀ h : Heap} {L : Addr} {rows : List LRow} {rest : List (Addr × Obj)} {w' D : Nat} {g n v c : Int} {k : Bool} {tg tk tn tv t : Tok} {e nw' : Nat}
    (kN : News h₀ L h ((D, tupN [.int g tg, .str (kStr k) tk, .int n tn, .int v tv, .int c t] e) :: (w', listOf ((refsOf rows).toArray.push (.ref D)) nw') :: rest)) (hlt : w' < D) (hA : AllLt D rest) :
    ∃ new fresh, new.map (·.r) = [(⟨g, k, n, v, c⟩ : Row)] ∧ RowsIn new fresh ∧ OwnOff fresh (w' :: rest.map (·.1)) ∧ News h₀ L h ((w', listOf (refsOf (rows ++ new)).toArray nw') :: (fresh ++ rest)) := by
  refine ⟨[⟨D, ⟨g, k, n, v, c⟩, tg, tk, tn, tv, t, e⟩], [(D, tupN [.int g tg, .str (kStr k) tk, .int n tn, .int v tv, .int c t] e)], rfl, fun l hl => ?_, fun p hp b hb => ?_, fun p hp => ?_⟩
  · rw [List.mem_singleton] at hl
    subst hl
    exact .head _
  · rw [List.mem_singleton] at hp
    subst hp
    rcases List.mem_cons.mp hb with rfl | hb
    · exact Nat.ne_of_gt hlt
    · obtain ⟨q, hq, rfl⟩ := List.mem_map.mp hb
      exact Nat.ne_of_gt (AllLt.mem hA q hq)
  · have e : (refsOf rows).toArray.push (.ref D) = (refsOf (rows ++ [⟨D, ⟨g, k, n, v, c⟩, tg, tk, tn, tv, t, e⟩])).toArray := by simp
    rw [e] at kN
    simp only [List.mem_cons, List.mem_append, List.not_mem_nil, or_false] at hp
    rcases hp with h | h | h
    · exact kN p (h ▸ .tail _ (.head _))
    · exact kN p (h ▸ .head _)
    · exact kN p (.tail _ (.tail _ h))
theorem wait_end2 {h₀ h : Heap} {L : Addr} {rows : List LRow} {rest : List (Addr × Obj)} {w' D D2 : Nat} {g n v c n2 v2 c2 : Int} {k k2 : Bool} {tg tk tn tv t tg2 tk2 tn2 tv2 t2 : Tok} {e e2 nw' : Nat}
    (kN : News h₀ L h ((D2, tupN [.int g tg2, .str (kStr k2) tk2, .int n2 tn2, .int v2 tv2, .int c2 t2] e2) :: (D, tupN [.int g tg, .str (kStr k) tk, .int n tn, .int v tv, .int c t] e) ::
      (w', listOf (((refsOf rows).toArray.push (.ref D)).push (.ref D2)) nw') :: rest)) (hlt : w' < D) (hA : AllLt D rest) (hlt2 : w' < D2) (hA2 : AllLt D2 rest) :
    ∃ new fresh, new.map (·.r) = [(⟨g, k, n, v, c⟩ : Row), (⟨g, k2, n2, v2, c2⟩ : Row)] ∧ RowsIn new fresh ∧ OwnOff fresh (w' :: rest.map (·.1)) ∧ News h₀ L h ((w', listOf (refsOf (rows ++ new)).toArray nw') :: (fresh ++ rest)) := by
  refine ⟨[⟨D, ⟨g, k, n, v, c⟩, tg, tk, tn, tv, t, e⟩, ⟨D2, ⟨g, k2, n2, v2, c2⟩, tg2, tk2, tn2, tv2, t2, e2⟩],
    [(D, tupN [.int g tg, .str (kStr k) tk, .int n tn, .int v tv, .int c t] e), (D2, tupN [.int g tg2, .str (kStr k2) tk2, .int n2 tn2, .int v2 tv2, .int c2 t2] e2)], rfl, fun l hl => ?_, fun p hp b hb => ?_, fun p hp => ?_⟩
  · simp only [List.mem_cons, List.not_mem_nil, or_false] at hl
    rcases hl with rfl | rfl
    · exact .head _
    · exact .tail _ (.head _)
  · simp only [List.mem_cons, List.not_mem_nil, or_false] at hp
    rcases hp with rfl | rfl
    · rcases List.mem_cons.mp hb with rfl | hb
      · exact Nat.ne_of_gt hlt
      · obtain ⟨q, hq, rfl⟩ := List.mem_map.mp hb
        exact Nat.ne_of_gt (AllLt.mem hA q hq)
    · rcases List.mem_cons.mp hb with rfl | hb
      · exact Nat.ne_of_gt hlt2
      · obtain ⟨q, hq, rfl⟩ := List.mem_map.mp hb
        exact Nat.ne_of_gt (AllLt.mem hA2 q hq)
  · have e : ((refsOf rows).toArray.push (.ref D)).push (.ref D2) = (refsOf (rows ++ [⟨D, ⟨g, k, n, v, c⟩, tg, tk, tn, tv, t, e⟩, ⟨D2, ⟨g, k2, n2, v2, c2⟩, tg2, tk2, tn2, tv2, t2, e2⟩])).toArray := by simp
    rw [e] at kN
    simp only [List.mem_cons, List.mem_append, List.not_mem_nil, or_false] at hp
    rcases hp with h | (h | h) | h
    · exact kN p (h ▸ .tail _ (.tail _ (.head _)))
    · exact kN p (h ▸ .tail _ (.head _))
    · exact kN p (h ▸ .head _)
    · exact kN p (.tail _ (.tail _ (.tail _ h)))
theorem fill_P13 : Challenge.rw_xm0171_01 = Challenge.rw_xm0171_01 ∧ Mine.hd.heap_39 = Mine.hd.heap_39 := by
  k_fill
  w_top off
  k_with "exec For Tuple Call cons nil" => ((k_here; (rename Fr _ _ _ _ => lFz9); (with_unfolding_all refine' For_turns lFz9 ?_; k_whole)))
  k_with "call type:enumerate" => ((k_here; (with_reducible show wpAny _ _ (call (Value.type _) [Value.ref _]) (fun xv s₁ => wpAny _ _ (pyIter xv) (fun it s₂ => TurnsAt _ _ _ _ _ _ _ _ _ it s₂) _ s₁) _ _); (rename Fr _ _ _ _ => lFz9); (rename News _ _ _ _ => lNz9); k_dflt (first
  | refine ktu_enum (lo := listOf [Value.ref _].toArray _) (vs := [Value.ref _]) (xs := [Itm.pair (fun t => Value.int (0 : Int) t) (Value.ref _)]) (by rfl) lFz9 lNz9 (by k_mem) (by rfl) (by rfl) (by rfl) ?_
  | refine ktu_enum (lo := listOf [Value.ref _, Value.ref _, Value.ref _].toArray _) (vs := [Value.ref _, Value.ref _, Value.ref _]) (xs := [Itm.pair (fun t => Value.int (0 : Int) t) (Value.ref _), Itm.pair (fun t => Value.int (1 : Int) t) (Value.ref _), Itm.pair (fun t => Value.int (2 : Int) t) (Value.ref _)]) (by rfl) lFz9 lNz9 (by k_mem) (by rfl) (by rfl) (by rfl) ?_); clear lFz9; intro iz9 l1z9; (try k_lt l1z9)))
  k_with "tb_start" => (first | exact off2_rest (by tb_rel) | (refine off2_cons (by omega) (by omega) ?_; tb_start))
  k_with "UnrEndW" => ((k_dflt (first
  | refine unrEndW_mid (a := [_]) (by assumption) (by assumption) (by tb_start) ⟨⟨by k_mem, trivial⟩, ?_⟩
  | refine unrEndW_mid (a := []) (by assumption) (by assumption) (by tb_start) ⟨⟨by k_mem, trivial⟩, ?_⟩)))
  exact ⟨rfl, rfl⟩
set_option maxRecDepth 100000 in
set_option maxHeartbeats 8000000 in
theorem wait1_rule {prog : Program} {w : World} {p : Program} {loose : List Str} {mean : ExcName → Option Value} {mg mb : Str → Option Value}
  {dp un : Nat} {gd : Option (List Code)} {cn : Str} {cs : Scope} {a : Addr} {ccd : Value} {cl : List (Str × Addr)} {outer : List Env} {A₀ : Around} {base h₀ : Heap} {L : Addr} {m : Str → Option Value} {s : Shared} {Q E : Value → Shared → Prop}
  {rest : List (Addr × Obj)}
  {x dx w' chl dl d1 : Addr} {ct : ChTok} {nw ndl e1 : Nat} {rows : List LRow} {k : Bool} {g n v : Int} {tg tk tn tv : Tok}
  (B : Below A₀ base outer h₀) (F : Fr h₀ L s.heap m) (X : (Mine.hd.heap_39 w.params).In h₀) (T : Top p loose mean mg mb h₀) (hk : cs.kind = .function) (hdp : dp + 20 < recursionLimit) (hun : un + 160 < cLine) (N : News h₀ L s.heap ((w', listOf (refsOf rows).toArray nw) :: rest)) (off : OwnOff rest [w'])
  (hx : (x, instObj 155 dx) ∈ rest) (hdx : (dx, chDict ct chl w') ∈ rest) (hlr : rows.length ≤ 1000)
  (hdl : (dl, listOf [Value.ref d1].toArray ndl) ∈ rest) (hd1 : (d1, tupN [.str (kStr k) tk, .int n tn, .int v tv] e1) ∈ rest)
  (hret : ∀ new nw' fresh h' tk', new.map (·.r) = [⟨g, k, n, v, 0⟩] → RowsIn new fresh → OwnOff fresh (w' :: rest.map (·.1)) → Fr h₀ L h' m →
    News h₀ L h' ((w', listOf (refsOf (rows ++ new)).toArray nw') :: (fresh ++ rest)) → Q .none { s with heap := h', toks := tk' }) :
  wpAny (model prog w) (ktrTop dp un gd cn cs L a ccd cl outer) (call (.ref 152) [.ref x, .int g tg, .ref dl]) Q E s := by
  refine wpAny_call ?_
  k_dflt ktr_enter
  k_steps
  rename News h₀ L _ _ => kN
  obtain ⟨new, fresh, e1, e2, e3, e4⟩ := wait_end1 kN (by omega) (by tb_rel)
  exact hret new _ fresh _ _ e1 e2 e3 (by assumption) e4
set_option maxRecDepth 100000 in
set_option maxHeartbeats 8000000 in
theorem wait3_rule {prog : Program} {w : World} {p : Program} {loose : List Str} {mean : ExcName → Option Value} {mg mb : Str → Option Value}
  {dp un : Nat} {gd : Option (List Code)} {cn : Str} {cs : Scope} {a : Addr} {ccd : Value} {cl : List (Str × Addr)} {outer : List Env} {A₀ : Around} {base h₀ : Heap} {L : Addr} {m : Str → Option Value} {s : Shared} {Q E : Value → Shared → Prop}
  {rest : List (Addr × Obj)}
  {x dx w' chl dl d1 d2 d3 : Addr} {ct : ChTok} {nw ndl e1 e2 e3 : Nat} {rows : List LRow} {k k2 k3 : Bool} {g n v v2 n3 v3 : Int} {tg tk tn tv tk2 tv2 tk3 tn3 tv3 : Tok}
  (B : Below A₀ base outer h₀) (F : Fr h₀ L s.heap m) (X : (Mine.hd.heap_39 w.params).In h₀) (T : Top p loose mean mg mb h₀) (hk : cs.kind = .function) (hdp : dp + 20 < recursionLimit) (hun : un + 160 < cLine) (N : News h₀ L s.heap ((w', listOf (refsOf rows).toArray nw) :: rest)) (off : OwnOff rest [w'])
  (hx : (x, instObj 155 dx) ∈ rest) (hdx : (dx, chDict ct chl w') ∈ rest) (hlr : rows.length ≤ 1000)
  (hdl : (dl, listOf [Value.ref d1, Value.ref d2, Value.ref d3].toArray ndl) ∈ rest) (hd1 : (d1, tupN [.str (kStr k) tk, .int n tn, .int v tv] e1) ∈ rest)
  (hd2 : (d2, tupN [.str (kStr k2) tk2, .none, .int v2 tv2] e2) ∈ rest) (hd3 : (d3, tupN [.str (kStr k3) tk3, .int n3 tn3, .int v3 tv3] e3) ∈ rest)
  (hret : ∀ new nw' fresh h' tk', new.map (·.r) = [⟨g, k, n, v, 0⟩, ⟨g, k3, n3, v3, 2⟩] → RowsIn new fresh → OwnOff fresh (w' :: rest.map (·.1)) → Fr h₀ L h' m →
    News h₀ L h' ((w', listOf (refsOf (rows ++ new)).toArray nw') :: (fresh ++ rest)) → Q .none { s with heap := h', toks := tk' }) :
  wpAny (model prog w) (ktrTop dp un gd cn cs L a ccd cl outer) (call (.ref 152) [.ref x, .int g tg, .ref dl]) Q E s := by
  refine wpAny_call ?_
  k_dflt ktr_enter
  k_steps

  rename News h₀ L _ _ => kN
  obtain ⟨new, fresh, e1, e2, e3, e4⟩ := wait_end2 kN (by omega) (by tb_rel) (by omega) (by tb_rel)
  exact hret new _ fresh _ _ e1 e2 e3 (by assumption) e4
section
variable {prog : Program} {w : World} {A : Around} {E : Value → Shared → Prop} {Q : Flow → Shared → Prop} {s : Shared} {env : Env} {h₀ : Heap} {L : Addr}
/-- a while that stores one name: J says what holds of the measure, the name's value and the ledger -/
theorem while_one {test : Expr} {body : List Stmt} {pos : Pos} {m : Str → Option Value} {news : List (Addr × Obj)} (x : Str) (J : Nat → Option Value → List (Addr × Obj) → Prop) {n₀ : Nat}
    (F : Fr h₀ L s.heap m) (N : News h₀ L s.heap news) (hJ : J n₀ (m x) news)
    (turn : ∀ n dv news₁ h₁ tk₁, Fr h₀ L h₁ (fun y => if y = x then dv else m y) → News h₀ L h₁ news₁ → J n dv news₁ →
      wpAny (model prog w) A (isTrue test env (eval test env)) (fun b s₂ =>
        if b = true then wpAny (model prog w) A (execs body env) (WhileStep h₀ L s (fun n' m' nw => ∃ dv', m' = (fun y => if y = x then some dv' else (fun y => if y = x then dv else m y) y) ∧ J n' (some dv') nw) n) E s₂ else Q .next s₂) E { s with heap := h₁, toks := tk₁ })
    (hE : PassesOwn (model prog w) A env E := by passes_own) :
    wpAny (model prog w) A (exec (.While test body [] pos) env) Q E s := by
  refine While_inv (fun n m₁ nw => ∃ dv, m₁ = (fun y => if y = x then dv else m y) ∧ J n dv nw) F N ⟨m x, by funext y; by_cases h : y = x <;> simp [h], hJ⟩ ?_ hE
  rintro n m₁ news₁ h₁ tk₁ F₁ N₁ ⟨dv, rfl, j⟩
  refine wpAny_mono (turn n dv news₁ h₁ tk₁ F₁ N₁ j) (fun b s₂ h₂ => ?_) fun _ _ e => e
  cases b with
  | false => exact h₂
  | true =>
    simp only [if_true] at h₂ ⊢
    refine wpAny_mono h₂ (fun f s₃ h₃ => ?_) fun _ _ e => e
    obtain ⟨rfl, h', tk, m₂, news₂, n', e, F₂, N₂, hn, dv', rfl, j'⟩ := h₃
    exact ⟨rfl, h', tk, _, news₂, n', e, F₂, N₂, hn, some dv', by funext y; by_cases h : y = x <;> simp [h], j'⟩
end
def BearsL (news : List (Addr × Obj)) (vs : List Value) (ds : List PyData) : Prop := ∀ h₀ L h, News h₀ L h news → ∃ as, ReadsAll h vs ds as
def endRec (k : Bool) (n : Int) : Nat → List LRow → List LRow × List LRow
  | 0, rows => (rows, [])
  | f + 1, rows => match rows.find? (fun l => hits k n l.r) with
    | none => (rows, [])
    | some t => ((endRec k n f (rows.filter fun l => l.r.g != t.r.g)).1, t :: (endRec k n f (rows.filter fun l => l.r.g != t.r.g)).2)
theorem endRec_none {k : Bool} {n : Int} {rows : List LRow} (h : rows.find? (fun l => hits k n l.r) = none) : ∀ f, endRec k n f rows = (rows, [])
  | 0 => rfl
  | f + 1 => by rw [endRec, h]
theorem endRec_some {k : Bool} {n : Int} {rows : List LRow} {t : LRow} (h : rows.find? (fun l => hits k n l.r) = some t) (f : Nat) :
    endRec k n (f + 1) rows = ((endRec k n f (rows.filter fun l => l.r.g != t.r.g)).1, t :: (endRec k n f (rows.filter fun l => l.r.g != t.r.g)).2) := by rw [endRec, h]
theorem filter_less {k : Bool} {n : Int} {rows : List LRow} {t : LRow} (h : rows.find? (fun l => hits k n l.r) = some t) : (rows.filter fun l => l.r.g != t.r.g).length < rows.length := by
  have hm := List.mem_of_find?_eq_some h
  exact List.length_filter_lt_length_iff_exists.mpr ⟨t, hm, by simp⟩
def foundD (told : PyData) (ts : List LRow) : List PyData := ts.map fun t => .tuple [.int t.r.g, .int t.r.c, told]
def Stop (P : Prop) : Prop := P
theorem Stop.intro {P : Prop} (h : Stop P) : P := h
theorem Stop.out {P : Prop} (h : P) : Stop P := h
def dvOf (k : Bool) (n : Int) (rows : List LRow) : Value := match rows.find? (fun l => hits k n l.r) with
  | none => .none
  | some t => .ref t.a
theorem dvOf_none {k : Bool} {n : Int} {rows : List LRow} (h : rows.find? (fun l => hits k n l.r) = none) : dvOf k n rows = .none := by rw [dvOf, h]
theorem dvOf_some {k : Bool} {n : Int} {rows : List LRow} {t : LRow} (h : rows.find? (fun l => hits k n l.r) = some t) : dvOf k n rows = .ref t.a := by rw [dvOf, h]
/-- what holds between the turns of the loop that ends the waiting of all -/
structure EndS (k : Bool) (n : Int) (d fl w' : Addr) (bs : List (Addr × Obj)) (toldD : PyData) (rest : List (Addr × Obj)) (T₁ : List LRow) (T₂ : List PyData) (L₀ : Nat) (rows' : List LRow) (w₁ : Addr) (fvs : List Value) (fresh : List (Addr × Obj)) (f : Nat) (ds : List PyData) : Prop where
  fuel : rows'.length ≤ f
  two : ds ++ foundD toldD (endRec k n f rows').2 = T₂
  one : (endRec k n f rows').1 = T₁
  rin : RowsIn rows' rest
  len : fvs.length + rows'.length ≤ L₀
  bears : BearsL (bs ++ fresh) fvs ds
  off : OwnOff fresh (w₁ :: fl :: d :: rest.map (·.1))
  wnew : WNew w' w₁ (d :: rest.map (·.1))
  wfl : @Ne Nat w₁ fl
  wd : @Ne Nat w₁ d
  dfl : @Ne Nat d fl
  offr : OwnOff rest [d, fl]
theorem OwnOff.app {a b : List (Addr × Obj)} {adr : List Addr} (h1 : OwnOff a adr) (h2 : OwnOff b adr) : OwnOff (a ++ b) adr := fun p hp => (List.mem_append.mp hp).elim (h1 p) (h2 p)
theorem OwnOff.sub {a : List (Addr × Obj)} {adr adr' : List Addr} (h : OwnOff a adr) (hs : ∀ b ∈ adr', b ∈ adr) : OwnOff a adr' := fun p hp b hb => h p hp b (hs b hb)
theorem RowsIn.right {rows : List LRow} {a b : List (Addr × Obj)} (h : RowsIn rows b) : RowsIn rows (a ++ b) := fun l hl => List.mem_append_right _ (h l hl)
theorem bearsL_nil {news : List (Addr × Obj)} : BearsL news [] [] := fun _ _ _ _ => ⟨_, ReadsAll.nil⟩
theorem readsAll_snoc {h : Heap} {v : Value} {d : PyData} {as1 : List Addr} (r : Reads h v d as1) : ∀ {vs : List Value} {ds : List PyData} {as : List Addr}, ReadsAll h vs ds as → ∃ as', ReadsAll h (vs ++ [v]) (ds ++ [d]) as'
  | _, _, _, .nil => ⟨_, .cons r .nil⟩
  | _, _, _, .cons r1 rs => let ⟨_, x⟩ := readsAll_snoc r rs; ⟨_, .cons r1 x⟩
theorem Bears.mono {a b : List (Addr × Obj)} {v : Value} {d : PyData} (h : Bears a v d) (hs : ∀ p ∈ a, p ∈ b) : Bears b v d := fun h₀ L hh N => h h₀ L hh (News.sub N hs)
theorem BearsL.mono {a b : List (Addr × Obj)} {v : List Value} {d : List PyData} (h : BearsL a v d) (hs : ∀ p ∈ a, p ∈ b) : BearsL b v d := fun h₀ L hh N => h h₀ L hh (News.sub N hs)
theorem BearsL.snoc {news : List (Addr × Obj)} {vs : List Value} {ds : List PyData} {v : Value} {d : PyData} (h : BearsL news vs ds) (hv : Bears news v d) : BearsL news (vs ++ [v]) (ds ++ [d]) := fun h₀ L hh N => by
  obtain ⟨_, x⟩ := h h₀ L hh N
  obtain ⟨_, y⟩ := hv h₀ L hh N
  exact readsAll_snoc y x
def EndJ (k : Bool) (n : Int) (d : Addr) (od : Addr → Obj → Prop) (fl w' : Addr) (bs : List (Addr × Obj)) (toldD : PyData) (rest : List (Addr × Obj)) (T₁ : List LRow) (T₂ : List PyData) (L₀ : Nat) (dvF : List LRow → Option Value → Prop) (μ : Nat) (dv : Option Value) (nw : List (Addr × Obj)) : Prop :=
  ∃ rows' w₁ nw₁ fvs nf fresh f ds o₁, μ = rows'.length ∧ dvF rows' dv ∧ od w₁ o₁ ∧ nw = (d, o₁) :: (fl, listOf fvs.toArray nf) :: (w₁, listOf (refsOf rows').toArray nw₁) :: (fresh ++ rest) ∧
    EndS k n d fl w' bs toldD rest T₁ T₂ L₀ rows' w₁ fvs fresh f ds
theorem EndJ.elim {C : Prop} {k : Bool} {n : Int} {d : Addr} {od : Addr → Obj → Prop} {fl w' : Addr} {bs : List (Addr × Obj)} {toldD : PyData} {rest : List (Addr × Obj)} {T₁ : List LRow} {T₂ : List PyData} {L₀ : Nat} {dvF : List LRow → Option Value → Prop} {μ : Nat} {dv : Option Value} {nw : List (Addr × Obj)}
    (h : EndJ k n d od fl w' bs toldD rest T₁ T₂ L₀ dvF μ dv nw)
    (K : ∀ rows' w₁ nw₁ fvs nf fresh f ds o₁, μ = rows'.length → dvF rows' dv → od w₁ o₁ → nw = (d, o₁) :: (fl, listOf fvs.toArray nf) :: (w₁, listOf (refsOf rows').toArray nw₁) :: (fresh ++ rest) → EndS k n d fl w' bs toldD rest T₁ T₂ L₀ rows' w₁ fvs fresh f ds → C) : C := by
  obtain ⟨rows', w₁, nw₁, fvs, nf, fresh, f, ds, o₁, h0, h1, h2, h3, S⟩ := h
  exact K rows' w₁ nw₁ fvs nf fresh f ds o₁ h0 h1 h2 h3 S
theorem EndJ.intro {k : Bool} {n : Int} {d : Addr} {od : Addr → Obj → Prop} {fl w' : Addr} {bs : List (Addr × Obj)} {toldD : PyData} {rest : List (Addr × Obj)} {T₁ : List LRow} {T₂ : List PyData} {L₀ : Nat} {dvF : List LRow → Option Value → Prop} {dv : Option Value} {rows' : List LRow} {w₁ : Addr} {nw₁ nf f : Nat} {fvs : List Value} {fresh : List (Addr × Obj)} {ds : List PyData} {o₁ : Obj}
    (h1 : dvF rows' dv) (h2 : od w₁ o₁) (S : EndS k n d fl w' bs toldD rest T₁ T₂ L₀ rows' w₁ fvs fresh f ds) : EndJ k n d od fl w' bs toldD rest T₁ T₂ L₀ dvF rows'.length dv ((d, o₁) :: (fl, listOf fvs.toArray nf) :: (w₁, listOf (refsOf rows').toArray nw₁) :: (fresh ++ rest)) := ⟨rows', w₁, nw₁, fvs, nf, fresh, f, ds, o₁, rfl, h1, h2, rfl, S⟩
theorem EndS.start {k : Bool} {n : Int} {fl d w' : Nat} {ow : Obj} {bs : List (Addr × Obj)} {toldD : PyData} {rest : List (Addr × Obj)} {rows : List LRow} {fvs : List Value} {ds : List PyData}
    (hdf : @Ne Nat d fl) (off : OwnOff rest [d, fl]) (hw : (w', ow) ∈ rest) (hr : RowsIn rows rest) (hb : BearsL bs fvs ds) :
    EndS k n d fl w' bs toldD rest (endRec k n rows.length rows).1 (ds ++ foundD toldD (endRec k n rows.length rows).2) (fvs.length + rows.length) rows w' fvs [] rows.length ds :=
  ⟨Nat.le_refl _, rfl, rfl, hr, Nat.le_refl _, by rw [List.append_nil]; exact hb, (fun p hp => (nomatch hp)), .inl rfl, off _ hw _ (.tail _ (.head _)), off _ hw _ (.head _), hdf, off⟩
theorem EndS.start0 {k : Bool} {n : Int} {fl d w' : Nat} {ow : Obj} {bs : List (Addr × Obj)} {toldD : PyData} {rest : List (Addr × Obj)} {rows : List LRow}
    (hdf : @Ne Nat d fl) (off : OwnOff rest [d, fl]) (hw : (w', ow) ∈ rest) (hr : RowsIn rows rest) :
    EndS k n d fl w' bs toldD rest (endRec k n rows.length rows).1 (foundD toldD (endRec k n rows.length rows).2) rows.length rows w' [] [] rows.length [] :=
  ⟨Nat.le_refl _, rfl, rfl, hr, Nat.le_of_eq (Nat.zero_add _), bearsL_nil, (fun p hp => (nomatch hp)), .inl rfl, off _ hw _ (.tail _ (.head _)), off _ hw _ (.head _), hdf, off⟩
theorem EndS.start1 {k : Bool} {n : Int} {fl d w' : Nat} {ow : Obj} {bs : List (Addr × Obj)} {v : Value} {toldD dd : PyData} {rest : List (Addr × Obj)} {rows : List LRow} (_h : Bears bs v dd)
    (hdf : @Ne Nat d fl) (off : OwnOff rest [d, fl]) (hw : (w', ow) ∈ rest) (hr : RowsIn rows rest) :
    EndS k n d fl w' bs toldD rest (endRec k n rows.length rows).1 (foundD toldD (endRec k n rows.length rows).2) rows.length rows w' [] [] rows.length [] := EndS.start0 hdf off hw hr
theorem end_start {h₀ h : Heap} {L : Addr} {D fl d w' : Nat} {o₁ tup : Obj} {rest : List (Addr × Obj)} {rows : List LRow} {nw nf : Nat}
    (kN : News h₀ L h ((D, tup) :: (fl, listOf #[] nf) :: (d, o₁) :: rest)) (hl : d < fl ∧ AllLt fl rest) (off : OwnOff rest [d]) (hw : (w', listOf (refsOf rows).toArray nw) ∈ rest) :
    OwnOff rest [d, fl] ∧ @Ne Nat d fl ∧ News h₀ L h ((d, o₁) :: (fl, listOf ([] : List Value).toArray nf) :: (w', listOf (refsOf rows).toArray nw) :: ([] ++ rest)) := by
  refine ⟨?_, Nat.ne_of_lt hl.1, fun p hp => ?_⟩
  · intro p hp b hb
    simp only [List.mem_cons, List.not_mem_nil, or_false] at hb
    rcases hb with rfl | rfl
    · exact off p hp _ (.head _)
    · exact Nat.ne_of_lt (AllLt.mem hl.2 p hp)
  · simp only [List.mem_cons, List.nil_append] at hp
    rcases hp with h | h | h | h
    · exact kN p (h ▸ .tail _ (.tail _ (.head _)))
    · exact kN p (h ▸ .tail _ (.head _))
    · exact kN p (h ▸ .tail _ (.tail _ (.tail _ hw)))
    · exact kN p (.tail _ (.tail _ (.tail _ h)))
theorem EndS.next {k : Bool} {n : Int} {d fl w' td : Addr} {bs : List (Addr × Obj)} {toldD : PyData} {rest : List (Addr × Obj)} {T₁ : List LRow} {T₂ : List PyData} {L₀ : Nat} {rows' : List LRow} {w₁ : Addr} {fvs : List Value} {fresh : List (Addr × Obj)} {f : Nat} {ds : List PyData} {t : LRow} {D w9 : Nat} {t1 t5 : Tok} {e : Nat}
    (S : EndS k n d fl w' bs toldD rest T₁ T₂ L₀ rows' w₁ fvs fresh f ds) (hf : rows'.find? (fun l => hits k n l.r) = some t) (hT : Bears bs (.ref td) toldD)
    (hD : @LT.lt Nat _ d D ∧ @LT.lt Nat _ fl D ∧ AllLt D (fresh ++ rest)) (h9 : @Ne Nat D w9 ∧ @Ne Nat d w9 ∧ @Ne Nat fl w9 ∧ LCg.Off1 w9 (fresh ++ rest)) :
    EndS k n d fl w' bs toldD rest T₁ T₂ L₀ (rows'.filter fun l => l.r.g != t.r.g) w9 (fvs ++ [.ref D]) ((D, tupN [.int t.r.g t1, .int t.r.c t5, .ref td] e) :: fresh) (f - 1) (ds ++ [.tuple [.int t.r.g, .int t.r.c, toldD]]) := by
  have hl := filter_less hf
  have hf1 : f = (f - 1) + 1 := by have := S.fuel; omega
  have e1 := S.two
  have e2 := S.one
  rw [hf1, endRec_some hf] at e1 e2
  refine ⟨by have := S.fuel; omega, by simpa [foundD] using e1, e2, fun l hl => S.rin l (List.mem_filter.mp hl).1, ?_, ?_, ?_, ?_, ?_, ?_, S.dfl, S.offr⟩
  · have := S.len
    simp only [List.length_append, List.length_cons, List.length_nil]
    omega
  · have b1 : BearsL (bs ++ (D, tupN [.int t.r.g t1, .int t.r.c t5, .ref td] e) :: fresh) fvs ds := S.bears.mono fun p hp => by
      rcases List.mem_append.mp hp with hp | hp
      · exact List.mem_append_left _ hp
      · exact List.mem_append_right _ (.tail _ hp)
    refine b1.snoc fun h₀ L h N => ?_
    obtain ⟨as, r⟩ := hT h₀ L h (News.sub N fun p hp => List.mem_append_left _ hp)
    exact ⟨_, Reads.tuple (N _ (List.mem_append_right _ (.head _))).1 rfl rfl (.cons (.int _ _) (.cons (.int _ _) (.cons r .nil)))⟩
  · intro p hp b hb
    rcases List.mem_cons.mp hp with rfl | hp
    · simp only [List.mem_cons, List.mem_map] at hb
      rcases hb with rfl | rfl | rfl | ⟨q, hq, rfl⟩
      · exact h9.1
      · exact Nat.ne_of_gt hD.2.1
      · exact Nat.ne_of_gt hD.1
      · exact Nat.ne_of_gt (AllLt.mem hD.2.2 q (List.mem_append_right _ hq))
    · rcases List.mem_cons.mp hb with rfl | hb
      · exact off1_mem h9.2.2.2 p (List.mem_append_left _ hp)
      · exact S.off p hp b (.tail _ hb)
  · refine .inr fun hm => ?_
    simp only [List.mem_cons, List.mem_map] at hm
    rcases hm with h | ⟨q, hq, h⟩
    · exact h9.2.1 h.symm
    · exact off1_mem h9.2.2.2 q (List.mem_append_right _ hq) h
  · exact Ne.symm h9.2.2.1
  · exact Ne.symm h9.2.1
theorem end_turnN {h₀ h : Heap} {L : Addr} {fresh rest : List (Addr × Obj)} {p1 p2 p3 p4 p5 : Addr × Obj} (kN : News h₀ L h (p1 :: p2 :: p3 :: p4 :: p5 :: (fresh ++ rest))) : News h₀ L h (p3 :: p4 :: p1 :: ((p2 :: fresh) ++ rest)) := fun p hp => kN p (by
  simp only [List.mem_cons, List.mem_append] at hp ⊢
  rcases hp with h | h | h | (h | h) | h <;> simp [h])
theorem map_back {x : Str} {m : Str → Option Value} {u u' v : Option Value} : (fun y => if y = x then v else if y = x then u else m y) = fun y => if y = x then v else (fun y => if y = x then u' else m y) y := by
  funext y; by_cases h : y = x <;> simp [h]
theorem fill_P14 : Challenge.rw_xm0171_01 = Challenge.rw_xm0171_01 ∧ Mine.hd.heap_39 = Mine.hd.heap_39 := by
  k_fill
  w_top off
  k_with "exec While Compare cons nil" => (refine Stop.intro ?_)
  exact ⟨rfl, rfl⟩
set_option maxRecDepth 100000 in
set_option maxHeartbeats 8000000 in
theorem ended_rule {prog : Program} {w : World} {p : Program} {loose : List Str} {mean : ExcName → Option Value} {mg mb : Str → Option Value}
  {dp un : Nat} {gd : Option (List Code)} {cn : Str} {cs : Scope} {a : Addr} {ccd : Value} {cl : List (Str × Addr)} {outer : List Env} {A₀ : Around} {base h₀ : Heap} {L : Addr} {m : Str → Option Value} {s : Shared} {Q E : Value → Shared → Prop}
  {rest : List (Addr × Obj)}
  {x dx w' chl td : Addr} {ct : ChTok} {nw : Nat} {tobj : Obj} {toldD : PyData} {rows : List LRow} {k : Bool} {n : Int} {tk tn : Tok}
  (B : Below A₀ base outer h₀) (F : Fr h₀ L s.heap m) (X : (Mine.hd.heap_39 w.params).In h₀) (T : Top p loose mean mg mb h₀) (hk : cs.kind = .function) (hdp : dp + 20 < recursionLimit) (hun : un + 160 < cLine) (N : News h₀ L s.heap ((dx, chDict ct chl w') :: rest)) (off : OwnOff rest [dx])
  (hx : (x, instObj 155 dx) ∈ rest) (hw : (w', listOf (refsOf rows).toArray nw) ∈ rest) (hr : RowsIn rows rest) (hlr : rows.length ≤ 1000)
  (htd : (td, tobj) ∈ rest) (hT : Bears [(td, tobj)] (.ref td) toldD)
  (hret : ∀ fl nf fvs w₂ nw₂ fresh f h' tk', EndS k n dx fl w' [(td, tobj)] toldD rest (endRec k n rows.length rows).1 (foundD toldD (endRec k n rows.length rows).2) rows.length (endRec k n rows.length rows).1 w₂ fvs fresh f (foundD toldD (endRec k n rows.length rows).2) → Fr h₀ L h' m →
    News h₀ L h' ((dx, chDict ct chl w₂) :: (fl, listOf fvs.toArray nf) :: (w₂, listOf (refsOf (endRec k n rows.length rows).1).toArray nw₂) :: (fresh ++ rest)) → Q (.ref fl) { s with heap := h', toks := tk' }) :
  wpAny (model prog w) (ktrTop dp un gd cn cs L a ccd cl outer) (call (.ref 145) [.ref x, .str (kStr k) tk, .int n tn, .ref td]) Q E s := by
  refine wpAny_call ?_
  k_dflt ktr_enter
  k_steps
  all_goals
    refine Stop.out ?_
    rename Fr _ _ _ _ => lF'
    rename News _ _ _ _ => lN'
    rename _ = (_ : Option LRow) => hf0
    obtain ⟨or0, ne0, N0⟩ := end_start lN' (by tb_rel) off hw
    have S0 := EndS.start0 (k := k) (n := n) (toldD := toldD) (bs := [(td, tobj)]) ne0 or0 hw hr
    k_dflt refine while_one (Str.ofString "deed") (EndJ k n dx (fun w o => o = chDict ct chl w) _ w' [(td, tobj)] toldD rest _ _ _ (fun r dv => dv = some (dvOf k n r))) lF' N0 (EndJ.intro (by show (_ : Option Value) = some (dvOf k n _); first | (rw [dvOf_none hf0]; rfl) | (rw [dvOf_some hf0]; rfl)) rfl S0) ?_
    clear lF' lN' N0 S0
    intro μ dv news₁ h₁ tk₁ F₁ N₁ hJ9
    refine EndJ.elim hJ9 ?_
    clear hJ9
    intro rows' w₁ nw₁ fvs nf fresh f ds o₁ e8 e7 e6 e9 S
    subst e8 e7 e6 e9
    have hrp : RowsIn rows' (fresh ++ rest) := S.rin.right
    have hxp : (x, instObj 155 dx) ∈ fresh ++ rest := List.mem_append_right _ hx
    have offp := OwnOff.app (OwnOff.sub (adr' := [dx, _]) S.off (by simp)) S.offr
    have hlr' : rows'.length ≤ 1000 := by have := S.len; omega
    have hfl' : fvs.length ≤ 1000 := by have := S.len; omega
    have n1 := S.wfl
    have n2 := S.wd
    have n3 := S.dfl
    have aux : ∃ pool, pool = fresh ++ rest := ⟨_, rfl⟩
    obtain ⟨pool, hpool⟩ := aux
    rw [← hpool] at N₁ hrp hxp offp
    cases hf : rows'.find? (fun l => hits k n l.r) with
    | none =>
      rw [dvOf_none hf] at F₁
      k_steps
      rename News h₀ L _ _ => kN
      rw [hpool] at kN
      have e1 := S.one
      have e2 := S.two
      rw [endRec_none hf] at e1 e2
      simp only [foundD, List.map_nil, List.append_nil] at e2
      subst e1
      subst e2
      exact hret _ _ _ _ _ _ _ _ _ S (by assumption) kN
    | some t =>
      rw [dvOf_some hf] at F₁
      have htm := List.mem_of_find?_eq_some hf
      k_steps
      all_goals
        subst hpool
        rename News _ _ _ _ => kN
        rename _ = (_ : Option LRow) => hf9
        rename (_ ≠ _ ∧ _ ≠ _ ∧ _ ≠ _ ∧ _ ≠ _ ∧ LCg.Off1 _ _) => h9
        rename (_ ∧ _ ∧ _ ∧ AllLt _ (fresh ++ rest)) => hD
        refine WhileStep.intro (by assumption) (end_turnN kN) (filter_less hf) ⟨_, map_back, EndJ.intro (f := f - 1) ?_ rfl (EndS.next S hf hT ⟨hD.1, hD.2.1, hD.2.2.2⟩ ⟨h9.1, h9.2.1, h9.2.2.1, h9.2.2.2.2⟩)⟩
        show (_ : Option Value) = some (dvOf k n _); first | rw [dvOf_none hf9] | rw [dvOf_some hf9]
theorem wnew_ne {w' w₂ a : Addr} {adr : List Addr} (h : WNew w' w₂ adr) (ha : a ∈ adr) (hn : a ≠ w') : a ≠ w₂ := by
  rcases h with rfl | h
  · exact hn
  · exact fun e => h (e ▸ ha)
def closeF (b : Bool) (rows : List LRow) (n : Int) : PyData × List LRow :=
  if b then (resD (panicD "close of closed channel") [], rows)
  else (.tuple [.tuple [strD "done"], .list (foundD (recvD .none false) (endRec false n rows.length rows).2 ++ foundD (panicD "send on closed channel") (endRec true n (endRec false n rows.length rows).1.length (endRec false n rows.length rows).1).2)],
    (endRec true n (endRec false n rows.length rows).1.length (endRec false n rows.length rows).1).1)
theorem readsAll_app {h : Heap} {vs ws : List Value} {ds es : List PyData} {as bs : List Addr} (x : ReadsAll h vs ds as) (y : ReadsAll h ws es bs) : ∃ cs, ReadsAll h (vs ++ ws) (ds ++ es) cs := by
  induction vs generalizing ds as with
  | nil => cases x; exact ⟨_, y⟩
  | cons v vs ih =>
    cases x with
    | cons r x => exact (ih x).elim fun _ z => ⟨_, .cons r z⟩
theorem perm3 {h₀ h : Heap} {L : Addr} {p1 p2 p3 : Addr × Obj} {l : List (Addr × Obj)} (N : News h₀ L h (p1 :: p2 :: p3 :: l)) : News h₀ L h (p3 :: p1 :: p2 :: l) := News.sub N (ix_subT [2, 0, 1] rfl rfl (ix_all 3 rfl))
theorem perm2 {h₀ h : Heap} {L : Addr} {p1 p2 : Addr × Obj} {l : List (Addr × Obj)} (N : News h₀ L h (p1 :: p2 :: l)) : News h₀ L h (p2 :: p1 :: l) := News.sub N (ix_subT [1, 0] rfl rfl (ix_all 2 rfl))
theorem ownoff_cons {a : Nat} {o : Obj} {l : List (Addr × Obj)} {b : Nat} (h1 : @Ne Nat a b) (h : OwnOff l [b]) : OwnOff ((a, o) :: l) [b] := fun p hp c hc => by
  rw [List.mem_singleton] at hc
  subst hc
  rcases List.mem_cons.mp hp with rfl | hp
  · exact h1
  · exact h p hp _ (.head _)
theorem wnew_trans {w' w₂ w₃ : Addr} {A B C : List Addr} (h1 : WNew w' w₂ A) (h2 : WNew w₂ w₃ B) (s1 : ∀ b ∈ C, b ∈ A) (s2 : ∀ b ∈ C, b ∈ B) : WNew w' w₃ C := by
  rcases h2 with rfl | h2
  · rcases h1 with rfl | h1
    · exact .inl rfl
    · exact .inr fun hm => h1 (s1 _ hm)
  · exact .inr fun hm => h2 (s2 _ hm)
theorem adr_sub {x : Addr} {c a : List (Addr × Obj)} (h : ∀ p ∈ c, p ∈ a) : ∀ b ∈ x :: c.map (·.1), b ∈ x :: a.map (·.1) := fun b hb => by
  rcases List.mem_cons.mp hb with rfl | hb
  · exact .head _
  · obtain ⟨p, hp, rfl⟩ := List.mem_map.mp hb
    exact .tail _ (List.mem_map.mpr ⟨p, h p hp, rfl⟩)
/-- the end of close_now: what is new, and what it bears -/
theorem close_pack {h₀ h : Heap} {L : Addr} {n : Int} {Dr Dcat Dt2 Dt Dd dx d fl fl2 w' w₂ w₃ : Nat} {ow od o3 oDt oDt2 ow2 ow3 ofl : Obj} {nf2 nl edd edr : Nat} {tdn : Tok} {told1 told2 : PyData} {rest fresh1 fresh2 : List (Addr × Obj)} {fvs1 fvs2 : List Value} {ds1 ds2 : List PyData}
    {T1 T1' r1 r1' : List LRow} {T2 T2' : List PyData} {L0 L0' f1 f2 : Nat}
    (hw : (w', ow) ∈ rest)
    (hDt : @LT.lt Nat _ dx Dt ∧ @LT.lt Nat _ d Dt ∧ AllLt Dt rest) (hDd : @LT.lt Nat _ dx Dd ∧ @LT.lt Nat _ d Dd ∧ AllLt Dd rest)
    (S1 : EndS false n dx fl w' [(Dt, oDt)] told1 ((Dt, oDt) :: (Dd, tupN [.str "done" tdn] edd) :: (d, od) :: rest) T1 T2 L0 r1 w₂ fvs1 fresh1 f1 ds1)
    (hDt2 : @LT.lt Nat _ dx Dt2 ∧ @LT.lt Nat _ w₂ Dt2 ∧ AllLt Dt2 (fresh1 ++ ((Dt, oDt) :: (Dd, tupN [.str "done" tdn] edd) :: (d, od) :: rest)))
    (S2 : EndS true n dx fl2 w₂ [(Dt2, oDt2)] told2 ((Dt2, oDt2) :: (fl, ofl) :: (w₂, ow2) :: (fresh1 ++ ((Dt, oDt) :: (Dd, tupN [.str "done" tdn] edd) :: (d, od) :: rest))) T1' T2' L0' r1' w₃ fvs2 fresh2 f2 ds2)
    (hDr : @LT.lt Nat _ dx Dr ∧ @LT.lt Nat _ w₃ Dr ∧ AllLt Dr (fresh2 ++ ((Dt2, oDt2) :: (fl, ofl) :: (w₂, ow2) :: (fresh1 ++ ((Dt, oDt) :: (Dd, tupN [.str "done" tdn] edd) :: (d, od) :: rest)))))
    (hDc : @LT.lt Nat _ dx Dcat ∧ @LT.lt Nat _ w₃ Dcat ∧ AllLt Dcat (fresh2 ++ ((Dt2, oDt2) :: (fl, ofl) :: (w₂, ow2) :: (fresh1 ++ ((Dt, oDt) :: (Dd, tupN [.str "done" tdn] edd) :: (d, od) :: rest)))))
    (kN : News h₀ L h ((Dr, tupN [.ref Dd, .ref Dcat] edr) :: (Dcat, listOf (fvs1 ++ fvs2).toArray nl) :: (dx, o3) :: (fl2, listOf fvs2.toArray nf2) :: (w₃, ow3) :: (fresh2 ++ ((Dt2, oDt2) :: (fl, ofl) :: (w₂, ow2) :: (fresh1 ++ ((Dt, oDt) :: (Dd, tupN [.str "done" tdn] edd) :: (d, od) :: rest)))))) :
    ∃ fresh, WNew w' w₃ (dx :: d :: rest.map (·.1)) ∧ OwnOff fresh (w₃ :: dx :: d :: rest.map (·.1)) ∧ News h₀ L h ((dx, o3) :: (d, od) :: (w₃, ow3) :: (fresh ++ rest)) ∧
      Bears fresh (.ref Dr) (.tuple [.tuple [strD "done"], .list (ds1 ++ ds2)]) := by
  have gt : ∀ {a : Nat} {l : List (Addr × Obj)}, AllLt a l → ∀ q ∈ l, a ≠ q.1 := fun h q hq => Nat.ne_of_gt (AllLt.mem h q hq)
  have mM : ∀ q ∈ (d, od) :: rest, q ∈ (Dt, oDt) :: (Dd, tupN [.str "done" tdn] edd) :: (d, od) :: rest := ix_all 2 rfl
  have mM2 : ∀ q ∈ (d, od) :: rest, q ∈ (Dt2, oDt2) :: (fl, ofl) :: (w₂, ow2) :: (fresh1 ++ ((Dt, oDt) :: (Dd, tupN [.str "done" tdn] edd) :: (d, od) :: rest)) := sub_D 3 rfl (sub_R mM)
  have ad1 : ∀ {p : Addr × Obj} {l : List (Addr × Obj)}, p ∈ l → p.1 ∈ dx :: l.map (·.1) := fun hp => .tail _ (List.mem_map.mpr ⟨_, hp, rfl⟩)
  have nb : ∀ {a : Addr}, a ≠ w₃ → a ≠ dx → (∀ q ∈ (d, od) :: rest, a ≠ q.1) → ∀ b ∈ w₃ :: dx :: d :: rest.map (·.1), a ≠ b := fun h1 h2 h3 => nb_con h1 (nb_con h2 (nb_map (l := (d, od) :: rest) h3))
  refine ⟨(Dr, tupN [.ref Dd, .ref Dcat] edr) :: (Dcat, listOf (fvs1 ++ fvs2).toArray nl) :: (fl2, listOf fvs2.toArray nf2) :: (fresh2 ++ ((Dt2, oDt2) :: (fl, ofl) :: (fresh1 ++ [(Dt, oDt), (Dd, tupN [.str "done" tdn] edd)]))), ?_, ?_, ?_, ?_⟩
  · exact wnew_trans S1.wnew S2.wnew (adr_sub mM) (adr_sub mM2)
  · refine off_con (nb (Nat.ne_of_gt hDr.2.1) (Nat.ne_of_gt hDr.1) fun q hq => gt hDr.2.2 q (sub_R mM2 q hq)) (off_con (nb (Nat.ne_of_gt hDc.2.1) (Nat.ne_of_gt hDc.1) fun q hq => gt hDc.2.2 q (sub_R mM2 q hq))
      (off_con (nb (Ne.symm S2.wfl) (Ne.symm S2.dfl) fun q hq => Ne.symm (S2.offr q (mM2 q hq) fl2 (.tail _ (.head _)))) (off_app (fun p hp => nb (S2.off p hp _ (.head _)) (S2.off p hp _ (.tail _ (.tail _ (.head _)))) fun q hq => S2.off p hp _ (.tail _ (.tail _ (ad1 (mM2 q hq)))))
      (off_con (nb (wnew_ne S2.wnew (ad1 (p := (Dt2, oDt2)) (.head _)) (Nat.ne_of_gt hDt2.2.1)) (Nat.ne_of_gt hDt2.1) fun q hq => gt hDt2.2.2 q (sub_R mM q hq))
      (off_con (nb (wnew_ne S2.wnew (ad1 (p := (fl, ofl)) (.tail _ (.head _))) (Ne.symm S1.wfl)) (Ne.symm S1.dfl) fun q hq => Ne.symm (S1.offr q (mM q hq) fl (.tail _ (.head _))))
      (off_app (fun p hp => nb (wnew_ne S2.wnew (ad1 (.tail _ (.tail _ (.tail _ (List.mem_append_left _ hp))))) (S1.off p hp _ (.head _))) (S1.off p hp _ (.tail _ (.tail _ (.head _)))) fun q hq => S1.off p hp _ (.tail _ (.tail _ (ad1 (mM q hq))))) ?_))))))
    have nw3 : ∀ {p}, p ∈ (Dt, oDt) :: (Dd, tupN [.str "done" tdn] edd) :: (d, od) :: rest → p.1 ≠ w' → p.1 ≠ w₃ := fun hp hn => wnew_ne S2.wnew (ad1 (List.Mem.tail _ (.tail _ (.tail _ (List.mem_append_right _ hp))))) (wnew_ne S1.wnew (ad1 hp) hn)
    exact off_con (nb (nw3 (p := (Dt, oDt)) (.head _) (gt hDt.2.2 _ hw)) (Nat.ne_of_gt hDt.1) (gt (l := (d, od) :: rest) hDt.2)) (off_con (nb (nw3 (p := (Dd, tupN [.str "done" tdn] edd)) (.tail _ (.head _)) (gt hDd.2.2 _ hw)) (Nat.ne_of_gt hDd.1) (gt (l := (d, od) :: rest) hDd.2)) off_nil)
  · have mK : ∀ q ∈ (d, od) :: rest, q ∈ (Dr, tupN [.ref Dd, .ref Dcat] edr) :: (Dcat, listOf (fvs1 ++ fvs2).toArray nl) :: (dx, o3) :: (fl2, listOf fvs2.toArray nf2) :: (w₃, ow3) :: (fresh2 ++ ((Dt2, oDt2) :: (fl, ofl) :: (w₂, ow2) :: (fresh1 ++ ((Dt, oDt) :: (Dd, tupN [.str "done" tdn] edd) :: (d, od) :: rest)))) := sub_D 5 rfl (sub_R mM2)
    exact News.sub kN (sub_cons (ix_mem 2 rfl) (sub_cons (mK _ (.head _)) (sub_cons (ix_mem 4 rfl) (sub_app (sub_cons (.head _) (sub_cons (ix_mem 1 rfl) (sub_cons (ix_mem 3 rfl) (sub_app (sub_D 5 rfl (sub_L sub_rfl)) (sub_D 5 rfl (sub_R (sub_cons (.head _) (sub_cons (ix_mem 1 rfl) (sub_D 3 rfl (sub_app (sub_L sub_rfl) (sub_R (ix_sub [0, 1] rfl)))))))))))) fun p hp => mK p (.tail _ hp)))))
  · intro h₁ L₁ hh N
    obtain ⟨_, b1⟩ := S1.bears h₁ L₁ hh (News.sub N (sub_D 3 rfl (sub_R (sub_D 2 rfl (sub_cons (List.mem_append_right _ (.head _)) (sub_L sub_rfl))))))
    obtain ⟨_, b2⟩ := S2.bears h₁ L₁ hh (News.sub N (sub_D 3 rfl (sub_cons (List.mem_append_right _ (.head _)) (sub_L sub_rfl))))
    obtain ⟨_, b3⟩ := readsAll_app b1 b2
    exact ⟨_, Reads.tuple (N _ (.head _)).1 rfl rfl (.cons (Reads.tuple (N (Dd, tupN [.str "done" tdn] edd) (List.Mem.tail _ (.tail _ (.tail _ (List.mem_append_right _ (.tail _ (.tail _ (List.mem_append_right _ (.tail _ (.head _)))))))))).1 rfl rfl (.cons (.str _ _) .nil)) (.cons (Reads.list (N (Dcat, listOf (fvs1 ++ fvs2).toArray nl) (.tail _ (.head _))).1 rfl rfl b3) .nil))⟩
theorem my_cat {prog : Program} {w : World} {A : Around} {E : Value → Shared → Prop} {s : Shared} {h₀ : Heap} {L a b : Addr} {m : Str → Option Value} {news : List (Addr × Obj)} {vs ws : List Value} {na nb : Nat} {Q : Value → Shared → Prop} (F : Fr h₀ L s.heap m) (N : News h₀ L s.heap news)
    (ha : (a, listOf vs.toArray na) ∈ news) (hb : (b, listOf ws.toArray nb) ∈ news) (hz : vs.length + ws.length ≤ 2000)
    (h : ∀ D h', Fr h₀ L h' m → News h₀ L h' ((D, listOf (vs ++ ws).toArray 0) :: news) → (∀ p ∈ news, p.1 < D) → Q (.ref D) { s with heap := h' }) : wpAny (model prog w) A (binaryOp .Add (.ref a) (.ref b)) Q E s :=
  kmk_add_lit F N (News.isList N ha) (News.isList N hb) (by simp) h (by simp only [sizeLine_eq]; omega)
theorem endRec_len {k : Bool} {n : Int} : ∀ (f : Nat) (rows : List LRow), (endRec k n f rows).1.length + (endRec k n f rows).2.length ≤ rows.length
  | 0, rows => by simp [endRec]
  | f + 1, rows => by
    cases hf : rows.find? (fun l => hits k n l.r) with
    | none => rw [endRec_none hf]; simp
    | some t =>
      rw [endRec_some hf]
      have := endRec_len f (rows.filter fun l => l.r.g != t.r.g) (k := k) (n := n)
      have h2 := filter_less hf
      simp only [List.length_cons]
      omega
theorem endRec_mem {k : Bool} {n : Int} : ∀ (f : Nat) (rows : List LRow), ∀ l ∈ (endRec k n f rows).1, l ∈ rows
  | 0, rows, l, h => by simpa [endRec] using h
  | f + 1, rows, l, h => by
    cases hf : rows.find? (fun l => hits k n l.r) with
    | none => rw [endRec_none hf] at h; exact h
    | some t => rw [endRec_some hf] at h; exact (List.mem_filter.mp (endRec_mem f _ l h)).1
theorem pool_of {h₀ h : Heap} {L : Addr} {a b c p q r e : Addr × Obj} {fresh rest : List (Addr × Obj)} (_N : News h₀ L h (a :: b :: c :: (fresh ++ (p :: q :: r :: rest)))) (hx : e ∈ rest) : e ∈ fresh ++ (p :: q :: r :: rest) :=
  List.mem_append_right _ (.tail _ (.tail _ (.tail _ hx)))
theorem pool_of2 {h₀ h : Heap} {L : Addr} {a b c q1 q2 q3 e : Addr × Obj} {fresh pool : List (Addr × Obj)} (_N : News h₀ L h (a :: b :: c :: (fresh ++ (q1 :: q2 :: q3 :: pool)))) (hx : e ∈ pool ∨ e = q2) : e ∈ fresh ++ (q1 :: q2 :: q3 :: pool) :=
  List.mem_append_right _ (by rcases hx with h | rfl; exact .tail _ (.tail _ (.tail _ h)); exact .tail _ (.head _))
theorem fill_P15 : Challenge.rw_xm0171_01 = Challenge.rw_xm0171_01 ∧ Mine.hd.heap_39 = Mine.hd.heap_39 := by
  k_fill
  w_top off
  k_with "call ref" => (((with_reducible show wpAny _ _ (call (Value.ref 145) _) _ _ _); refine Stop.intro ?_))
  k_with "binaryOp Add ref ref" => ((k_here; k_dflt (refine' my_cat ?F ?N ?a ?b ?z ?_; (case F => k_asm); (case N => k_asm); (case a => k_mem); (case b => k_mem); (case z => omega)); intro Dz9 hz9 Fz9 Nz9 l1z9; (try k_lt l1z9); (try k_sweep)))
  exact ⟨rfl, rfl⟩
set_option maxRecDepth 100000 in
set_option maxHeartbeats 8000000 in
theorem close_rule {prog : Program} {w : World} {p : Program} {loose : List Str} {mean : ExcName → Option Value} {mg mb : Str → Option Value}
  {dp un : Nat} {gd : Option (List Code)} {cn : Str} {cs : Scope} {a : Addr} {ccd : Value} {cl : List (Str × Addr)} {outer : List Env} {A₀ : Around} {base h₀ : Heap} {L : Addr} {m : Str → Option Value} {s : Shared} {Q E : Value → Shared → Prop}
  {rest : List (Addr × Obj)}
  {x dx w' chl c d : Addr} {l : Addr} {ct : ChTok} {ot : OneTok} {room : Int} {tr : Tok} {b : Bool} {vc : List Value} {nc nw : Nat} {rows : List LRow} {n : Int} {tn : Tok}
  (B : Below A₀ base outer h₀) (F : Fr h₀ L s.heap m) (X : (Mine.hd.heap_39 w.params).In h₀) (T : Top p loose mean mg mb h₀) (hk : cs.kind = .function) (hdp : dp + 30 < recursionLimit) (hun : un + 460 < cLine) (N : News h₀ L s.heap ((dx, chDict ct chl w') :: (d, oneDict ot room tr l b) :: rest)) (off : OwnOff rest [dx, d]) (hne : @Ne Nat dx d)
  (hx : (x, instObj 155 dx) ∈ rest) (hchl : (chl, listOf vc.toArray nc) ∈ rest)
  (hw : (w', listOf (refsOf rows).toArray nw) ∈ rest) (hr : RowsIn rows rest) (hlr : rows.length ≤ 400)
  (n0 : 0 ≤ n) (n1 : n < 2 ^ 63) (hcn : vc[n.toNat]? = some (.ref c)) (hc : (c, instObj 38 d) ∈ rest)
  (hret : ∀ r w₂ nw₂ fresh h' tk', WNew w' w₂ (dx :: d :: rest.map (·.1)) → OwnOff fresh (w₂ :: dx :: d :: rest.map (·.1)) → Fr h₀ L h' m →
    News h₀ L h' ((dx, chDict ct chl w₂) :: (d, oneDict ot room tr l true) :: (w₂, listOf (refsOf (closeF b rows n).2).toArray nw₂) :: (fresh ++ rest)) → Bears fresh r (closeF b rows n).1 → Q r { s with heap := h', toks := tk' }) :
  wpAny (model prog w) (ktrTop dp un gd cn cs L a ccd cl outer) (call (.ref 138) [.ref x, .int n tn]) Q E s := by
  refine wpAny_call ?_
  k_dflt ktr_enter
  k_steps
  · rename News h₀ L _ _ => kN
    have hb : b = true := by assumption
    subst hb
    obtain ⟨oo, NN⟩ := end_old (fresh := [_, _, _]) kN hw (by tb_start)
    exact hret _ _ _ _ _ _ (.inl rfl) oo (by assumption) NN (fun _ _ _ N9 => ⟨_, by ked_read⟩)
  · refine Stop.out ?_
    rename News _ _ _ _ => lN'
    have hb : b = false := by assumption
    subst hb
    k_dflt (refine' ended_rule (k := false) (rest := _ :: _ :: _ :: rest) (toldD := recvD .none false) (rows := rows) ?B ?F ?X ?T ?hk ?hdp ?hun (perm3 lN') ?off ?hx ?hw ?hr ?hlr ?htd ?hT ?_)
    case B => k_asm
    case F => k_asm
    case X => k_asm
    case T => k_asm
    case hk => exact rfl
    case hdp => ktr_room
    case hun => ktr_units
    case htd => exact .head _
    case off => exact ownoff_cons (by omega) (ownoff_cons (by omega) (ownoff_cons (by omega) (OwnOff.sub off (by simp))))
    case hx => k_mem
    case hw => exact .tail _ (.tail _ (.tail _ hw))
    case hr => exact hr.cons.cons.cons
    case hlr => omega
    case hT => exact fun _ _ _ N9 => ⟨_, by ked_read⟩
    intro fl nf fvs w₂ nw₂ fresh f h9 tk9 S1 F9 N9
    rename (_ ∧ _ ∧ AllLt _ rest) => hDd
    rename (_ ∧ _ ∧ _ ∧ AllLt _ rest) => hDt
    have hxp := pool_of N9 hx
    have hrl := S1.rin
    have hl1 := S1.len
    have n1' := S1.wd
    have n2' := S1.dfl
    have n3' := S1.wfl
    have n4' := endRec_len (k := false) (n := n) rows.length rows
    have offp := OwnOff.app (OwnOff.sub (adr' := [dx]) S1.off (by simp)) (OwnOff.sub (adr' := [dx]) S1.offr (by simp))
    generalize hpool : fresh ++ (_ :: _ :: _ :: rest) = pool at N9 hxp offp
    k_steps
    refine Stop.out ?_
    rename News _ _ _ (_ :: _ :: _ :: _ :: pool) => lN2
    rename (_ ∧ _ ∧ _ ∧ AllLt _ pool) => hDt2
    k_dflt (refine' ended_rule (k := true) (rest := _ :: _ :: _ :: pool) (toldD := panicD "send on closed channel") (rows := (endRec false n rows.length rows).1) ?B ?F ?X ?T ?hk ?hdp ?hun (perm2 lN2) ?off ?hx ?hw ?hr ?hlr ?htd ?hT ?_)
    case B => k_asm
    case F => k_asm
    case X => k_asm
    case T => k_asm
    case hk => exact rfl
    case hdp => ktr_room
    case hun => ktr_units
    case htd => exact .head _
    case off => exact ownoff_cons (by omega) (ownoff_cons (by omega) (ownoff_cons (by omega) offp))
    case hx => exact .tail _ (.tail _ (.tail _ hxp))
    case hw => exact .tail _ (.tail _ (.head _))
    case hr => exact RowsIn.cons (RowsIn.cons (RowsIn.cons (hpool ▸ hrl.right)))
    case hlr => omega
    case hT => exact fun _ _ _ N9 => ⟨_, by ked_read⟩
    intro fl2 nf2 fvs2 w₃ nw₃ fresh2 f2 h8 tk8 S2 F8 N8
    have hl2 := S2.len
    have hflp := pool_of2 N8 (.inr rfl)
    generalize hpool2 : fresh2 ++ (_ :: _ :: _ :: pool) = pool2 at N8 hflp
    k_steps
    rename (_ ∧ _ ∧ _ ∧ _ ∧ AllLt _ pool2) => hDr
    rename (_ ∧ _ ∧ _ ∧ AllLt _ pool2) => hDc
    rename News h₀ L _ _ => kN
    subst hpool2
    subst hpool
    obtain ⟨fr, e1, e2, e3, e4⟩ := close_pack hw ⟨hDt.2.1, hDt.2.2.1, hDt.2.2.2⟩ hDd S1 ⟨hDt2.1, hDt2.2.2.1, hDt2.2.2.2⟩ S2 ⟨hDr.2.1, hDr.2.2.2.1, hDr.2.2.2.2⟩ ⟨hDc.1, hDc.2.2.1, hDc.2.2.2⟩ kN
    exact hret _ _ _ _ _ _ e1 e2 (by assumption) e3 e4
theorem my_set {prog : Program} {w : World} {A : Around} {E : Value → Shared → Prop} {s : Shared} {h₀ : Heap} {L D : Addr} {m : Str → Option Value} {news news' : List (Addr × Obj)} {vs : List Value} {n : Nat} {k : Int} {t : Tok} {v v' : Value} {Q : Unit → Shared → Prop}
    (F : Fr h₀ L s.heap m) (N : News h₀ L s.heap news) (U : Upd D (listOf vs.toArray n) (listOf (vs.set k.toNat v).toArray n) news news') (h0 : 0 ≤ k) (hfit : k < 2 ^ 63) (hx : vs[k.toNat]? = some v')
    (h : ∀ h', Fr h₀ L h' m → News h₀ L h' news' → Q () { s with heap := h' }) :
    wpAny (model prog w) A (setItem (.ref D) (.int k t) v) Q E s := by
  obtain ⟨pre, post, rfl, rfl, a, b⟩ := U.split
  have z := N (D, listOf vs.toArray n) (List.mem_append.mpr (.inr (.head _)))
  have hj : k.toNat < vs.length := (List.getElem?_eq_some_iff.mp hx).1
  refine ki_setAt z.1 h0 hfit (by rw [List.size_toArray]; omega) (h _ (F.change (Heap.SameBut.update ..) z.2.1 z.2.2) (ki_turn _ N a b ?_ ?_))
  · show vs.toArray.setIfInBounds k.toNat v = (vs.set k.toNat v).toArray
    apply Array.toList_inj.mp
    simp
  · simp
theorem unrEndW_one {h₀ h' : Heap} {L : Addr} {i : Nat} {o1 : Obj} {b c : List (Addr × Obj)} {rest : (Str → Option Value) → List (Addr × Obj) → Prop} {s₁ : Shared} {tk : Nat} {m' : Str → Option Value} (F : Fr h₀ L h' m')
    (N : News h₀ L h' b) (hi : (i, o1) ∈ b) (hs : ∀ p ∈ c, p ∈ b) (off : ∀ p ∈ c, @Ne Nat p.1 i) (r : rest m' c) : UnrEndW h₀ L s₁ [(i, o1)] rest { s₁ with heap := h', toks := tk } := by
  refine ⟨h', tk, m', c, rfl, F, fun p hp => N p ?_, fun p hp q hq => ?_, r⟩
  · rcases List.mem_append.mp hp with h | h
    · rw [List.mem_singleton.mp h]; exact hi
    · exact hs p h
  · rw [List.mem_singleton.mp hq]
    exact off p hp
theorem ap_sub {α : Type} {xs a b c : List α} (h1 : ∀ p ∈ xs, p ∈ c) (h2 : ∀ p ∈ b, p ∈ c) : ∀ p ∈ xs ++ (a ++ b), p ∈ a ++ c := sub_app (sub_R h1) (sub_app (sub_L sub_rfl) (sub_R h2))
theorem sub_cons' {α : Type} {x : α} {c : List α} {P : α → Prop} (h : P x) (hs : ∀ p ∈ c, P p) : ∀ p ∈ x :: c, P p := fun p hp => by
  rcases List.mem_cons.mp hp with rfl | hp
  · exact h
  · exact hs p hp
theorem lc_start {h₀ h : Heap} {L : Addr} {I lst t2 d2 t1 d1 D fl bk bc w' : Nat} {oI olst o2 o1 oD ob obc ow : Obj} {nf e1 e2 : Nat} {ta tb tc : Tok} {rest : List (Addr × Obj)}
    (kN : News h₀ L h ((I, oI) :: (lst, olst) :: (t2, o2) :: (d2, tupN [.str "panic" ta, .str "send on closed channel" tb] e2) :: (t1, o1) :: (d1, tupN [.str "received" tc, .none, .bool false] e1) :: (D, oD) :: (fl, listOf #[] nf) :: (bk, ob) :: (bc, obc) :: rest)) (off : OwnOff rest [bk, bc]) (hne : @Ne Nat bk bc) (hw : (w', ow) ∈ rest)
    (hfl : bk < fl ∧ bc < fl ∧ AllLt fl rest) (hlt : fl < I ∧ fl < lst ∧ fl < t2 ∧ fl < d2 ∧ fl < t1 ∧ fl < d1) :
    OwnOff ((I, oI) :: (lst, olst) :: (t2, o2) :: (d2, tupN [.str "panic" ta, .str "send on closed channel" tb] e2) :: (t1, o1) :: (d1, tupN [.str "received" tc, .none, .bool false] e1) :: (bc, obc) :: rest) [bk, fl] ∧ @Ne Nat bk fl ∧
    Bears [(d1, tupN [.str "received" tc, .none, .bool false] e1)] (.ref d1) (recvD .none false) ∧ Bears [(d2, tupN [.str "panic" ta, .str "send on closed channel" tb] e2)] (.ref d2) (panicD "send on closed channel") ∧
    News h₀ L h ((bk, ob) :: (fl, listOf ([] : List Value).toArray nf) :: (w', ow) :: ([] ++ ((I, oI) :: (lst, olst) :: (t2, o2) :: (d2, tupN [.str "panic" ta, .str "send on closed channel" tb] e2) :: (t1, o1) :: (d1, tupN [.str "received" tc, .none, .bool false] e1) :: (bc, obc) :: rest))) := by
  have gt : ∀ {a : Nat}, fl < a → ∀ b ∈ [bk, fl], a ≠ b := fun h => nb_con (Nat.ne_of_gt (Nat.lt_trans hfl.1 h)) (nb_con (Nat.ne_of_gt h) nb_nil)
  refine ⟨off_con (gt hlt.1) (off_con (gt hlt.2.1) (off_con (gt hlt.2.2.1) (off_con (gt hlt.2.2.2.1) (off_con (gt hlt.2.2.2.2.1) (off_con (gt hlt.2.2.2.2.2) (off_con (nb_con (Ne.symm hne) (nb_con (Nat.ne_of_lt hfl.2.1) nb_nil)) fun p hp => nb_con (off p hp _ (.head _)) (nb_con (Nat.ne_of_lt (AllLt.mem hfl.2.2 p hp)) nb_nil))))))), Nat.ne_of_lt hfl.1,
    fun _ _ _ N => ⟨_, Reads.tuple (N _ (.head _)).1 rfl rfl (.cons (.str _ _) (.cons .none (.cons (.bool _) .nil)))⟩, fun _ _ _ N => ⟨_, Reads.tuple (N _ (.head _)).1 rfl rfl (.cons (.str _ _) (.cons (.str _ _) .nil))⟩,
    News.sub kN (sub_cons (ix_mem 8 rfl) (sub_cons (ix_mem 7 rfl) (sub_cons (ix_tl 10 rfl hw) (ix_subT [0, 1, 2, 3, 4, 5, 9] rfl rfl (ix_all 10 rfl)))))⟩
/-- the first loop has ended: the ledger for the second -/
theorem lc_mid {h₀ h : Heap} {L : Addr} {n : Int} {k : Bool} {toldD : PyData} {I lst t2 d2 t1 d1 fl bk bc w' w₁ : Nat} {oI olst o2 od2 o1 od1 o₁ obc ow ow1 : Obj} {nf : Nat} {rest fresh bs : List (Addr × Obj)} {T₁ r1 : List LRow} {T₂ ds : List PyData} {L₀ f : Nat} {fvs : List Value}
    (hw : (w', ow) ∈ rest) (hI : lst < I ∧ t2 < I ∧ d2 < I ∧ t1 < I ∧ d1 < I ∧ fl < I ∧ bk < I ∧ bc < I ∧ AllLt I rest)
    (S : EndS k n bk fl w' bs toldD ((I, oI) :: (lst, olst) :: (t2, o2) :: (d2, od2) :: (t1, o1) :: (d1, od1) :: (bc, obc) :: rest) T₁ T₂ L₀ r1 w₁ fvs fresh f ds)
    (kN : News h₀ L h ((bk, o₁) :: (fl, listOf fvs.toArray nf) :: (w₁, ow1) :: (fresh ++ ((I, oI) :: (lst, olst) :: (t2, o2) :: (d2, od2) :: (t1, o1) :: (d1, od1) :: (bc, obc) :: rest)))) :
    ∀ p ∈ (bk, o₁) :: (fl, listOf fvs.toArray nf) :: (w₁, ow1) :: (lst, olst) :: (t2, o2) :: (d2, od2) :: (t1, o1) :: (d1, od1) :: (bc, obc) :: (fresh ++ rest),
      p ∈ (bk, o₁) :: (fl, listOf fvs.toArray nf) :: (w₁, ow1) :: (fresh ++ ((I, oI) :: (lst, olst) :: (t2, o2) :: (d2, od2) :: (t1, o1) :: (d1, od1) :: (bc, obc) :: rest)) ∧ @Ne Nat p.1 I := by
  have a : ∀ p ∈ (bk, o₁) :: (fl, listOf fvs.toArray nf) :: (w₁, ow1) :: (lst, olst) :: (t2, o2) :: (d2, od2) :: (t1, o1) :: (d1, od1) :: (bc, obc) :: (fresh ++ rest),
      p ∈ (bk, o₁) :: (fl, listOf fvs.toArray nf) :: (w₁, ow1) :: (fresh ++ ((I, oI) :: (lst, olst) :: (t2, o2) :: (d2, od2) :: (t1, o1) :: (d1, od1) :: (bc, obc) :: rest)) :=
    ix_subT [0, 1, 2] rfl rfl (sub_D 3 rfl (ap_sub (xs := [(lst, olst), (t2, o2), (d2, od2), (t1, o1), (d1, od1), (bc, obc)]) (ix_sub [1, 2, 3, 4, 5, 6] rfl) (ix_all 7 rfl)))
  have b : OwnOff ((bk, o₁) :: (fl, listOf fvs.toArray nf) :: (w₁, ow1) :: (lst, olst) :: (t2, o2) :: (d2, od2) :: (t1, o1) :: (d1, od1) :: (bc, obc) :: (fresh ++ rest)) [I] :=
    off_con (nb_con (Nat.ne_of_lt hI.2.2.2.2.2.2.1) nb_nil) (off_con (nb_con (Nat.ne_of_lt hI.2.2.2.2.2.1) nb_nil) (off_con (nb_con (Ne.symm (wnew_ne (a := I) S.wnew (.tail _ (.head _)) (Nat.ne_of_gt (AllLt.mem hI.2.2.2.2.2.2.2.2 _ hw)))) nb_nil)
      (off_con (nb_con (Nat.ne_of_lt hI.1) nb_nil) (off_con (nb_con (Nat.ne_of_lt hI.2.1) nb_nil) (off_con (nb_con (Nat.ne_of_lt hI.2.2.1) nb_nil) (off_con (nb_con (Nat.ne_of_lt hI.2.2.2.1) nb_nil) (off_con (nb_con (Nat.ne_of_lt hI.2.2.2.2.1) nb_nil) (off_con (nb_con (Nat.ne_of_lt hI.2.2.2.2.2.2.2.1) nb_nil)
      (off_app (fun p hp => nb_con (S.off p hp I (.tail _ (.tail _ (.tail _ (.head _))))) nb_nil) fun p hp => nb_con (Nat.ne_of_lt (AllLt.mem hI.2.2.2.2.2.2.2.2 p hp)) nb_nil)))))))))
  exact fun p hp => ⟨a p hp, b p hp I (.head _)⟩
theorem bearsL_of {bs : List (Addr × Obj)} {v : Value} {d : PyData} (_h : Bears bs v d) : BearsL bs [] [] := bearsL_nil
theorem lc_start2 {h₀ h : Heap} {L : Addr} {n : Int} {k : Bool} {toldD : PyData} {I lst t2 d2 t1 d1 fl bk bc w' w₁ : Nat} {oI oI2 olst o2 od2 o1 od1 o₁ obc ow1 : Obj} {nf : Nat} {rest fresh : List (Addr × Obj)} {T₁ rows : List LRow} {T₂ ds : List PyData} {L₀ f f0 : Nat} {fvs : List Value} {told2D : PyData}
    (hr : RowsIn rows rest) (hT2 : Bears [(d2, od2)] (.ref d2) told2D)
    (S : EndS k n bk fl w' [(d1, od1)] toldD ((I, oI) :: (lst, olst) :: (t2, o2) :: (d2, od2) :: (t1, o1) :: (d1, od1) :: (bc, obc) :: rest) T₁ T₂ L₀ (endRec k n f0 rows).1 w₁ fvs fresh f ds)
    (kN : News h₀ L h ((I, oI2) :: (bk, o₁) :: (fl, listOf fvs.toArray nf) :: (w₁, ow1) :: (lst, olst) :: (t2, o2) :: (d2, od2) :: (t1, o1) :: (d1, od1) :: (bc, obc) :: (fresh ++ rest))) :
    (Bears ((d2, od2) :: ([(d1, od1)] ++ fresh)) (.ref d2) told2D ∧ BearsL ((d2, od2) :: ([(d1, od1)] ++ fresh)) fvs ds) ∧
    OwnOff ((I, oI2) :: (w₁, ow1) :: (lst, olst) :: (t2, o2) :: (d2, od2) :: (t1, o1) :: (d1, od1) :: (bc, obc) :: (fresh ++ rest)) [bk, fl] ∧
    RowsIn (endRec k n f0 rows).1 ((I, oI2) :: (w₁, ow1) :: (lst, olst) :: (t2, o2) :: (d2, od2) :: (t1, o1) :: (d1, od1) :: (bc, obc) :: (fresh ++ rest)) ∧
    News h₀ L h ((bk, o₁) :: (fl, listOf fvs.toArray nf) :: (w₁, ow1) :: ([] ++ ((I, oI2) :: (w₁, ow1) :: (lst, olst) :: (t2, o2) :: (d2, od2) :: (t1, o1) :: (d1, od1) :: (bc, obc) :: (fresh ++ rest)))) := by
  have r1 : OwnOff ((I, oI2) :: (lst, olst) :: (t2, o2) :: (d2, od2) :: (t1, o1) :: (d1, od1) :: (bc, obc) :: rest) [bk, fl] := off_con (S.offr (I, oI) (.head _)) fun p hp => S.offr p (.tail _ hp)
  refine ⟨⟨hT2.mono (sub_cons (.head _) sub_nil), S.bears.mono fun p hp => .tail _ hp⟩,
    off_con (r1 (I, oI2) (.head _)) (off_con (nb_con S.wd (nb_con S.wfl nb_nil)) (off_con (r1 (lst, olst) (ix_mem 1 rfl)) (off_con (r1 (t2, o2) (ix_mem 2 rfl)) (off_con (r1 (d2, od2) (ix_mem 3 rfl)) (off_con (r1 (t1, o1) (ix_mem 4 rfl)) (off_con (r1 (d1, od1) (ix_mem 5 rfl)) (off_con (r1 (bc, obc) (ix_mem 6 rfl))
      (off_app (fun p hp => nb_con (S.off p hp _ (.tail _ (.tail _ (.head _)))) (nb_con (S.off p hp _ (.tail _ (.head _))) nb_nil)) fun p hp => r1 p (ix_all 7 rfl p hp))))))))),
    fun l hl => ix_tl 8 rfl (List.mem_append_right _ (hr l (endRec_mem _ _ l hl))), News.sub kN (ix_subT [1, 2, 3] rfl rfl (ix_subT [0, 3, 4, 5, 6, 7, 8, 9] rfl rfl (ix_all 10 rfl)))⟩
theorem lc_mid2 {h₀ h : Heap} {L : Addr} {n : Int} {k k2 : Bool} {toldD told2D : PyData} {I lst t2 d2 t1 d1 fl bk bc w' w₁ w₃ : Nat} {oI oI2 olst o2 od2 o1 od1 o3 obc ow ow1 ow3 : Obj} {nf3 : Nat} {rest fresh fresh2 bs bs2 : List (Addr × Obj)} {T₁ r1 T1' r2 : List LRow} {T₂ ds T2' ds2 : List PyData} {L₀ L0' f f2 : Nat} {fvs fvs3 : List Value}
    (hw : (w', ow) ∈ rest) (hI : lst < I ∧ t2 < I ∧ d2 < I ∧ t1 < I ∧ d1 < I ∧ fl < I ∧ bk < I ∧ bc < I ∧ AllLt I rest)
    (S : EndS k n bk fl w' bs toldD ((I, oI) :: (lst, olst) :: (t2, o2) :: (d2, od2) :: (t1, o1) :: (d1, od1) :: (bc, obc) :: rest) T₁ T₂ L₀ r1 w₁ fvs fresh f ds)
    (S2 : EndS k2 n bk fl w₁ bs2 told2D ((I, oI2) :: (w₁, ow1) :: (lst, olst) :: (t2, o2) :: (d2, od2) :: (t1, o1) :: (d1, od1) :: (bc, obc) :: (fresh ++ rest)) T1' T2' L0' r2 w₃ fvs3 fresh2 f2 ds2)
    (kN : News h₀ L h ((bk, o3) :: (fl, listOf fvs3.toArray nf3) :: (w₃, ow3) :: (fresh2 ++ ((I, oI2) :: (w₁, ow1) :: (lst, olst) :: (t2, o2) :: (d2, od2) :: (t1, o1) :: (d1, od1) :: (bc, obc) :: (fresh ++ rest))))) :
    ∀ p ∈ (bk, o3) :: (fl, listOf fvs3.toArray nf3) :: (w₃, ow3) :: (lst, olst) :: (t2, o2) :: (d2, od2) :: (t1, o1) :: (d1, od1) :: (bc, obc) :: (fresh2 ++ (fresh ++ rest)),
      p ∈ (bk, o3) :: (fl, listOf fvs3.toArray nf3) :: (w₃, ow3) :: (fresh2 ++ ((I, oI2) :: (w₁, ow1) :: (lst, olst) :: (t2, o2) :: (d2, od2) :: (t1, o1) :: (d1, od1) :: (bc, obc) :: (fresh ++ rest))) ∧ @Ne Nat p.1 I := by
  have iw1 : I ≠ w₁ := wnew_ne (a := I) S.wnew (.tail _ (.head _)) (Nat.ne_of_gt (AllLt.mem hI.2.2.2.2.2.2.2.2 _ hw))
  have a : ∀ p ∈ (bk, o3) :: (fl, listOf fvs3.toArray nf3) :: (w₃, ow3) :: (lst, olst) :: (t2, o2) :: (d2, od2) :: (t1, o1) :: (d1, od1) :: (bc, obc) :: (fresh2 ++ (fresh ++ rest)),
      p ∈ (bk, o3) :: (fl, listOf fvs3.toArray nf3) :: (w₃, ow3) :: (fresh2 ++ ((I, oI2) :: (w₁, ow1) :: (lst, olst) :: (t2, o2) :: (d2, od2) :: (t1, o1) :: (d1, od1) :: (bc, obc) :: (fresh ++ rest))) :=
    ix_subT [0, 1, 2] rfl rfl (sub_D 3 rfl (ap_sub (xs := [(lst, olst), (t2, o2), (d2, od2), (t1, o1), (d1, od1), (bc, obc)]) (ix_sub [2, 3, 4, 5, 6, 7] rfl) (ix_all 8 rfl)))
  have b : OwnOff ((bk, o3) :: (fl, listOf fvs3.toArray nf3) :: (w₃, ow3) :: (lst, olst) :: (t2, o2) :: (d2, od2) :: (t1, o1) :: (d1, od1) :: (bc, obc) :: (fresh2 ++ (fresh ++ rest))) [I] :=
    off_con (nb_con (Nat.ne_of_lt hI.2.2.2.2.2.2.1) nb_nil) (off_con (nb_con (Nat.ne_of_lt hI.2.2.2.2.2.1) nb_nil) (off_con (nb_con (Ne.symm (wnew_ne (a := I) S2.wnew (.tail _ (.head _)) iw1)) nb_nil)
      (off_con (nb_con (Nat.ne_of_lt hI.1) nb_nil) (off_con (nb_con (Nat.ne_of_lt hI.2.1) nb_nil) (off_con (nb_con (Nat.ne_of_lt hI.2.2.1) nb_nil) (off_con (nb_con (Nat.ne_of_lt hI.2.2.2.1) nb_nil) (off_con (nb_con (Nat.ne_of_lt hI.2.2.2.2.1) nb_nil) (off_con (nb_con (Nat.ne_of_lt hI.2.2.2.2.2.2.2.1) nb_nil)
      (off_app (fun p hp => nb_con (S2.off p hp I (.tail _ (.tail _ (.tail _ (.head _))))) nb_nil) (off_app (fun p hp => nb_con (S.off p hp I (.tail _ (.tail _ (.tail _ (.head _))))) nb_nil) fun p hp => nb_con (Nat.ne_of_lt (AllLt.mem hI.2.2.2.2.2.2.2.2 p hp)) nb_nil))))))))))
  exact fun p hp => ⟨a p hp, b p hp I (.head _)⟩
theorem lc_pack {h₀ h : Heap} {L : Addr} {n : Int} {k k2 : Bool} {toldD told2D : PyData} {Dr Dd I lst t2 d2 t1 d1 fl bk bc w' w₁ w₃ : Nat} {oI oI2 olst o2 od2 o1 od1 o3 obc ow ow1 ow3 : Obj} {nf3 er ed : Nat} {tdn : Tok} {rest fresh fresh2 : List (Addr × Obj)} {T₁ r1 T1' r2 : List LRow} {T₂ ds T2' ds2 : List PyData} {L₀ L0' f f2 : Nat} {fvs fvs3 : List Value}
    (hw : (w', ow) ∈ rest) (h1 : bk < d1 ∧ bc < d1 ∧ AllLt d1 rest) (h2 : bk < d2 ∧ bc < d2 ∧ AllLt d2 rest)
    (S : EndS k n bk fl w' [(d1, od1)] toldD ((I, oI) :: (lst, olst) :: (t2, o2) :: (d2, od2) :: (t1, o1) :: (d1, od1) :: (bc, obc) :: rest) T₁ T₂ L₀ r1 w₁ fvs fresh f ds)
    (S2 : EndS k2 n bk fl w₁ ((d2, od2) :: ([(d1, od1)] ++ fresh)) told2D ((I, oI2) :: (w₁, ow1) :: (lst, olst) :: (t2, o2) :: (d2, od2) :: (t1, o1) :: (d1, od1) :: (bc, obc) :: (fresh ++ rest)) T1' T2' L0' r2 w₃ fvs3 fresh2 f2 ds2)
    (hr : bk < Dr ∧ bc < Dr ∧ w₃ < Dr ∧ AllLt Dr (fresh2 ++ (fresh ++ rest))) (hd : bk < Dd ∧ bc < Dd ∧ w₃ < Dd ∧ AllLt Dd (fresh2 ++ (fresh ++ rest)))
    (kN : News h₀ L h ((Dr, tupN [.ref Dd, .ref fl] er) :: (Dd, tupN [.str "done" tdn] ed) :: (bk, o3) :: (fl, listOf fvs3.toArray nf3) :: (w₃, ow3) :: (lst, olst) :: (t2, o2) :: (d2, od2) :: (t1, o1) :: (d1, od1) :: (bc, obc) :: (fresh2 ++ (fresh ++ rest)))) :
    ∃ fr, WNew w' w₃ (bk :: bc :: rest.map (·.1)) ∧ OwnOff fr (w₃ :: bk :: bc :: rest.map (·.1)) ∧ News h₀ L h ((bk, o3) :: (bc, obc) :: (w₃, ow3) :: (fr ++ rest)) ∧ Bears fr (.ref Dr) (.tuple [.tuple [strD "done"], .list ds2]) := by
  have gt : ∀ {a : Nat} {l : List (Addr × Obj)}, AllLt a l → ∀ q ∈ l, a ≠ q.1 := fun h q hq => Nat.ne_of_gt (AllLt.mem h q hq)
  have in1 : ∀ q ∈ (bc, obc) :: rest, q ∈ (I, oI) :: (lst, olst) :: (t2, o2) :: (d2, od2) :: (t1, o1) :: (d1, od1) :: (bc, obc) :: rest := ix_all 6 rfl
  have in2 : ∀ q ∈ (bc, obc) :: rest, q ∈ (I, oI2) :: (w₁, ow1) :: (lst, olst) :: (t2, o2) :: (d2, od2) :: (t1, o1) :: (d1, od1) :: (bc, obc) :: (fresh ++ rest) := sub_D 7 rfl (sub_cons (.head _) fun _ hp => .tail _ (List.mem_append_right _ hp))
  have ad : ∀ {p : Addr × Obj} {x : Addr} {l : List (Addr × Obj)}, p ∈ l → p.1 ∈ x :: l.map (·.1) := fun hp => .tail _ (List.mem_map.mpr ⟨_, hp, rfl⟩)
  have nd : ∀ {a : Nat} {o o' : Obj}, AllLt a rest → (a, o) ∈ (I, oI) :: (lst, olst) :: (t2, o2) :: (d2, od2) :: (t1, o1) :: (d1, od1) :: (bc, obc) :: rest → (a, o') ∈ (I, oI2) :: (w₁, ow1) :: (lst, olst) :: (t2, o2) :: (d2, od2) :: (t1, o1) :: (d1, od1) :: (bc, obc) :: (fresh ++ rest) → a ≠ w₃ :=
    fun hA m1 m2 => wnew_ne S2.wnew (ad m2) (wnew_ne S.wnew (ad m1) (Nat.ne_of_gt (AllLt.mem hA _ hw)))
  have nb : ∀ {a : Addr}, a ≠ w₃ → a ≠ bk → (∀ q ∈ (bc, obc) :: rest, a ≠ q.1) → ∀ b ∈ w₃ :: bk :: bc :: rest.map (·.1), a ≠ b := fun h1 h2 h3 => nb_con h1 (nb_con h2 (nb_map (l := (bc, obc) :: rest) h3))
  have nc : ∀ {a : Nat}, bc < a → AllLt a rest → ∀ q ∈ (bc, obc) :: rest, a ≠ q.1 := fun h1 h2 => gt (l := (bc, obc) :: rest) ⟨h1, h2⟩
  have rt : ∀ q ∈ rest, q ∈ fresh2 ++ (fresh ++ rest) := sub_R (sub_R sub_rfl)
  refine ⟨(Dr, tupN [.ref Dd, .ref fl] er) :: (Dd, tupN [.str "done" tdn] ed) :: (fl, listOf fvs3.toArray nf3) :: (d2, od2) :: (d1, od1) :: (fresh2 ++ fresh), wnew_trans S.wnew S2.wnew (adr_sub in1) (adr_sub in2), ?_, ?_, ?_⟩
  · exact off_con (nb (Nat.ne_of_gt hr.2.2.1) (Nat.ne_of_gt hr.1) (sub_cons' (Nat.ne_of_gt hr.2.1) fun q hq => gt hr.2.2.2 q (rt q hq))) (off_con (nb (Nat.ne_of_gt hd.2.2.1) (Nat.ne_of_gt hd.1) (sub_cons' (Nat.ne_of_gt hd.2.1) fun q hq => gt hd.2.2.2 q (rt q hq)))
      (off_con (nb (Ne.symm S2.wfl) (Ne.symm S.dfl) fun q hq => Ne.symm (S.offr q (in1 q hq) fl (.tail _ (.head _)))) (off_con (nb (nd (o := od2) (o' := od2) h2.2.2 (ix_mem 3 rfl) (ix_mem 4 rfl)) (Nat.ne_of_gt h2.1) (nc h2.2.1 h2.2.2)) (off_con (nb (nd (o := od1) (o' := od1) h1.2.2 (ix_mem 5 rfl) (ix_mem 6 rfl)) (Nat.ne_of_gt h1.1) (nc h1.2.1 h1.2.2))
      (off_app (fun p hp => nb (S2.off p hp _ (.head _)) (S2.off p hp _ (.tail _ (.tail _ (.head _)))) fun q hq => S2.off p hp _ (.tail _ (.tail _ (ad (in2 q hq)))))
      fun p hp => nb (wnew_ne S2.wnew (ad (ix_tl 8 rfl (List.mem_append_left _ hp))) (S.off p hp _ (.head _))) (S.off p hp _ (.tail _ (.tail _ (.head _)))) fun q hq => S.off p hp _ (.tail _ (.tail _ (ad (in1 q hq)))))))))
  · exact News.sub kN (ix_subT [2, 10, 4] rfl rfl (sub_app (ix_subT [0, 1, 3, 7, 9] rfl rfl (sub_D 11 rfl (sub_app (sub_L sub_rfl) (sub_R (sub_L sub_rfl))))) (sub_D 11 rfl (sub_R (sub_R sub_rfl)))))
  · intro h₁ L₁ hh N
    obtain ⟨_, b2⟩ := S2.bears h₁ L₁ hh (News.sub N (ix_subT [3, 4] rfl rfl (sub_D 5 rfl (sub_app (sub_R sub_rfl) (sub_L sub_rfl)))))
    exact ⟨_, Reads.tuple (N _ (.head _)).1 rfl rfl (.cons (Reads.tuple (N (Dd, tupN [.str "done" tdn] ed) (ix_mem 1 rfl)).1 rfl rfl (.cons (.str _ _) .nil)) (.cons (Reads.list (N (fl, listOf fvs3.toArray nf3) (ix_mem 2 rfl)).1 rfl rfl b2) .nil))⟩
theorem fill_P16 : Challenge.rw_xm0171_01 = Challenge.rw_xm0171_01 ∧ Mine.hd.heap_39 = Mine.hd.heap_39 := by
  k_fill
  w_top off
  k_with_none
  k_with "gnd" => ((case u0 => k_asm); (case u1 => k_asm); (case u2 => k_asm); (case u3 => k_asm); (case u4 => first | exact rfl | assumption); (case u5 => ktr_room); (case u6 => ktr_units); (case u7 => k_asm))
  k_with "kln_le" => (first | exact ne_c rfl | exact lt_c rfl | exact ne_a rfl | exact ne_b rfl | exact ne_d (by assumption) rfl | exact ne_e (by assumption) rfl | exact lt_a (by assumption) rfl | exact ne_f (by assumption) | exact ne_f (Ne.symm (by assumption)) | exact ne_g (by assumption) rfl | exact ne_two (by assumption) (by assumption) (by assumption) | exact or5 (by assumption) (by kln_le) (by kln_le) (by kln_le) (by kln_le) (by kln_le) | omega)
  k_with "pl" => (with_reducible first | exact pl1 (by assumption) | exact pl2 (by assumption) | exact pl3 (by assumption) | exact pl4 (by assumption) | exact pl5 (by assumption) | exact pl6 (by assumption) | exact pl7 (by assumption) | exact pl8 (by assumption) | exact pl9 (by assumption) | exact pl10 (by assumption) | exact pl11 (by assumption) | exact pl12 (by assumption) | exact pl13 (by assumption) | exact pl14 (by assumption) | exact pl15 (by assumption) | exact pl16 (by assumption) | exact pl17 (by assumption) | exact pl18 (by assumption) | exact pl19 (by assumption) | exact pl20 (by assumption) | exact pl21 (by assumption) | exact pl22 (by assumption) | exact pl23 (by assumption) | exact pl24 (by assumption) | exact pl25 (by assumption) | exact pl26 (by assumption) | exact pl27 (by assumption) | exact pl28 (by assumption) | exact pl29 (by assumption) | exact pl30 (by assumption))
  k_with "pa" => (with_reducible first | exact pa1 (by assumption) | exact pa2 (by assumption) | exact pa3 (by assumption) | exact pa4 (by assumption) | exact pa5 (by assumption) | exact pa6 (by assumption) | exact pa7 (by assumption) | exact pa8 (by assumption) | exact pa9 (by assumption) | exact pa10 (by assumption) | exact pa11 (by assumption) | exact pa12 (by assumption) | exact pa13 (by assumption) | exact pa14 (by assumption) | exact pa15 (by assumption) | exact pa16 (by assumption) | exact pa17 (by assumption) | exact pa18 (by assumption) | exact pa19 (by assumption) | exact pa20 (by assumption) | exact pa21 (by assumption) | exact pa22 (by assumption) | exact pa23 (by assumption) | exact pa24 (by assumption) | exact pa25 (by assumption) | exact pa26 (by assumption) | exact pa27 (by assumption) | exact pa28 (by assumption) | exact pa29 (by assumption) | exact pa30 (by assumption))
  k_with "execs cons" => ((k_here; with_reducible first | (refine seq_start (s₀ := s) ?_; intro tkz9 qz9) | (refine seq_startS ?_; intro qz9; (try k_gentoks))))
  k_with "Seq" => ((k_here; with_reducible first | (refine seq_go (s₀ := s) ?_; intro tkz9 qz9) | (refine seq_goS ?_; intro qz9; (try k_gentoks)) | refine seq_end ?_ | refine seq_ret ?_ | refine seq_brk ?_ | refine seq_cont ?_))
  k_with "k_fold" => ((refine name_in ?_; intro e9z9 B9z9 M9z9 q9z9 x9z9))
  k_with "k_steps" => (repeat' (first | walk1 | (k_end; wrow_close) | (dsimp only; walk1) | (leave1; walk_say "STEP leave1"; try dsimp only) | (k_unfold; (try dsimp only)) | fail "no step"))
  k_with "storeName" => ((k_here; k_dflt (refine' storeLet ?F ?N ?_ ?a ?b; (case a => first | assumption | rfl); (case b => rfl); (case F => k_asm); (case N => k_asm); k_whole); intro hz9 mz9 Fz9 Nz9; (try k_sweep)))
  k_with "subscriptTail Name Constant ref int" => ((k_here; k_dflt (refine' item_tupleT ?t ?a ?b ?c ?d ?_; (case t => exact News.isTup (by k_asm) (rowsAt (by assumption) (by ktr_rel))); (case a => decide); (case b => decide); (case c => rfl); (case d => rfl))))
  k_with "kby_size" => (first | (rename ((_ ≠ _ ∧ _ ≠ _ ∧ _ ≠ _) ∧ _) => q9z9; with_reducible first | exact q9z9.1.1 | exact Ne.symm q9z9.1.1 | exact q9z9.1.2.1 | exact Ne.symm q9z9.1.2.1 | exact q9z9.1.2.2 | exact Ne.symm q9z9.1.2.2 | (replace q9z9 := q9z9.2; kby_size)) | (rename (_ ≠ _ ∧ _ ≠ _ ∧ _ ≠ _) => q9z9; with_reducible first | exact q9z9.1 | exact Ne.symm q9z9.1 | exact q9z9.2.1 | exact Ne.symm q9z9.2.1 | exact q9z9.2.2 | exact Ne.symm q9z9.2.2))
  k_with "k_ne" => (first | kby_size | (refine neN ?_; (try dsimp only); omega (config := { splitDisjunctions := false })))
  k_with "k_ne" => (first | kby_size | (refine neN (Nat.ne_of_gt ?_); k_extra "pl") | (refine neN (Nat.ne_of_lt ?_); k_extra "pl"))
  k_with "ktr_room" => (first | exact rm2 (by assumption) rfl | exact rm1 (by assumption) rfl | exact rm0 (by assumption) | exact rm3 (by assumption) rfl)
  k_with "ktr_units" => (first | exact rm2 (by assumption) rfl | exact rm1 (by assumption) rfl | exact rm0 (by assumption) | exact rm3 (by assumption) rfl)
  k_with "k_mem" => (first | assumption | exact RowsIn.at (by assumption) (by assumption))
  k_with "subscriptTail" => ((k_here; (with_reducible show wpAny _ _ (subscriptTail _ _ (Value.ref _) (Value.str _ _)) _ _ _); k_dflt (refine' kda_item (knd := PySem.strKind _ _) ?N ?hp ?hd (strKind_is _ _ _ _) ?hl ?_; (case N => k_asm); (case hp => k_mem); (case hd => k_asm); (case hl => rfl)); (try dsimp only)))
  k_with "exec For Name Subscript cons nil" => ((k_here; (rename Fr _ _ _ _ => lFz9); (with_unfolding_all refine' For_invVF lFz9 ?k1 ?k2 ?_; (case k1 => exact rfl); (case k2 => exact rfl); k_whole)))
  k_with "eval ListComp" => ((k_here; (with_reducible show wpAny _ _ (eval (Expr.ListComp _ [Comprehension.mk (Expr.Name _ _) _ [_] _] _ _) _) _ _ _); k_dflt (refine LCt.ListComp_T (F₀ := by k_asm) (by with_unfolding_all rfl) (by decide) (by rfl) (by decide) (by rfl) ?_)))
  k_with "CompSrcT" => ((k_here; k_dflt (refine LCt.CompSrcT.ledger (by rfl) (by k_asm) (by k_asm) (by k_mem) (by first | size_fits | (simp only [List.size_toArray, List.length_map, sizeLine_eq]; omega)) ?_); intro gz9))
  k_with "setItem ref str" => ((k_here; k_dflt (refine' kda_set (knd := PySem.strKind _ _) ?F ?N ?U ?d (strKind_is _ _ _ _) ?z ?_; (case F => k_asm); (case N => k_asm); (case U => k_updF); (case d => k_asm); (case z => rw [sizeLine_eq]; exact Nat.le_of_ble_eq_true (by with_unfolding_all rfl))); intro hz9 oz9 Fz9 Nz9 hdz9; (try dsimp only at Nz9)))
  k_with "is_list" => (exact News.isList (by k_asm) (by k_mem))
  k_with "ke_room" => (ktr_units)
  k_with "k_units" => (ktr_units)
  k_with "subscriptTail" => ((k_here; (with_reducible show wpAny _ _ (subscriptTail _ _ (Value.ref _) (Value.int _ _)) _ _ _); k_dflt (refine' my_item ?N ?hm ?h0 ?hhi ?hx ?_; (case N => k_asm); (case hm => k_mem); (case h0 => with_reducible assumption); (case hhi => with_reducible assumption); (case hx => with_reducible assumption))))
  k_with "ktr_rel" => (first | assumption | exact RowsIn.filter (by assumption) | (refine RowsIn.cons ?_; ktr_rel))
  k_with "ktr_unf" => (assumption)
  k_with "tb_rel" => (first | with_reducible assumption | (first | k_extra "pl" | k_extra "pa") | assumption | omega)
  k_with "tb_start" => (first | exact List.forall_mem_nil _ | (refine List.forall_mem_cons.mpr ⟨⟨by tb_rel, by tb_rel, by tb_rel⟩, ?_⟩; tb_start) | (refine List.forall_mem_cons.mpr ⟨⟨by tb_rel, by tb_rel, by tb_rel, by tb_rel⟩, ?_⟩; tb_start))
  k_with "call builtin:list.pop" => ((k_here; (try (rename News _ _ _ _ => N9pz9; simp only [List.push_toArray] at N9pz9)); k_dflt ((refine' my_pop0 ?F ?N ?U ?hi ?hne ?hz ?_); (case F => k_asm); (case N => k_asm); (case U => k_upd); (case hi => first | assumption | exact ints_snoc (by assumption)); (case hne => first | assumption | exact of_decide_eq_false (by assumption) | simp); (case hz => (try simp only [List.length_append, List.length_cons, List.length_nil]); omega)); intro t9z9 h9z9 F9z9 N9z9 hi9z9))
  k_with "call builtin:list.append" => ((k_here; (with_reducible show wpAny _ _ (call (Value.builtin _) [Value.ref _, _]) _ _ _); k_dflt (refine' append_K ?k1 ?k2 ?k3 ?_ ?z; (case k1 => k_asm); (case k2 => k_asm); (case k3 => k_upd); (case z => (simp only [List.size_toArray, List.length_tail, sizeLine_eq]; omega)); k_whole); intro hz9 Fz9 Nz9; (try simp only [List.push_toArray] at Nz9); (try k_sweep)))
  k_with "subscriptTail Name Name ref int" => ((k_here; (with_reducible show wpAny _ _ (subscriptTail _ _ (Value.ref _) (Value.int _ _)) _ _ _); k_dflt (first | (refine' my_item ?N ?hm ?h0 ?hhi ?hx ?_; (case N => k_asm); (case hm => k_mem); (case h0 => with_reducible assumption); (case hhi => with_reducible assumption); (case hx => with_reducible assumption)) | (refine' my_item ?N ?hm ?h0 ?hhi ?hx ?_; (case N => k_asm); (case hm => k_mem); (case h0 => decide); (case hhi => decide); (case hx => rfl)))))
  k_with "subscriptTail Attribute" => ((k_here; (with_reducible show wpAny _ _ (subscriptTail _ _ (Value.ref _) (Value.int _ _)) _ _ _); k_dflt (first | (refine' my_item ?N ?hm ?h0 ?hhi ?hx ?_; (case N => k_asm); (case hm => k_mem); (case h0 => with_reducible assumption); (case hhi => with_reducible assumption); (case hx => with_reducible assumption)) | (refine' my_item ?N ?hm ?h0 ?hhi ?hx ?_; (case N => k_asm); (case hm => k_mem); (case h0 => decide); (case hhi => decide); (case hx => rfl)))))
  k_with "subscriptTail Subscript" => ((k_here; (with_reducible show wpAny _ _ (subscriptTail _ _ (Value.ref _) (Value.int _ _)) _ _ _); k_dflt (first | (refine' my_item ?N ?hm ?h0 ?hhi ?hx ?_; (case N => k_asm); (case hm => k_mem); (case h0 => with_reducible assumption); (case hhi => with_reducible assumption); (case hx => with_reducible assumption)) | (refine' my_item ?N ?hm ?h0 ?hhi ?hx ?_; (case N => k_asm); (case hm => k_mem); (case h0 => decide); (case hhi => decide); (case hx => rfl)))))
  k_with "call ref" => ((k_here; guard_target =~ wpAny _ _ (call (Value.ref 84) _) _ _ _; k_dflt ((first | refine' first_rule (k := true) ?u0 ?u1 ?u2 ?u3 ?u4 ?u5 ?u6 ?u7 ?u8 ?u9 ?u10 ?u11 ?_ ?_ | refine' first_rule (k := false) ?u0 ?u1 ?u2 ?u3 ?u4 ?u5 ?u6 ?u7 ?u8 ?u9 ?u10 ?u11 ?_ ?_ | refine' first_rule ?u0 ?u1 ?u2 ?u3 ?u4 ?u5 ?u6 ?u7 ?u8 ?u9 ?u10 ?u11 ?_ ?_); k_extra "gnd"; (case u8 => k_mem); (case u9 => k_mem); (case u10 => k_mem); (case u11 => ktr_rel)); (intro h9z9 tk9z9 F9z9 N9z9 hf9z9); rotate_left; (intro l9z9 h9z9 tk9z9 F9z9 N9z9 hf9z9 hm9z9); rotate_right))
  k_with "call ref" => ((k_here; guard_target =~ wpAny _ _ (call (Value.ref 316) _) _ _ _; k_dflt ((first | refine' lawfirst_rule (k := true) ?u0 ?u1 ?u2 ?u3 ?u4 ?u5 ?u6 ?u7 ?u8 ?u9 ?u10 ?u11 ?_ ?_ | refine' lawfirst_rule (k := false) ?u0 ?u1 ?u2 ?u3 ?u4 ?u5 ?u6 ?u7 ?u8 ?u9 ?u10 ?u11 ?_ ?_ | refine' lawfirst_rule ?u0 ?u1 ?u2 ?u3 ?u4 ?u5 ?u6 ?u7 ?u8 ?u9 ?u10 ?u11 ?_ ?_); k_extra "gnd"; (case u8 => k_mem); (case u9 => assumption); (case u10 => k_mem); (case u11 => ktr_rel)); (intro h9z9 tk9z9 F9z9 N9z9 hf9z9); rotate_left; (intro l9z9 h9z9 tk9z9 F9z9 N9z9 hf9z9 hm9z9); rotate_right))
  k_with "call ref" => ((k_here; guard_target =~ wpAny _ _ (call (Value.ref 96) _) _ _ _; k_dflt (refine' maysend_rule ?u0 ?u1 ?u2 ?u3 ?u4 ?u5 ?u6 ?u7 ?u8 ?u9 ?u10 ?u11 ?u12 ?u13 ?u14 ?u15 ?u16 ?u17 ?u18 ?u19 ?u20 ?_; k_extra "gnd"; (case u8 => k_mem); (case u9 => k_mem); (case u10 => k_mem); (case u11 => k_mem); (case u12 => ktr_rel); (case u13 => ktr_unf); (case u14 => ktr_unf); (case u15 => ktr_unf); (case u16 => k_mem); (case u17 => k_mem); (case u18 => k_mem); (case u19 => ktr_unf); (case u20 => ktr_unf)); (intro y0 y1 y2 yN)))
  k_with "call ref" => ((k_here; guard_target =~ wpAny _ _ (call (Value.ref 103) _) _ _ _; k_dflt (refine' maytake_rule ?u0 ?u1 ?u2 ?u3 ?u4 ?u5 ?u6 ?u7 ?u8 ?u9 ?u10 ?u11 ?u12 ?u13 ?u14 ?u15 ?u16 ?u17 ?u18 ?u19 ?u20 ?_; k_extra "gnd"; (case u8 => k_mem); (case u9 => k_mem); (case u10 => k_mem); (case u11 => k_mem); (case u12 => ktr_rel); (case u13 => ktr_unf); (case u14 => ktr_unf); (case u15 => ktr_unf); (case u16 => k_mem); (case u17 => k_mem); (case u18 => k_mem); (case u19 => ktr_unf); (case u20 => ktr_unf)); (intro y0 y1 y2 yN)))
  k_with "call ref" => ((k_here; guard_target =~ wpAny _ _ (call (Value.ref 96) _) _ _ _; k_dflt (refine' maysend_none ?u0 ?u1 ?u2 ?u3 ?u4 ?u5 ?u6 ?u7 ?_; k_extra "gnd"); (intro y0 y1 y2 yN)))
  k_with "call ref" => ((k_here; guard_target =~ wpAny _ _ (call (Value.ref 103) _) _ _ _; k_dflt (refine' maytake_none ?u0 ?u1 ?u2 ?u3 ?u4 ?u5 ?u6 ?u7 ?_; k_extra "gnd"); (intro y0 y1 y2 yN)))
  k_with "call ref" => ((k_here; guard_target =~ wpAny _ _ (call (Value.ref 89) _) _ _ _; k_dflt (refine' letgo_upd ?u0 ?u1 ?u2 ?u3 ?u4 ?u5 ?u6 ?u7 ?u8 ?u9 ?u10 ?u11 ?u12 ?_; k_extra "gnd"; (case u9 => k_mem); (case u8 => k_updF); (case u10 => k_mem); (case u11 => ktr_rel); (case u12 => ktr_unf)); (intro w9z9 nw9z9 h9z9 tk9z9 o9z9 F9z9 N9z9); (try simp only [LCg.Off1, and_true] at o9z9); (try dsimp only at N9z9)))
  k_with "call ref" => ((k_here; guard_target =~ wpAny _ _ (call (Value.ref 321) _) _ _ _; k_dflt (refine' lawletgo_upd ?u0 ?u1 ?u2 ?u3 ?u4 ?u5 ?u6 ?u7 ?u8 ?u9 ?u10 ?u11 ?u12 ?_; k_extra "gnd"; (case u8 => k_updF); (case u9 => assumption); (case u10 => k_mem); (case u11 => ktr_rel); (case u12 => ktr_unf)); (intro ob9z9 w9z9 nw9z9 h9z9 tk9z9 o9z9 hob9z9 F9z9 N9z9); (try simp only [LCg.Off1, and_true] at o9z9); (try dsimp only at N9z9)))
  k_with "exec For Tuple Call cons nil" => ((k_here; (rename Fr _ _ _ _ => lFz9); (with_unfolding_all refine' For_turns lFz9 ?_; k_whole)))
  k_with "call type:enumerate" => ((k_here; (with_reducible show wpAny _ _ (call (Value.type _) [Value.ref _]) (fun xv s₁ => wpAny _ _ (pyIter xv) (fun it s₂ => TurnsAt _ _ _ _ _ _ _ _ _ it s₂) _ s₁) _ _); (rename Fr _ _ _ _ => lFz9); (rename News _ _ _ _ => lNz9); k_dflt (first
  | refine ktu_enum (lo := listOf [Value.ref _].toArray _) (vs := [Value.ref _]) (xs := [Itm.pair (fun t => Value.int (0 : Int) t) (Value.ref _)]) (by rfl) lFz9 lNz9 (by k_mem) (by rfl) (by rfl) (by rfl) ?_
  | refine ktu_enum (lo := listOf [Value.ref _, Value.ref _, Value.ref _].toArray _) (vs := [Value.ref _, Value.ref _, Value.ref _]) (xs := [Itm.pair (fun t => Value.int (0 : Int) t) (Value.ref _), Itm.pair (fun t => Value.int (1 : Int) t) (Value.ref _), Itm.pair (fun t => Value.int (2 : Int) t) (Value.ref _)]) (by rfl) lFz9 lNz9 (by k_mem) (by rfl) (by rfl) (by rfl) ?_); clear lFz9; intro iz9 l1z9; (try k_lt l1z9)))
  k_with "tb_start" => (first | exact off2_rest (by tb_rel) | (refine off2_cons (by omega) (by omega) ?_; tb_start))
  k_with "UnrEndW" => ((k_dflt (first
  | refine unrEndW_mid (a := [_]) (by assumption) (by assumption) (by tb_start) ⟨⟨by k_mem, trivial⟩, ?_⟩
  | refine unrEndW_mid (a := []) (by assumption) (by assumption) (by tb_start) ⟨⟨by k_mem, trivial⟩, ?_⟩)))
  k_with "exec While Compare cons nil" => (refine Stop.intro ?_)
  k_with "setItem ref int" => ((k_here; k_dflt (refine' my_set ?F ?N ?U ?h0 ?hfit ?hx ?_; (case F => k_asm); (case N => k_asm); (case U => k_upd); (case h0 => with_reducible assumption); (case hfit => with_reducible assumption); (case hx => with_reducible assumption)); intro hz9 Fz9 Nz9; (try k_sweep)))
  k_with "exec For Tuple List cons nil" => ((k_here; (rename Fr _ _ _ _ => lFz9); (with_unfolding_all refine' For_turns lFz9 ?_; k_whole)))
  k_with "pyIter ref" => ((k_here; (with_reducible show wpAny _ _ (pyIter (Value.ref _)) (fun it s₂ => TurnsAt _ _ _ _ _ _ _ _ _ it s₂) _ _); (rename Fr _ _ _ _ => lFz9); (rename News _ _ _ _ => lNz9); k_dflt (refine iter_listTurns (lo := listOf [Value.ref _, Value.ref _].toArray _) (vs := [Value.ref _, Value.ref _]) (by rfl) lFz9 lNz9 (by k_mem) (by rfl) (by rfl) ?_); clear lFz9; intro iz9 l1z9; (try k_lt l1z9)))
  k_with "UnrEndW" => (refine Stop.intro ?_)
  k_with "call ref" => ((k_here; guard_target =~ wpAny _ _ (call (Value.ref 316) _) _ _ _; k_dflt ((first | refine' lawfirst_rule (k := true) ?u0 ?u1 ?u2 ?u3 ?u4 ?u5 ?u6 ?u7 ?u8 ?u9 ?u10 ?u11 ?_ ?_ | refine' lawfirst_rule (k := false) ?u0 ?u1 ?u2 ?u3 ?u4 ?u5 ?u6 ?u7 ?u8 ?u9 ?u10 ?u11 ?_ ?_ | refine' lawfirst_rule ?u0 ?u1 ?u2 ?u3 ?u4 ?u5 ?u6 ?u7 ?u8 ?u9 ?u10 ?u11 ?_ ?_); k_extra "gnd"; (case u8 => k_mem); (case u9 => assumption); (case u10 => k_mem); (case u11 => ktr_rel)); (intro h9z9 tk9z9 F9z9 N9z9 hf9z9); (try exact absurd (Eq.trans (Eq.symm (by assumption : List.find? _ _ = some _)) hf9z9) (by simp)); rotate_left; (intro l9z9 h9z9 tk9z9 F9z9 N9z9 hf9z9 hm9z9); (try exact absurd (Eq.trans (Eq.symm (by assumption : List.find? _ _ = none)) hf9z9) (by simp)); rotate_right))
  exact ⟨rfl, rfl⟩
set_option maxRecDepth 100000 in
set_option maxHeartbeats 8000000 in
theorem lawclosed_rule {prog : Program} {w : World} {p : Program} {loose : List Str} {mean : ExcName → Option Value} {mg mb : Str → Option Value}
  {dp un : Nat} {gd : Option (List Code)} {cn : Str} {cs : Scope} {a : Addr} {ccd : Value} {cl : List (Str × Addr)} {outer : List Env} {A₀ : Around} {base h₀ : Heap} {L : Addr} {m : Str → Option Value} {s : Shared} {Q E : Value → Shared → Prop}
  {rest : List (Addr × Obj)}
  {bk w' br bh bc : Addr} {ob : Obj} {b : Bool} {vc : List Value} {nc nw : Nat} {rows : List LRow} {n : Int} {tn : Tok}
  (B : Below A₀ base outer h₀) (F : Fr h₀ L s.heap m) (X : (Mine.hd.heap_39 w.params).In h₀) (T : Top p loose mean mg mb h₀) (hk : cs.kind = .function) (hdp : dp + 30 < recursionLimit) (hun : un + 460 < cLine) (N : News h₀ L s.heap ((bk, ob) :: (bc, listOf vc.toArray nc) :: rest)) (off : OwnOff rest [bk, bc]) (hne : @Ne Nat bk bc)
  (hob : ob.IsDictOf (strKind prog w) (bkKvs br bh bc w'))
  (hw : (w', listOf (refsOf rows).toArray nw) ∈ rest) (hr : RowsIn rows rest) (hlr : rows.length ≤ 400)
  (n0 : 0 ≤ n) (n1 : n < 2 ^ 63) (hcn : vc[n.toNat]? = some (.bool b))
  (hret : ∀ r w₂ nw₂ nc' fresh o₂ h' tk', WNew w' w₂ (bk :: bc :: rest.map (·.1)) → OwnOff fresh (w₂ :: bk :: bc :: rest.map (·.1)) → o₂.IsDictOf (strKind prog w) (bkKvs br bh bc w₂) → Fr h₀ L h' m →
    News h₀ L h' ((bk, o₂) :: (bc, listOf (vc.set n.toNat (.bool true)).toArray nc') :: (w₂, listOf (refsOf (closeF b rows n).2).toArray nw₂) :: (fresh ++ rest)) → Bears fresh r (closeF b rows n).1 → Q r { s with heap := h', toks := tk' }) :
  wpAny (model prog w) (ktrTop dp un gd cn cs L a ccd cl outer) (call (.ref 342) [.ref bk, .int n tn]) Q E s := by
  refine wpAny_call ?_
  k_dflt ktr_enter
  k_steps
  · rename News h₀ L _ _ => kN
    have hb : b = true := by assumption
    subst hb
    have hv : vc.set n.toNat (.bool true) = vc := by
      obtain ⟨h1, h2⟩ := List.getElem?_eq_some_iff.mp hcn
      rw [← h2]; exact List.set_getElem_self h1
    rw [hv] at hret
    obtain ⟨oo, NN⟩ := end_old (fresh := [_, _, _]) kN hw (by tb_start)
    exact hret _ _ _ _ _ _ _ _ (.inl rfl) oo hob (by assumption) NN (fun _ _ _ N9 => ⟨_, by ked_read⟩)
  · refine Stop.out ?_
    have hb : b = false := by assumption
    subst hb
    rename Fr _ _ _ _ => lF'
    rename News _ _ _ _ => lN'
    rename (_ ∧ _ ∧ _ ∧ _ ∧ _ ∧ _ ∧ _ ∧ _ ∧ _ ∧ AllLt _ rest) => hI
    obtain ⟨or0, ne0, hT1, hT2, N0⟩ := lc_start lN' off hne hw ⟨by tb_rel, by tb_rel, by tb_rel⟩ ⟨by tb_rel, by tb_rel, by tb_rel, by tb_rel, by tb_rel, by tb_rel⟩
    have S0 := EndS.start1 (k := false) (n := n) (toldD := recvD .none false) hT1 ne0 or0 (.tail _ (.tail _ (.tail _ (.tail _ (.tail _ (.tail _ (.tail _ hw))))))) (rows := rows) (RowsIn.cons (RowsIn.cons (RowsIn.cons (RowsIn.cons (RowsIn.cons (RowsIn.cons (RowsIn.cons hr)))))))
    k_dflt refine while_one (Str.ofString "row") (EndJ false n bk (fun w₁ o => o.IsDictOf (strKind prog w) (bkKvs br bh bc w₁)) _ w' _ (recvD .none false) _ _ _ _ (fun _ _ => True)) lF' N0 (EndJ.intro trivial hob S0) ?_
    clear lF' lN' N0 S0
    intro μ dv news₁ h₁ tk₁ F₁ N₁ hJ9
    refine EndJ.elim hJ9 ?_
    clear hJ9
    intro rows' w₁ nw₁ fvs nf fresh f ds o₁ e8 _ hob1 e9 S
    subst e8 e9
    have hrp := RowsIn.right (a := fresh) S.rin
    have offp := OwnOff.app (OwnOff.sub (adr' := [bk, _]) S.off (by simp)) S.offr
    have hlr' : rows'.length ≤ 1000 := by have := S.len; omega
    have hfl' : fvs.length ≤ 1000 := by have := S.len; omega
    have n1 := S.wfl
    have n2 := S.wd
    have n3 := S.dfl
    generalize hpool : fresh ++ (_ :: _ :: _ :: _ :: _ :: _ :: _ :: rest) = pool at N₁ hrp offp
    k_steps
    rotate_left
    · subst hpool
      rename News _ _ _ _ => kN
      rename List.find? _ _ = some _ => hf9
      rename (_ ≠ _ ∧ _ ≠ _ ∧ _ ≠ _ ∧ _ ≠ _ ∧ LCg.Off1 _ _) => h9
      rename (_ ∧ _ ∧ _ ∧ AllLt _ (@HAppend.hAppend _ _ _ _ fresh _)) => hD
      exact WhileStep.intro (by assumption) (end_turnN kN) (filter_less hf9) ⟨_, rfl, EndJ.intro trivial (by assumption) (EndS.next S hf9 hT1 ⟨hD.1, hD.2.1, hD.2.2.2⟩ ⟨h9.1, h9.2.1, h9.2.2.1, h9.2.2.2.2⟩)⟩
    refine Stop.out ?_
    rename News _ _ _ _ => kN
    rename List.find? _ _ = none => hf9
    subst hpool
    have e1 := S.one
    have e2 := S.two
    rw [endRec_none hf9] at e1 e2
    simp only [foundD, List.map_nil, List.append_nil] at e2
    subst e1
    have hIc := And.intro hI.1 (And.intro hI.2.1 (And.intro hI.2.2.1 (And.intro hI.2.2.2.1 (And.intro hI.2.2.2.2.1 hI.2.2.2.2.2.2))))
    have lm := lc_mid hw hIc S kN
    refine unrEndW_one (by assumption) kN (.tail _ (.tail _ (.tail _ (List.mem_append_right _ (.head _))))) (fun p hp => (lm p hp).1) (fun p hp => (lm p hp).2) ⟨⟨.tail _ (.tail _ (.tail _ (.head _))), trivial⟩, ?_⟩
    clear kN lm
    k_steps
    refine Stop.out ?_
    rename Fr _ _ _ _ => lF'
    rename News _ _ _ _ => lN'
    obtain ⟨⟨hT2', hb2⟩, or2, hr2, N2⟩ := lc_start2 hr hT2 S lN'
    have S02 := EndS.start (k := true) (n := n) (toldD := panicD "send on closed channel") n3 or2 (.tail _ (.head _)) hr2 hb2
    dsimp only [List.nil_append] at S02 N2
    k_dflt refine while_one (Str.ofString "row") (EndJ true n bk (fun w₁ o => o.IsDictOf (strKind prog w) (bkKvs br bh bc w₁)) _ w₁ _ (panicD "send on closed channel") _ _ _ _ (fun _ _ => True)) lF' N2 (EndJ.intro (fresh := []) trivial hob1 S02) ?_
    clear lF' lN' N2 S02
    intro μ dv2 news₂ h₂ tk₂ F₂ N₃ hJ9
    refine EndJ.elim hJ9 ?_
    clear hJ9
    intro rows2 w₃ nw₃ fvs3 nf3 fresh2 f2 ds2 o₃ e8 _ hob3 e9 S2
    subst e8 e9
    have hrp := RowsIn.right (a := fresh2) S2.rin
    have offp := OwnOff.app (OwnOff.sub (adr' := [bk, _]) S2.off (by simp)) S2.offr
    have hle := endRec_len (k := false) (n := n) rows.length rows
    have hlr' : rows2.length ≤ 1000 := by have := S2.len; have := S.len; omega
    have hfl' : fvs3.length ≤ 1000 := by have := S2.len; have := S.len; omega
    have n4 := S2.wfl
    have n5 := S2.wd
    generalize hpool : fresh2 ++ (_ :: _ :: _ :: _ :: _ :: _ :: _ :: _ :: (fresh ++ rest)) = pool at N₃ hrp offp
    k_steps
    rotate_left
    · subst hpool
      rename News _ _ _ _ => kN
      rename List.find? _ _ = some _ => hf9
      rename (_ ≠ _ ∧ _ ≠ _ ∧ _ ≠ _ ∧ _ ≠ _ ∧ LCg.Off1 _ _) => h9
      rename (_ ∧ _ ∧ _ ∧ AllLt _ (fresh2 ++ _)) => hD
      exact WhileStep.intro (by assumption) (end_turnN kN) (filter_less hf9) ⟨_, rfl, EndJ.intro trivial (by assumption) (EndS.next S2 hf9 hT2' ⟨hD.1, hD.2.1, hD.2.2.2⟩ ⟨h9.1, h9.2.1, h9.2.2.1, h9.2.2.2.2⟩)⟩
    refine Stop.out ?_
    rename News _ _ _ _ => kN
    rename List.find? _ _ = none => hf9
    subst hpool
    have e1 := S2.one
    have e3 := S2.two
    rw [endRec_none hf9] at e1 e3
    simp only [foundD, List.map_nil, List.append_nil] at e3
    subst e1
    have lm := lc_mid2 hw hIc S S2 kN
    refine unrEndW_one (by assumption) kN (.tail _ (.tail _ (.tail _ (List.mem_append_right _ (.head _))))) (fun p hp => (lm p hp).1) (fun p hp => (lm p hp).2) ⟨⟨.tail _ (.tail _ (.tail _ (.head _))), trivial⟩, ?_⟩
    clear kN lm
    k_steps
    rename News h₀ L _ _ => kN
    subst e3
    subst e2
    obtain ⟨fr, q1, q2, q3, q4⟩ := lc_pack hw ⟨by tb_rel, by tb_rel, by tb_rel⟩ ⟨by tb_rel, by tb_rel, by tb_rel⟩ S S2 ⟨by tb_rel, by tb_rel, by tb_rel, by tb_rel⟩ ⟨by tb_rel, by tb_rel, by tb_rel, by tb_rel⟩ kN
    exact hret _ _ _ _ _ _ _ _ q1 q2 hob3 (by assumption) q3 q4
theorem fill_P17 : Challenge.rw_xm0171_01 = Challenge.rw_xm0171_01 ∧ Mine.hd.heap_39 = Mine.hd.heap_39 := by
  k_fill
  w_top off
  k_with_none
  k_with "gnd" => ((case u0 => k_asm); (case u1 => k_asm); (case u2 => k_asm); (case u3 => k_asm); (case u4 => first | exact rfl | assumption); (case u5 => ktr_room); (case u6 => ktr_units); (case u7 => k_asm))
  k_with "kln_le" => (first | exact ne_c rfl | exact lt_c rfl | exact ne_a rfl | exact ne_b rfl | exact ne_d (by assumption) rfl | exact ne_e (by assumption) rfl | exact lt_a (by assumption) rfl | exact ne_f (by assumption) | exact ne_f (Ne.symm (by assumption)) | exact ne_g (by assumption) rfl | exact ne_two (by assumption) (by assumption) (by assumption) | exact or5 (by assumption) (by kln_le) (by kln_le) (by kln_le) (by kln_le) (by kln_le) | omega)
  k_with "pl" => (with_reducible first | exact pl1 (by assumption) | exact pl2 (by assumption) | exact pl3 (by assumption) | exact pl4 (by assumption) | exact pl5 (by assumption) | exact pl6 (by assumption) | exact pl7 (by assumption) | exact pl8 (by assumption) | exact pl9 (by assumption) | exact pl10 (by assumption) | exact pl11 (by assumption) | exact pl12 (by assumption) | exact pl13 (by assumption) | exact pl14 (by assumption) | exact pl15 (by assumption) | exact pl16 (by assumption) | exact pl17 (by assumption) | exact pl18 (by assumption) | exact pl19 (by assumption) | exact pl20 (by assumption) | exact pl21 (by assumption) | exact pl22 (by assumption) | exact pl23 (by assumption) | exact pl24 (by assumption) | exact pl25 (by assumption) | exact pl26 (by assumption) | exact pl27 (by assumption) | exact pl28 (by assumption) | exact pl29 (by assumption) | exact pl30 (by assumption))
  k_with "pa" => (with_reducible first | exact pa1 (by assumption) | exact pa2 (by assumption) | exact pa3 (by assumption) | exact pa4 (by assumption) | exact pa5 (by assumption) | exact pa6 (by assumption) | exact pa7 (by assumption) | exact pa8 (by assumption) | exact pa9 (by assumption) | exact pa10 (by assumption) | exact pa11 (by assumption) | exact pa12 (by assumption) | exact pa13 (by assumption) | exact pa14 (by assumption) | exact pa15 (by assumption) | exact pa16 (by assumption) | exact pa17 (by assumption) | exact pa18 (by assumption) | exact pa19 (by assumption) | exact pa20 (by assumption) | exact pa21 (by assumption) | exact pa22 (by assumption) | exact pa23 (by assumption) | exact pa24 (by assumption) | exact pa25 (by assumption) | exact pa26 (by assumption) | exact pa27 (by assumption) | exact pa28 (by assumption) | exact pa29 (by assumption) | exact pa30 (by assumption))
  k_with "execs cons" => ((k_here; with_reducible first | (refine seq_start (s₀ := s) ?_; intro tkz9 qz9) | (refine seq_startS ?_; intro qz9; (try k_gentoks))))
  k_with "Seq" => ((k_here; with_reducible first | (refine seq_go (s₀ := s) ?_; intro tkz9 qz9) | (refine seq_goS ?_; intro qz9; (try k_gentoks)) | refine seq_end ?_ | refine seq_ret ?_ | refine seq_brk ?_ | refine seq_cont ?_))
  k_with "k_fold" => ((refine name_in ?_; intro e9z9 B9z9 M9z9 q9z9 x9z9))
  k_with "k_steps" => (repeat' (first | walk1 | (k_end; wrow_close) | (dsimp only; walk1) | (leave1; walk_say "STEP leave1"; try dsimp only) | (k_unfold; (try dsimp only)) | fail "no step"))
  k_with "storeName" => ((k_here; k_dflt (refine' storeLet ?F ?N ?_ ?a ?b; (case a => first | assumption | rfl); (case b => rfl); (case F => k_asm); (case N => k_asm); k_whole); intro hz9 mz9 Fz9 Nz9; (try k_sweep)))
  k_with "subscriptTail Name Constant ref int" => ((k_here; k_dflt (refine' item_tupleT ?t ?a ?b ?c ?d ?_; (case t => exact News.isTup (by k_asm) (rowsAt (by assumption) (by ktr_rel))); (case a => decide); (case b => decide); (case c => rfl); (case d => rfl))))
  k_with "kby_size" => (first | (rename ((_ ≠ _ ∧ _ ≠ _ ∧ _ ≠ _) ∧ _) => q9z9; with_reducible first | exact q9z9.1.1 | exact Ne.symm q9z9.1.1 | exact q9z9.1.2.1 | exact Ne.symm q9z9.1.2.1 | exact q9z9.1.2.2 | exact Ne.symm q9z9.1.2.2 | (replace q9z9 := q9z9.2; kby_size)) | (rename (_ ≠ _ ∧ _ ≠ _ ∧ _ ≠ _) => q9z9; with_reducible first | exact q9z9.1 | exact Ne.symm q9z9.1 | exact q9z9.2.1 | exact Ne.symm q9z9.2.1 | exact q9z9.2.2 | exact Ne.symm q9z9.2.2))
  k_with "k_ne" => (first | kby_size | (refine neN ?_; (try dsimp only); omega (config := { splitDisjunctions := false })))
  k_with "k_ne" => (first | kby_size | (refine neN (Nat.ne_of_gt ?_); k_extra "pl") | (refine neN (Nat.ne_of_lt ?_); k_extra "pl"))
  k_with "ktr_room" => (first | exact rm2 (by assumption) rfl | exact rm1 (by assumption) rfl | exact rm0 (by assumption) | exact rm3 (by assumption) rfl)
  k_with "ktr_units" => (first | exact rm2 (by assumption) rfl | exact rm1 (by assumption) rfl | exact rm0 (by assumption) | exact rm3 (by assumption) rfl)
  k_with "k_mem" => (first | assumption | exact RowsIn.at (by assumption) (by assumption))
  k_with "subscriptTail" => ((k_here; (with_reducible show wpAny _ _ (subscriptTail _ _ (Value.ref _) (Value.str _ _)) _ _ _); k_dflt (refine' kda_item (knd := PySem.strKind _ _) ?N ?hp ?hd (strKind_is _ _ _ _) ?hl ?_; (case N => k_asm); (case hp => k_mem); (case hd => k_asm); (case hl => rfl)); (try dsimp only)))
  k_with "exec For Name Subscript cons nil" => ((k_here; (rename Fr _ _ _ _ => lFz9); (with_unfolding_all refine' For_invVF lFz9 ?k1 ?k2 ?_; (case k1 => exact rfl); (case k2 => exact rfl); k_whole)))
  k_with "eval ListComp" => ((k_here; (with_reducible show wpAny _ _ (eval (Expr.ListComp _ [Comprehension.mk (Expr.Name _ _) _ [_] _] _ _) _) _ _ _); k_dflt (refine LCt.ListComp_T (F₀ := by k_asm) (by with_unfolding_all rfl) (by decide) (by rfl) (by decide) (by rfl) ?_)))
  k_with "CompSrcT" => ((k_here; k_dflt (refine LCt.CompSrcT.ledger (by rfl) (by k_asm) (by k_asm) (by k_mem) (by first | size_fits | (simp only [List.size_toArray, List.length_map, sizeLine_eq]; omega)) ?_); intro gz9))
  k_with "setItem ref str" => ((k_here; k_dflt (refine' kda_set (knd := PySem.strKind _ _) ?F ?N ?U ?d (strKind_is _ _ _ _) ?z ?_; (case F => k_asm); (case N => k_asm); (case U => k_updF); (case d => k_asm); (case z => rw [sizeLine_eq]; exact Nat.le_of_ble_eq_true (by with_unfolding_all rfl))); intro hz9 oz9 Fz9 Nz9 hdz9; (try dsimp only at Nz9)))
  k_with "is_list" => (exact News.isList (by k_asm) (by k_mem))
  k_with "ke_room" => (ktr_units)
  k_with "k_units" => (ktr_units)
  k_with "subscriptTail" => ((k_here; (with_reducible show wpAny _ _ (subscriptTail _ _ (Value.ref _) (Value.int _ _)) _ _ _); k_dflt (refine' my_item ?N ?hm ?h0 ?hhi ?hx ?_; (case N => k_asm); (case hm => k_mem); (case h0 => with_reducible assumption); (case hhi => with_reducible assumption); (case hx => with_reducible assumption))))
  k_with "ktr_rel" => (first | assumption | exact RowsIn.filter (by assumption) | (refine RowsIn.cons ?_; ktr_rel))
  k_with "ktr_unf" => (assumption)
  k_with "tb_rel" => (first | with_reducible assumption | (first | k_extra "pl" | k_extra "pa") | assumption | omega)
  k_with "tb_start" => (first | exact List.forall_mem_nil _ | (refine List.forall_mem_cons.mpr ⟨⟨by tb_rel, by tb_rel, by tb_rel⟩, ?_⟩; tb_start) | (refine List.forall_mem_cons.mpr ⟨⟨by tb_rel, by tb_rel, by tb_rel, by tb_rel⟩, ?_⟩; tb_start))
  k_with "call builtin:list.pop" => ((k_here; (try (rename News _ _ _ _ => N9pz9; simp only [List.push_toArray] at N9pz9)); k_dflt ((refine' my_pop0 ?F ?N ?U ?hi ?hne ?hz ?_); (case F => k_asm); (case N => k_asm); (case U => k_upd); (case hi => first | assumption | exact ints_snoc (by assumption)); (case hne => first | assumption | exact of_decide_eq_false (by assumption) | simp); (case hz => (try simp only [List.length_append, List.length_cons, List.length_nil]); omega)); intro t9z9 h9z9 F9z9 N9z9 hi9z9))
  k_with "call builtin:list.append" => ((k_here; (with_reducible show wpAny _ _ (call (Value.builtin _) [Value.ref _, _]) _ _ _); k_dflt (refine' append_K ?k1 ?k2 ?k3 ?_ ?z; (case k1 => k_asm); (case k2 => k_asm); (case k3 => k_upd); (case z => (simp only [List.size_toArray, List.length_tail, sizeLine_eq]; omega)); k_whole); intro hz9 Fz9 Nz9; (try simp only [List.push_toArray] at Nz9); (try k_sweep)))
  k_with "subscriptTail Name Name ref int" => ((k_here; (with_reducible show wpAny _ _ (subscriptTail _ _ (Value.ref _) (Value.int _ _)) _ _ _); k_dflt (first | (refine' my_item ?N ?hm ?h0 ?hhi ?hx ?_; (case N => k_asm); (case hm => k_mem); (case h0 => with_reducible assumption); (case hhi => with_reducible assumption); (case hx => with_reducible assumption)) | (refine' my_item ?N ?hm ?h0 ?hhi ?hx ?_; (case N => k_asm); (case hm => k_mem); (case h0 => decide); (case hhi => decide); (case hx => rfl)))))
  k_with "subscriptTail Attribute" => ((k_here; (with_reducible show wpAny _ _ (subscriptTail _ _ (Value.ref _) (Value.int _ _)) _ _ _); k_dflt (first | (refine' my_item ?N ?hm ?h0 ?hhi ?hx ?_; (case N => k_asm); (case hm => k_mem); (case h0 => with_reducible assumption); (case hhi => with_reducible assumption); (case hx => with_reducible assumption)) | (refine' my_item ?N ?hm ?h0 ?hhi ?hx ?_; (case N => k_asm); (case hm => k_mem); (case h0 => decide); (case hhi => decide); (case hx => rfl)))))
  k_with "subscriptTail Subscript" => ((k_here; (with_reducible show wpAny _ _ (subscriptTail _ _ (Value.ref _) (Value.int _ _)) _ _ _); k_dflt (first | (refine' my_item ?N ?hm ?h0 ?hhi ?hx ?_; (case N => k_asm); (case hm => k_mem); (case h0 => with_reducible assumption); (case hhi => with_reducible assumption); (case hx => with_reducible assumption)) | (refine' my_item ?N ?hm ?h0 ?hhi ?hx ?_; (case N => k_asm); (case hm => k_mem); (case h0 => decide); (case hhi => decide); (case hx => rfl)))))
  exact ⟨rfl, rfl⟩
abbrev potObj (p0 p1 : Int) (t0 t1 : Tok) (n : Nat) : Obj := listOf [.int p0 t0, .int p1 t1].toArray n
set_option maxRecDepth 100000 in
set_option maxHeartbeats 8000000 in
theorem scoop_rule {prog : Program} {w : World} {p : Program} {loose : List Str} {mean : ExcName → Option Value} {mg mb : Str → Option Value}
  {dp un : Nat} {gd : Option (List Code)} {cn : Str} {cs : Scope} {a : Addr} {ccd : Value} {cl : List (Str × Addr)} {outer : List Env} {A₀ : Around} {base h₀ : Heap} {L : Addr} {m : Str → Option Value} {s : Shared} {Q E : Value → Shared → Prop}
  {rest : List (Addr × Obj)} {pot : Addr} {p0 p1 : Int} {t0 t1 : Tok} {n : Nat} {many : Int} {tm : Tok}
  (B : Below A₀ base outer h₀) (F : Fr h₀ L s.heap m) (X : (Mine.hd.heap_39 w.params).In h₀) (T : Top p loose mean mg mb h₀) (hk : cs.kind = .function) (hdp : dp + 10 < recursionLimit) (hun : un + 80 < cLine) (N : News h₀ L s.heap ((pot, potObj p0 p1 t0 t1 n) :: rest)) (off : OwnOff rest [pot])
  (hp0 : 0 ≤ p0) (hp1 : 0 ≤ p1) (hp2 : p1 < 2147483171) (hm0 : 1 ≤ many) (hm1 : many ≤ 10)
  (hret : ∀ r t p0' p1' t0' t1' h' tk', Fr h₀ L h' m → News h₀ L h' ((pot, potObj p0' p1' t0' t1' n) :: rest) → 0 ≤ p0' → 0 ≤ p1' → p1' < 2147483171 → 0 ≤ r → r < many → Q (.int r t) { s with heap := h', toks := tk' }) :
  wpAny (model prog w) (ktrTop dp un gd cn cs L a ccd cl outer) (call (.ref 302) [.ref pot, .int many tm]) Q E s := by
  refine wpAny_call ?_
  k_dflt ktr_enter
  k_steps
  · have h1 : (0 : Int) < many := by omega
    exact hret _ _ _ _ _ _ _ _ (by assumption) (by assumption) (Int.fdiv_nonneg hp0 (by omega)) hp1 hp2 (Int.fmod_nonneg_of_pos _ h1) (Int.fmod_lt_of_pos _ h1)
  · have h1 : (0 : Int) < many := by omega
    have h2 : (0 : Int) < 2147483171 := by decide
    exact hret _ _ _ _ _ _ _ _ (by assumption) (by assumption) hp0 (Int.fmod_nonneg_of_pos _ h2) (Int.fmod_lt_of_pos _ h2) (Int.fmod_nonneg_of_pos _ h1) (Int.fmod_lt_of_pos _ h1)
theorem scoop_upd {prog : Program} {w : World} {p : Program} {loose : List Str} {mean : ExcName → Option Value} {mg mb : Str → Option Value}
  {dp un : Nat} {gd : Option (List Code)} {cn : Str} {cs : Scope} {a : Addr} {ccd : Value} {cl : List (Str × Addr)} {outer : List Env} {A₀ : Around} {base h₀ : Heap} {L : Addr} {m : Str → Option Value} {s : Shared} {Q E : Value → Shared → Prop}
  {news : List (Addr × Obj)} {gg : Obj → List (Addr × Obj)} {pot : Addr} {p0 p1 : Int} {t0 t1 : Tok} {n : Nat} {many : Int} {tm : Tok}
  (B : Below A₀ base outer h₀) (F : Fr h₀ L s.heap m) (X : (Mine.hd.heap_39 w.params).In h₀) (T : Top p loose mean mg mb h₀) (hk : cs.kind = .function) (hdp : dp + 10 < recursionLimit) (hun : un + 80 < cLine) (N : News h₀ L s.heap news) (U : UpdF pot (potObj p0 p1 t0 t1 n) news gg)
  (hp0 : 0 ≤ p0) (hp1 : 0 ≤ p1) (hp2 : p1 < 2147483171) (hm0 : 1 ≤ many) (hm1 : many ≤ 10)
  (hret : ∀ r t p0' p1' t0' t1' h' tk', 0 ≤ p0' → 0 ≤ p1' → p1' < 2147483171 → 0 ≤ r → r < many → Fr h₀ L h' m → News h₀ L h' (gg (potObj p0' p1' t0' t1' n)) → Q (.int r t) { s with heap := h', toks := tk' }) :
  wpAny (model prog w) (ktrTop dp un gd cn cs L a ccd cl outer) (call (.ref 302) [.ref pot, .int many tm]) Q E s := by
  obtain ⟨rest, N1, o1, m1, m2, m3⟩ := updF_split N U
  exact scoop_rule B F X T hk hdp hun N1 o1 hp0 hp1 hp2 hm0 hm1 fun r t p0' p1' t0' t1' h' tk' F' N' a b c d e => hret r t p0' p1' t0' t1' h' tk' a b c d e F' fun p hp => N' p (m3 _ p hp)
theorem fill_P18 : Challenge.rw_xm0171_01 = Challenge.rw_xm0171_01 ∧ Mine.hd.heap_39 = Mine.hd.heap_39 := by
  k_fill
  w_top off
  k_with "call ref" => ((k_here; guard_target =~ wpAny _ _ (call (Value.ref 302) _) _ _ _; k_dflt (refine' scoop_upd ?u0 ?u1 ?u2 ?u3 ?u4 ?u5 ?u6 ?u7 ?u8 ?u9 ?u10 ?u11 ?u12 ?u13 ?_; k_extra "gnd"; (case u8 => k_updF); (case u9 => assumption); (case u10 => assumption); (case u11 => assumption); (case u12 => first | decide | assumption | omega); (case u13 => first | decide | assumption | omega)); (intro y0 y1 y2 y3 y4 y5 y6 y7 y8 y9 y10 y11 y12 y13 yN; (try dsimp only at yN))))
  exact ⟨rfl, rfl⟩
set_option maxRecDepth 100000 in
set_option maxHeartbeats 8000000 in
theorem one_rule {prog : Program} {w : World} {p : Program} {loose : List Str} {mean : ExcName → Option Value} {mg mb : Str → Option Value}
  {dp un : Nat} {gd : Option (List Code)} {cn : Str} {cs : Scope} {a : Addr} {ccd : Value} {cl : List (Str × Addr)} {outer : List Env} {A₀ : Around} {base h₀ : Heap} {L : Addr} {m : Str → Option Value} {s : Shared} {Q E : Value → Shared → Prop}
  {news : List (Addr × Obj)} {gg : Obj → List (Addr × Obj)} {pot th : Addr} {p0 p1 : Int} {t0 t1 ta tb : Tok} {n nt : Nat}
  (B : Below A₀ base outer h₀) (F : Fr h₀ L s.heap m) (X : (Mine.hd.heap_39 w.params).In h₀) (T : Top p loose mean mg mb h₀) (hk : cs.kind = .function) (hdp : dp + 20 < recursionLimit) (hun : un + 160 < cLine) (N : News h₀ L s.heap news) (U : UpdF pot (potObj p0 p1 t0 t1 n) news gg) (hth : (th, listOf [Value.str "send" ta, Value.str "take" tb].toArray nt) ∈ news)
  (hp0 : 0 ≤ p0) (hp1 : 0 ≤ p1) (hp2 : p1 < 2147483171)
  (hret : ∀ k t p0' p1' t0' t1' h' tk', 0 ≤ p0' → 0 ≤ p1' → p1' < 2147483171 → Fr h₀ L h' m → News h₀ L h' (gg (potObj p0' p1' t0' t1' n)) → Q (.str (kStr k) t) { s with heap := h', toks := tk' }) :
  wpAny (model prog w) (ktrTop dp un gd cn cs L a ccd cl outer) (call (.ref 309) [.ref pot, .ref th]) Q E s := by
  obtain ⟨rest, N1, o1, m1, m2, m3⟩ := updF_split N U
  have hth1 : (th, listOf [Value.str "send" ta, Value.str "take" tb].toArray nt) ∈ rest := m1 _ hth (by intro e; simp at e)
  have hret' : ∀ k t p0' p1' t0' t1' h' tk', 0 ≤ p0' → 0 ≤ p1' → p1' < 2147483171 → Fr h₀ L h' m → News h₀ L h' ((pot, potObj p0' p1' t0' t1' n) :: rest) → Q (.str (kStr k) t) { s with heap := h', toks := tk' } :=
    fun k t p0' p1' t0' t1' h' tk' a b c F' N' => hret k t p0' p1' t0' t1' h' tk' a b c F' fun p hp => N' p (m3 _ p hp)
  clear hret N U m1 m2 m3 hth
  refine wpAny_call ?_
  k_dflt ktr_enter
  k_steps
  have hr2 : y0 = 0 ∨ y0 = 1 := by omega
  rcases hr2 with rfl | rfl
  · k_dflt refine my_item (v := .str "send" ta) (by k_asm) (by k_mem) (by decide) (by decide) rfl ?_
    k_steps
    exact hret' true _ y2 y3 y4 y5 _ _ y8 y9 y10 (by assumption) (by assumption)
  · k_dflt refine my_item (v := .str "take" tb) (by k_asm) (by k_mem) (by decide) (by decide) rfl ?_
    k_steps
    exact hret' false _ y2 y3 y4 y5 _ _ y8 y9 y10 (by assumption) (by assumption)
theorem ne_two {i a j : Nat} (h0 : i ≠ a) (h1 : i ≠ a + 1) (hj : j < 2) : i ≠ a + j := by
  rcases j with _ | _ | j
  · exact h0
  · exact h1
  · exact absurd hj (Nat.not_lt.mpr (Nat.le_add_left 2 j))
theorem ne_g {a b j : Nat} (hj : j < 2) (h : Nat.ble (a + 2) b = true) : b ≠ a + j := Nat.ne_of_gt (lt_a hj h)
theorem or5 {i a b c d e : Nat} {P : Nat → Prop} (h : i = a ∨ i = b ∨ i = c ∨ i = d ∨ i = e) (ha : P a) (hb : P b) (hc : P c) (hd : P d) (he : P e) : P i := by
  rcases h with rfl | rfl | rfl | rfl | rfl <;> assumption
theorem led_ex : ∃ f : (Nat → Addr) → (Nat → Obj) → List (Addr × Obj) → List (Addr × Obj), ∀ ad ob pool, f ad ob pool = ((List.range 11).map fun i => (ad i, ob i)) ++ pool := ⟨fun ad ob pool => ((List.range 11).map fun i => (ad i, ob i)) ++ pool, fun _ _ _ => rfl⟩
noncomputable def led : (Nat → Addr) → (Nat → Obj) → List (Addr × Obj) → List (Addr × Obj) := Classical.choose led_ex
theorem led_eq {ad : Nat → Addr} {ob : Nat → Obj} {pool : List (Addr × Obj)} : led ad ob pool = ((List.range 11).map fun i => (ad i, ob i)) ++ pool := Classical.choose_spec led_ex ad ob pool
theorem led_cell {ad : Nat → Addr} {ob : Nat → Obj} {pool : List (Addr × Obj)} {i : Nat} (h : i < 11) : (ad i, ob i) ∈ led ad ob pool := led_eq ▸ List.mem_append_left _ (List.mem_map.mpr ⟨i, List.mem_range.mpr h, rfl⟩)
theorem led_pool {ad : Nat → Addr} {ob : Nat → Obj} {pool : List (Addr × Obj)} {p : Addr × Obj} (h : p ∈ pool) : p ∈ led ad ob pool := led_eq ▸ List.mem_append_right _ h
theorem led_cases {ad : Nat → Addr} {ob : Nat → Obj} {pool : List (Addr × Obj)} {p : Addr × Obj} (h : p ∈ led ad ob pool) : (∃ i, i < 11 ∧ p = (ad i, ob i)) ∨ p ∈ pool := by
  rw [led_eq] at h
  rcases List.mem_append.mp h with h | h
  · obtain ⟨i, hi, rfl⟩ := List.mem_map.mp h
    exact .inl ⟨i, List.mem_range.mp hi, rfl⟩
  · exact .inr h
structure CellsOk (ad : Nat → Addr) (pool : List (Addr × Obj)) : Prop where
  inj : ∀ i j, i < 11 → j < 11 → i ≠ j → ad i ≠ ad j
  off : ∀ p ∈ pool, ∀ i, i < 11 → p.1 ≠ ad i
def TOff (T : List (Addr × Obj)) (ad : Nat → Addr) (pool : List (Addr × Obj)) : Prop := ∀ p ∈ T, (∀ i, i < 11 → p.1 ≠ ad i) ∧ ∀ q ∈ pool, p.1 ≠ q.1
def upd {α : Type} (f : Nat → α) (i : Nat) (v : α) : Nat → α := fun j => if j = i then v else f j
theorem upd_at {α : Type} {f : Nat → α} {i : Nat} {v : α} : upd f i v i = v := by simp [upd]
theorem upd_ne {α : Type} {f : Nat → α} {i j : Nat} {v : α} (h : j ≠ i) : upd f i v j = f j := by simp [upd, h]
/-- two cells are opened for a call that turns them and lays the list of those who wait anew -/
theorem step2 {h₀ h : Heap} {L : Addr} {ad : Nat → Addr} {ob : Nat → Obj} {pool T : List (Addr × Obj)} (c1 c2 cw : Nat) (M : CellsOk ad pool) (N : News h₀ L h (T ++ led ad ob pool)) (hT : TOff T ad pool)
    (h1 : c1 < 11) (h2 : c2 < 11) (hw : cw < 11) (h12 : c1 ≠ c2) (h1w : cw ≠ c1) (h2w : cw ≠ c2) :
    ∃ rest, News h₀ L h ((ad c1, ob c1) :: (ad c2, ob c2) :: rest) ∧ OwnOff rest [ad c1, ad c2] ∧ @Ne Nat (ad c1) (ad c2) ∧ (∀ p ∈ T, p ∈ rest) ∧ (∀ i, i < 11 → i ≠ c1 → i ≠ c2 → (ad i, ob i) ∈ rest) ∧ (∀ p ∈ pool, p ∈ rest) ∧
      ∀ h' o1 o2 w₂ ow fresh, WNew (ad cw) w₂ (ad c1 :: ad c2 :: rest.map (·.1)) → OwnOff fresh (w₂ :: ad c1 :: ad c2 :: rest.map (·.1)) → News h₀ L h' ((ad c1, o1) :: (ad c2, o2) :: (w₂, ow) :: (fresh ++ rest)) →
        CellsOk (upd ad cw w₂) (fresh ++ pool) ∧ News h₀ L h' (T ++ led (upd ad cw w₂) (upd (upd (upd ob c1 o1) c2 o2) cw ow) (fresh ++ pool)) ∧ TOff T (upd ad cw w₂) (fresh ++ pool) := by
  have inT : ∀ p ∈ T, p ∈ T ++ ((((List.range 11).filter fun i => i != c1 && i != c2).map fun i => (ad i, ob i)) ++ pool) := fun p hp => List.mem_append_left _ hp
  have inC : ∀ i, i < 11 → i ≠ c1 → i ≠ c2 → (ad i, ob i) ∈ T ++ ((((List.range 11).filter fun i => i != c1 && i != c2).map fun i => (ad i, ob i)) ++ pool) := fun i hi n1 n2 =>
    List.mem_append_right _ (List.mem_append_left _ (List.mem_map.mpr ⟨i, List.mem_filter.mpr ⟨List.mem_range.mpr hi, by simp [n1, n2]⟩, rfl⟩))
  have inP : ∀ p ∈ pool, p ∈ T ++ ((((List.range 11).filter fun i => i != c1 && i != c2).map fun i => (ad i, ob i)) ++ pool) := fun p hp => List.mem_append_right _ (List.mem_append_right _ hp)
  have cs : ∀ p ∈ T ++ ((((List.range 11).filter fun i => i != c1 && i != c2).map fun i => (ad i, ob i)) ++ pool), p ∈ T ∨ (∃ i, i < 11 ∧ i ≠ c1 ∧ i ≠ c2 ∧ p = (ad i, ob i)) ∨ p ∈ pool := fun p hp => by
    rcases List.mem_append.mp hp with h | h
    · exact .inl h
    · rcases List.mem_append.mp h with h | h
      · obtain ⟨i, hi, rfl⟩ := List.mem_map.mp h
        obtain ⟨a, b⟩ := List.mem_filter.mp hi
        simp at b
        exact .inr (.inl ⟨i, List.mem_range.mp a, b.1, b.2, rfl⟩)
      · exact .inr (.inr h)
  have am : ∀ {p : Addr × Obj}, p ∈ T ++ ((((List.range 11).filter fun i => i != c1 && i != c2).map fun i => (ad i, ob i)) ++ pool) → p.1 ∈ ad c1 :: ad c2 :: (T ++ ((((List.range 11).filter fun i => i != c1 && i != c2).map fun i => (ad i, ob i)) ++ pool)).map (·.1) :=
    fun hp => .tail _ (.tail _ (List.mem_map.mpr ⟨_, hp, rfl⟩))
  have ac : ∀ i, i < 11 → ad i ∈ ad c1 :: ad c2 :: (T ++ ((((List.range 11).filter fun i => i != c1 && i != c2).map fun i => (ad i, ob i)) ++ pool)).map (·.1) := fun i hi => by
    by_cases e1 : i = c1
    · rw [e1]; exact .head _
    · by_cases e2 : i = c2
      · rw [e2]; exact .tail _ (.head _)
      · exact am (inC i hi e1 e2)
  refine ⟨T ++ ((((List.range 11).filter fun i => i != c1 && i != c2).map fun i => (ad i, ob i)) ++ pool), fun p hp => N p ?_, fun p hp b hb => ?_, M.inj _ _ h1 h2 h12, inT, inC, inP, ?_⟩
  · rcases List.mem_cons.mp hp with rfl | hp
    · exact List.mem_append_right _ (led_cell h1)
    · rcases List.mem_cons.mp hp with rfl | hp
      · exact List.mem_append_right _ (led_cell h2)
      · rcases cs p hp with h | ⟨i, hi, _, _, rfl⟩ | h
        · exact List.mem_append_left _ h
        · exact List.mem_append_right _ (led_cell hi)
        · exact List.mem_append_right _ (led_pool h)
  · have hb' : b = ad c1 ∨ b = ad c2 := by simpa using hb
    rcases cs p hp with h | ⟨i, hi, n1, n2, rfl⟩ | h
    · rcases hb' with rfl | rfl
      · exact (hT p h).1 _ h1
      · exact (hT p h).1 _ h2
    · rcases hb' with rfl | rfl
      · exact M.inj _ _ hi h1 n1
      · exact M.inj _ _ hi h2 n2
    · rcases hb' with rfl | rfl
      · exact M.off p h _ h1
      · exact M.off p h _ h2
  · intro h' o1 o2 w₂ ow fresh W O N'
    have adn : ∀ i, i < 11 → i ≠ cw → ad i ≠ w₂ := fun i hi hn => wnew_ne W (ac i hi) (M.inj _ _ hi hw hn)
    have pn : ∀ p ∈ pool, p.1 ≠ w₂ := fun p hp => wnew_ne W (am (inP p hp)) (M.off p hp _ hw)
    have tn : ∀ p ∈ T, p.1 ≠ w₂ := fun p hp => wnew_ne W (am (inT p hp)) ((hT p hp).1 _ hw)
    refine ⟨⟨fun i j hi hj hn => ?_, fun p hp i hi => ?_⟩, fun p hp => ?_, fun p hp => ⟨fun i hi => ?_, fun q hq => ?_⟩⟩
    · by_cases ei : i = cw
      · subst ei
        rw [upd_at, upd_ne (Ne.symm hn)]
        exact Ne.symm (adn j hj (Ne.symm hn))
      · rw [upd_ne ei]
        by_cases ej : j = cw
        · subst ej
          rw [upd_at]
          exact adn i hi ei
        · rw [upd_ne ej]
          exact M.inj i j hi hj hn
    · rcases List.mem_append.mp hp with hp | hp
      · by_cases ei : i = cw
        · subst ei
          rw [upd_at]
          exact O p hp _ (.head _)
        · rw [upd_ne ei]
          exact O p hp _ (.tail _ (ac i hi))
      · by_cases ei : i = cw
        · subst ei
          rw [upd_at]
          exact pn p hp
        · rw [upd_ne ei]
          exact M.off p hp i hi
    · rcases List.mem_append.mp hp with hp | hp
      · exact N' p (.tail _ (.tail _ (.tail _ (List.mem_append_right _ (inT p hp)))))
      · rcases led_cases hp with ⟨i, hi, rfl⟩ | hp
        · by_cases ew : i = cw
          · subst ew
            rw [upd_at, upd_at]
            exact N' _ (.tail _ (.tail _ (.head _)))
          · rw [upd_ne ew, upd_ne ew]
            by_cases e2 : i = c2
            · subst e2
              rw [upd_at]
              exact N' _ (.tail _ (.head _))
            · rw [upd_ne e2]
              by_cases e1 : i = c1
              · subst e1
                rw [upd_at]
                exact N' _ (.head _)
              · rw [upd_ne e1]
                exact N' _ (.tail _ (.tail _ (.tail _ (List.mem_append_right _ (inC i hi e1 e2)))))
        · rcases List.mem_append.mp hp with hp | hp
          · exact N' p (.tail _ (.tail _ (.tail _ (List.mem_append_left _ hp))))
          · exact N' p (.tail _ (.tail _ (.tail _ (List.mem_append_right _ (inP p hp)))))
    · by_cases ei : i = cw
      · subst ei
        rw [upd_at]
        exact tn p hp
      · rw [upd_ne ei]
        exact (hT p hp).1 i hi
    · rcases List.mem_append.mp hq with hq | hq
      · exact Ne.symm (O q hq _ (.tail _ (am (inT p hp))))
      · exact (hT p hp).2 q hq
/-- one cell is opened for a call that turns it -/
theorem step1 {h₀ h : Heap} {L : Addr} {ad : Nat → Addr} {ob : Nat → Obj} {pool T : List (Addr × Obj)} (c1 : Nat) (M : CellsOk ad pool) (N : News h₀ L h (T ++ led ad ob pool)) (hT : TOff T ad pool) (h1 : c1 < 11) :
    ∃ rest, News h₀ L h ((ad c1, ob c1) :: rest) ∧ OwnOff rest [ad c1] ∧ (∀ p ∈ T, p ∈ rest) ∧ (∀ i, i < 11 → i ≠ c1 → (ad i, ob i) ∈ rest) ∧ (∀ p ∈ pool, p ∈ rest) ∧
      ∀ (h₁ : Heap) (L₁ : Addr) h' o1 fresh, OwnOff fresh (ad c1 :: rest.map (·.1)) → News h₁ L₁ h' ((ad c1, o1) :: (fresh ++ rest)) →
        CellsOk ad (fresh ++ pool) ∧ News h₁ L₁ h' (T ++ led ad (upd ob c1 o1) (fresh ++ pool)) ∧ TOff T ad (fresh ++ pool) := by
  have inT : ∀ p ∈ T, p ∈ T ++ ((((List.range 11).filter fun i => i != c1).map fun i => (ad i, ob i)) ++ pool) := fun p hp => List.mem_append_left _ hp
  have inC : ∀ i, i < 11 → i ≠ c1 → (ad i, ob i) ∈ T ++ ((((List.range 11).filter fun i => i != c1).map fun i => (ad i, ob i)) ++ pool) := fun i hi n1 =>
    List.mem_append_right _ (List.mem_append_left _ (List.mem_map.mpr ⟨i, List.mem_filter.mpr ⟨List.mem_range.mpr hi, by simp [n1]⟩, rfl⟩))
  have inP : ∀ p ∈ pool, p ∈ T ++ ((((List.range 11).filter fun i => i != c1).map fun i => (ad i, ob i)) ++ pool) := fun p hp => List.mem_append_right _ (List.mem_append_right _ hp)
  have cs : ∀ p ∈ T ++ ((((List.range 11).filter fun i => i != c1).map fun i => (ad i, ob i)) ++ pool), p ∈ T ∨ (∃ i, i < 11 ∧ i ≠ c1 ∧ p = (ad i, ob i)) ∨ p ∈ pool := fun p hp => by
    rcases List.mem_append.mp hp with h | h
    · exact .inl h
    · rcases List.mem_append.mp h with h | h
      · obtain ⟨i, hi, rfl⟩ := List.mem_map.mp h
        obtain ⟨a, b⟩ := List.mem_filter.mp hi
        simp at b
        exact .inr (.inl ⟨i, List.mem_range.mp a, b, rfl⟩)
      · exact .inr (.inr h)
  have am : ∀ {p : Addr × Obj}, p ∈ T ++ ((((List.range 11).filter fun i => i != c1).map fun i => (ad i, ob i)) ++ pool) → p.1 ∈ ad c1 :: (T ++ ((((List.range 11).filter fun i => i != c1).map fun i => (ad i, ob i)) ++ pool)).map (·.1) :=
    fun hp => .tail _ (List.mem_map.mpr ⟨_, hp, rfl⟩)
  refine ⟨T ++ ((((List.range 11).filter fun i => i != c1).map fun i => (ad i, ob i)) ++ pool), fun p hp => N p ?_, fun p hp b hb => ?_, inT, inC, inP, ?_⟩
  · rcases List.mem_cons.mp hp with rfl | hp
    · exact List.mem_append_right _ (led_cell h1)
    · rcases cs p hp with h | ⟨i, hi, _, rfl⟩ | h
      · exact List.mem_append_left _ h
      · exact List.mem_append_right _ (led_cell hi)
      · exact List.mem_append_right _ (led_pool h)
  · rw [List.mem_singleton.mp hb]
    rcases cs p hp with h | ⟨i, hi, n1, rfl⟩ | h
    · exact (hT p h).1 _ h1
    · exact M.inj _ _ hi h1 n1
    · exact M.off p h _ h1
  · intro h₁ L₁ h' o1 fresh O N'
    have acc : ∀ i, i < 11 → ad i ∈ ad c1 :: (T ++ ((((List.range 11).filter fun i => i != c1).map fun i => (ad i, ob i)) ++ pool)).map (·.1) := fun i hi => by
      by_cases e1 : i = c1
      · rw [e1]; exact .head _
      · exact am (inC i hi e1)
    refine ⟨⟨M.inj, fun p hp i hi => ?_⟩, fun p hp => ?_, fun p hp => ⟨(hT p hp).1, fun q hq => ?_⟩⟩
    · rcases List.mem_append.mp hp with hp | hp
      · exact O p hp _ (acc i hi)
      · exact M.off p hp i hi
    · rcases List.mem_append.mp hp with hp | hp
      · exact N' p (.tail _ (List.mem_append_right _ (inT p hp)))
      · rcases led_cases hp with ⟨i, hi, rfl⟩ | hp
        · by_cases e1 : i = c1
          · subst e1
            rw [upd_at]
            exact N' _ (.head _)
          · rw [upd_ne e1]
            exact N' _ (.tail _ (List.mem_append_right _ (inC i hi e1)))
        · rcases List.mem_append.mp hp with hp | hp
          · exact N' p (.tail _ (List.mem_append_left _ hp))
          · exact N' p (.tail _ (List.mem_append_right _ (inP p hp)))
    · rcases List.mem_append.mp hq with hq | hq
      · exact Ne.symm (O q hq _ (am (inT p hp)))
      · exact (hT p hp).2 q hq
def findR (k : Bool) (n : Int) (R : List Row) : Option Row := R.find? (hits k n)
theorem findR_of {k : Bool} {n : Int} {rows : List LRow} : findR k n (rows.map (·.r)) = (rows.find? (fun l => hits k n l.r)).map (·.r) := by
  unfold findR
  rw [List.find?_map]; rfl
def mayR (k b : Bool) (hs : List Int) (room : Int) (R : List Row) (n : Int) : Bool :=
  b || (if k then decide ((hs.length : Int) < room) || (findR false n R).isSome else !decide (hs = []) || (findR true n R).isSome)
theorem mayR_of {k b : Bool} {hs : List Int} {room : Int} {rows : List LRow} {n : Int} : mayOf k b hs room rows n = mayR k b hs room (rows.map (·.r)) n := by
  simp only [mayOf, mayR, findR_of, Option.isSome_map]
structure OutR where
  res : PyData
  hs : List Int
  rows : List Row
def Out.toR (o : Out) : OutR := ⟨o.res, o.hs, o.rows.map (·.r)⟩
theorem filter_mapR {rows : List LRow} {g : Int} : (rows.filter fun l => l.r.g != g).map (·.r) = (rows.map (·.r)).filter fun r => r.g != g := by
  rw [List.filter_map]; rfl
def sendR (b : Bool) (hs : List Int) (R : List Row) (n v : Int) : OutR :=
  if b then ⟨resD (panicD "send on closed channel") [], hs, R⟩
  else match findR false n R with
    | none => ⟨resD sentD [], hs ++ [v], R⟩
    | some t => ⟨resD sentD [(t.g, t.c, recvD (.int v) true)], hs, R.filter fun r => r.g != t.g⟩
theorem sendR_of {b : Bool} {hs : List Int} {rows : List LRow} {n v : Int} : (sendF b hs rows n v).toR = sendR b hs (rows.map (·.r)) n v := by
  unfold sendF sendR
  rw [findR_of]
  cases b with
  | true => rfl
  | false =>
    simp only [Bool.false_eq_true, if_false]
    cases rows.find? (fun l => hits false n l.r) with
    | none => rfl
    | some t => simp only [Option.map_some, Out.toR, filter_mapR]
def takeR (hs : List Int) (R : List Row) (n : Int) : OutR :=
  match findR true n R with
  | none => match hs with
    | [] => ⟨resD (recvD .none false) [], [], R⟩
    | a :: r => ⟨resD (recvD (.int a) true) [], r, R⟩
  | some t => ⟨resD (recvD (.int ((hs ++ [t.v]).headD 0)) true) [(t.g, t.c, sentD)], (hs ++ [t.v]).tail, R.filter fun r => r.g != t.g⟩
theorem takeR_of {hs : List Int} {rows : List LRow} {n : Int} : (takeF hs rows n).toR = takeR hs (rows.map (·.r)) n := by
  unfold takeF takeR
  rw [findR_of]
  cases rows.find? (fun l => hits true n l.r) with
  | none => cases hs <;> rfl
  | some t => simp only [Option.map_some, Out.toR, filter_mapR]
def doneR (k b : Bool) (hs : List Int) (R : List Row) (n v : Int) : OutR := if k then sendR b hs R n v else takeR hs R n
theorem doneR_of {k b : Bool} {hs : List Int} {rows : List LRow} {n v : Int} : (doneF k b hs rows n v).toR = doneR k b hs (rows.map (·.r)) n v := by
  unfold doneF doneR
  cases k
  · exact takeR_of
  · exact sendR_of
def endR (k : Bool) (n : Int) : Nat → List Row → List Row × List Row
  | 0, R => (R, [])
  | f + 1, R => match findR k n R with
    | none => (R, [])
    | some t => ((endR k n f (R.filter fun r => r.g != t.g)).1, t :: (endR k n f (R.filter fun r => r.g != t.g)).2)
theorem endR_of {k : Bool} {n : Int} : ∀ (f : Nat) (rows : List LRow), ((endRec k n f rows).1.map (·.r), (endRec k n f rows).2.map (·.r)) = endR k n f (rows.map (·.r))
  | 0, rows => rfl
  | f + 1, rows => by
    cases hf : rows.find? (fun l => hits k n l.r) with
    | none => rw [endRec_none hf, endR, findR_of, hf]; rfl
    | some t =>
      rw [endRec_some hf, endR, findR_of, hf]
      have ih := endR_of f (rows.filter fun l => l.r.g != t.r.g) (k := k) (n := n)
      rw [filter_mapR] at ih
      simp only [Option.map_some, List.map_cons]
      rw [← ih]
def foundRD (told : PyData) (ts : List Row) : List PyData := ts.map fun t => .tuple [.int t.g, .int t.c, told]
theorem foundD_of {told : PyData} {ts : List LRow} : foundD told ts = foundRD told (ts.map (·.r)) := by simp [foundD, foundRD]
def closeR (b : Bool) (R : List Row) (n : Int) : PyData × List Row :=
  if b then (resD (panicD "close of closed channel") [], R)
  else (.tuple [.tuple [strD "done"], .list (foundRD (recvD .none false) (endR false n R.length R).2 ++ foundRD (panicD "send on closed channel") (endR true n (endR false n R.length R).1.length (endR false n R.length R).1).2)],
    (endR true n (endR false n R.length R).1.length (endR false n R.length R).1).1)
theorem closeR_of {b : Bool} {rows : List LRow} {n : Int} : ((closeF b rows n).1, (closeF b rows n).2.map (·.r)) = closeR b (rows.map (·.r)) n := by
  cases b with
  | true => rfl
  | false =>
    have e1 := endR_of rows.length rows (k := false) (n := n)
    have e2 := endR_of (endRec false n rows.length rows).1.length (endRec false n rows.length rows).1 (k := true) (n := n)
    have a1 := congrArg Prod.fst e1
    have a2 := congrArg Prod.snd e1
    have b1 := congrArg Prod.fst e2
    have b2 := congrArg Prod.snd e2
    simp only at a1 a2 b1 b2
    simp only [closeF, closeR, Bool.false_eq_true, if_false, foundD_of, a2, b1, b2, a1, List.length_map]
    rw [← a1]; simp
-- what is read is shaped
def Sh (n : Nat) (d : PyData) : Prop := d.canLay0 = true ∧ d.depth ≤ n
theorem canLayAll0_of : ∀ {xs : List PyData}, (∀ x ∈ xs, x.canLay0 = true) → PyData.canLayAll0 xs = true
  | [], _ => rfl
  | x :: r, h => by rw [PyData.canLayAll0, h x (.head _), canLayAll0_of fun y hy => h y (.tail _ hy)]; rfl
theorem depthAll_of {n : Nat} : ∀ {xs : List PyData}, (∀ x ∈ xs, x.depth ≤ n) → PyData.depthAll xs ≤ n
  | [], _ => by rw [PyData.depthAll]; exact Nat.zero_le _
  | x :: r, h => by rw [PyData.depthAll]; exact Nat.max_le.mpr ⟨h x (.head _), depthAll_of fun y hy => h y (.tail _ hy)⟩
theorem Sh.list {n : Nat} {xs : List PyData} (h : ∀ x ∈ xs, Sh n x) : Sh (n + 1) (.list xs) := by
  refine ⟨?_, ?_⟩
  · rw [PyData.canLay0]; exact canLayAll0_of fun x hx => (h x hx).1
  · rw [PyData.depth]; exact Nat.succ_le_succ (depthAll_of fun x hx => (h x hx).2)
theorem Sh.tuple {n : Nat} {xs : List PyData} (h : ∀ x ∈ xs, Sh n x) : Sh (n + 1) (.tuple xs) := by
  refine ⟨?_, ?_⟩
  · rw [PyData.canLay0]; exact canLayAll0_of fun x hx => (h x hx).1
  · rw [PyData.depth]; exact Nat.succ_le_succ (depthAll_of fun x hx => (h x hx).2)
theorem Sh.mono {n k : Nat} {d : PyData} (h : Sh n d) (hk : n ≤ k) : Sh k d := ⟨h.1, Nat.le_trans h.2 hk⟩
theorem Sh.int {n : Nat} {i : Int} : Sh n (.int i) := ⟨by rw [PyData.canLay0], by rw [PyData.depth]; exact Nat.zero_le _⟩
theorem Sh.bool {n : Nat} {b : Bool} : Sh n (.bool b) := ⟨by rw [PyData.canLay0], by rw [PyData.depth]; exact Nat.zero_le _⟩
theorem Sh.none {n : Nat} : Sh n .none := ⟨by rw [PyData.canLay0], by rw [PyData.depth]; exact Nat.zero_le _⟩
theorem Sh.strs {n : Nat} {x : Str} (h : PyData.strOk x = true) : Sh n (.str x) := ⟨by rw [PyData.canLay0]; exact h, by rw [PyData.depth]; exact Nat.zero_le _⟩
theorem Sh.nil {n : Nat} : ∀ x ∈ ([] : List PyData), Sh n x := fun _ h => nomatch h
theorem Sh.cons {n : Nat} {d : PyData} {ds : List PyData} (h : Sh n d) (hs : ∀ x ∈ ds, Sh n x) : ∀ x ∈ d :: ds, Sh n x := fun x hx => by
  rcases List.mem_cons.mp hx with rfl | hx
  · exact h
  · exact hs x hx
theorem Sh.shaped {n : Nat} {d : PyData} (h : Sh n d) (hn : n ≤ 64) : SeqAt.shaped d = true := by
  unfold SeqAt.shaped
  rw [h.1, Bool.true_and]
  exact decide_eq_true (Nat.le_trans h.2 hn)
theorem sh_recv {v : PyData} {b : Bool} (h : Sh 0 v) : Sh 1 (recvD v b) := Sh.tuple (Sh.cons (Sh.strs (by decide +kernel)) (Sh.cons h (Sh.cons Sh.bool Sh.nil)))
theorem sh_sent : Sh 1 sentD := Sh.tuple (Sh.cons (Sh.strs (by decide +kernel)) Sh.nil)
theorem sh_panic1 : Sh 1 (panicD "send on closed channel") := Sh.tuple (Sh.cons (Sh.strs (by decide +kernel)) (Sh.cons (Sh.strs (by decide +kernel)) Sh.nil))
theorem sh_panic2 : Sh 1 (panicD "close of closed channel") := Sh.tuple (Sh.cons (Sh.strs (by decide +kernel)) (Sh.cons (Sh.strs (by decide +kernel)) Sh.nil))
theorem sh_res {res : PyData} {wk : List (Int × Int × PyData)} (h : Sh 1 res) (hw : ∀ q ∈ wk, Sh 1 q.2.2) : Sh 4 (resD res wk) := by
  refine Sh.tuple (Sh.cons (h.mono (by kln_le)) (Sh.cons (Sh.list fun x hx => ?_) Sh.nil))
  obtain ⟨q, hq, rfl⟩ := List.mem_map.mp hx
  exact Sh.tuple (Sh.cons Sh.int (Sh.cons Sh.int (Sh.cons (hw q hq) Sh.nil)))
theorem sh_found {told : PyData} {ts : List Row} (h : Sh 1 told) : ∀ x ∈ foundRD told ts, Sh 2 x := fun x hx => by
  obtain ⟨q, hq, rfl⟩ := List.mem_map.mp hx
  exact Sh.tuple (Sh.cons Sh.int (Sh.cons Sh.int (Sh.cons h Sh.nil)))
theorem sh_done {k b : Bool} {hs : List Int} {R : List Row} {n v : Int} : Sh 4 (doneR k b hs R n v).res := by
  unfold doneR
  cases k
  · simp only [Bool.false_eq_true, if_false]
    unfold takeR
    cases findR true n R with
    | none => cases hs with
      | nil => exact sh_res (sh_recv Sh.none) (fun _ h => nomatch h)
      | cons a r => exact sh_res (sh_recv Sh.int) (fun _ h => nomatch h)
    | some t => exact sh_res (sh_recv Sh.int) (fun q h => by rw [List.mem_singleton.mp h]; exact sh_sent)
  · simp only [if_true]
    unfold sendR
    cases b
    · simp only [Bool.false_eq_true, if_false]
      cases findR false n R with
      | none => exact sh_res sh_sent (fun _ h => nomatch h)
      | some t => exact sh_res sh_sent (fun q h => by rw [List.mem_singleton.mp h]; exact sh_recv Sh.int)
    · exact sh_res sh_panic1 (fun _ h => nomatch h)
theorem sh_close {b : Bool} {R : List Row} {n : Int} : Sh 4 (closeR b R n).1 := by
  unfold closeR
  cases b
  · simp only [Bool.false_eq_true, if_false]
    refine Sh.tuple (Sh.cons (Sh.tuple (Sh.cons (Sh.strs (by decide +kernel)) Sh.nil)) (Sh.cons (Sh.list fun x hx => ?_) Sh.nil))
    rcases List.mem_append.mp hx with h | h
    · exact sh_found (sh_recv Sh.none) x h
    · exact sh_found sh_panic1 x h
  · exact sh_res sh_panic2 (fun _ h => nomatch h)
theorem eq_same {prog : Program} {w : World} {A : Around} {E : Value → Shared → Prop} {s : Shared} {h₀ : Heap} {L : Addr} {news : List (Addr × Obj)} {a b : Value} {d : PyData} {n : Nat} {Q : Value → Shared → Prop} (N : News h₀ L s.heap news) (ha : Bears news a d) (hb : Bears news b d) (hs : Sh n d) (hn : n ≤ 64) (hu : A.units + 64 < cLine)
    (h : Q (.bool true) s) : wpAny (model prog w) A (compareOp .Eq a b) Q E s := by
  obtain ⟨_, ra⟩ := ha _ _ _ N
  obtain ⟨_, rb⟩ := hb _ _ _ N
  refine eq_dataH ra rb (hs.shaped hn) (hs.shaped hn) hu ?_
  rw [SeqAt.eqv_refl d hs.1]; exact h
theorem ne_same {prog : Program} {w : World} {A : Around} {E : Value → Shared → Prop} {s : Shared} {h₀ : Heap} {L : Addr} {news : List (Addr × Obj)} {a b : Value} {d : PyData} {n : Nat} {Q : Value → Shared → Prop} (N : News h₀ L s.heap news) (ha : Bears news a d) (hb : Bears news b d) (hs : Sh n d) (hn : n ≤ 64) (hu : A.units + 64 < cLine)
    (h : Q (.bool false) s) : wpAny (model prog w) A (compareOp .NotEq a b) Q E s := by
  obtain ⟨_, ra⟩ := ha _ _ _ N
  obtain ⟨_, rb⟩ := hb _ _ _ N
  refine ne_dataH ra rb (hs.shaped hn) (hs.shaped hn) hu ?_
  rw [SeqAt.eqv_refl d hs.1]; exact h
/-- what never turns: addresses, tokens, the rooms -/
structure Sta where
  x : Addr
  chl : Addr
  c : Nat → Addr
  bk : Addr
  br : Addr
  bh : Addr
  ct : ChTok
  ot : Nat → OneTok
  room : Nat → Int
  rt : Nat → Tok
  rb : Nat → Tok
  n1 : Nat
  n2 : Nat
  n3 : Nat
structure RepC (st : Sta) (ad : Nat → Addr) (ob : Nat → Obj) (pool : List (Addr × Obj)) (b : Nat → Bool) (hs : Nat → List Int) (rows : List LRow) : Prop where
  x : (st.x, instObj 155 (ad 0)) ∈ pool
  chl : (st.chl, listOf [Value.ref (st.c 0), Value.ref (st.c 1)].toArray st.n1) ∈ pool
  c : ∀ k, k < 2 → (st.c k, instObj 38 (ad (5 + k))) ∈ pool
  rin : RowsIn rows pool
  dx : ob 0 = chDict st.ct st.chl (ad 1)
  w : ∃ nw, ob 1 = listOf (refsOf rows).toArray nw
  d : ∀ k, k < 2 → ob (5 + k) = oneDict (st.ot k) (st.room k) (st.rt k) (ad (7 + k)) (b k)
  l : ∀ k, k < 2 → ∃ vs n, ob (7 + k) = listOf vs.toArray n ∧ IntsAre vs (hs k)
structure RepB (prog : Program) (w : World) (st : Sta) (ad : Nat → Addr) (ob : Nat → Obj) (pool : List (Addr × Obj)) (b : Nat → Bool) (hs : Nat → List Int) (rows : List LRow) : Prop where
  br : (st.br, listOf [Value.int (st.room 0) (st.rb 0), Value.int (st.room 1) (st.rb 1)].toArray st.n2) ∈ pool
  bh : (st.bh, listOf [Value.ref (ad 9), Value.ref (ad 10)].toArray st.n3) ∈ pool
  rin : RowsIn rows pool
  bkA : ad 2 = st.bk
  bk : (ob 2).IsDictOf (strKind prog w) (bkKvs st.br st.bh (ad 3) (ad 4))
  bc : ∃ n, ob 3 = listOf [Value.bool (b 0), Value.bool (b 1)].toArray n
  v : ∃ n, ob 4 = listOf (refsOf rows).toArray n
  m : ∀ k, k < 2 → ∃ vs n, ob (9 + k) = listOf vs.toArray n ∧ IntsAre vs (hs k)
theorem RowsIn.mono {rows : List LRow} {a b : List (Addr × Obj)} (h : RowsIn rows a) (hs : ∀ p ∈ a, p ∈ b) : RowsIn rows b := fun l hl => hs _ (h l hl)
theorem RepC.keep {st : Sta} {ad ad' : Nat → Addr} {ob ob' : Nat → Obj} {pool pool' : List (Addr × Obj)} {b : Nat → Bool} {hs : Nat → List Int} {rows : List LRow} (R : RepC st ad ob pool b hs rows)
    (ha : ∀ i, i ≠ 2 → i ≠ 3 → i ≠ 4 → i ≠ 9 → i ≠ 10 → ad' i = ad i ∧ ob' i = ob i) (hp : ∀ p ∈ pool, p ∈ pool') : RepC st ad' ob' pool' b hs rows := by
  have a0 := ha 0 (by kln_le) (by kln_le) (by kln_le) (by kln_le) (by kln_le)
  have a1 := ha 1 (by kln_le) (by kln_le) (by kln_le) (by kln_le) (by kln_le)
  refine ⟨?_, hp _ R.chl, fun k hk => ?_, R.rin.mono hp, ?_, ?_, fun k hk => ?_, fun k hk => ?_⟩
  · rw [a0.1]; exact hp _ R.x
  · rw [(ha (5 + k) (by kln_le) (by kln_le) (by kln_le) (by kln_le) (by kln_le)).1]; exact hp _ (R.c k hk)
  · rw [a0.2, a1.1]; exact R.dx
  · rw [a1.2]; exact R.w
  · rw [(ha (5 + k) (by kln_le) (by kln_le) (by kln_le) (by kln_le) (by kln_le)).2, (ha (7 + k) (by kln_le) (by kln_le) (by kln_le) (by kln_le) (by kln_le)).1]; exact R.d k hk
  · rw [(ha (7 + k) (by kln_le) (by kln_le) (by kln_le) (by kln_le) (by kln_le)).2]; exact R.l k hk
theorem RepB.keep {prog : Program} {w : World} {st : Sta} {ad ad' : Nat → Addr} {ob ob' : Nat → Obj} {pool pool' : List (Addr × Obj)} {b : Nat → Bool} {hs : Nat → List Int} {rows : List LRow} (R : RepB prog w st ad ob pool b hs rows)
    (ha : ∀ i, i = 2 ∨ i = 3 ∨ i = 4 ∨ i = 9 ∨ i = 10 → ad' i = ad i ∧ ob' i = ob i) (hp : ∀ p ∈ pool, p ∈ pool') : RepB prog w st ad' ob' pool' b hs rows := by
  have a2 := ha 2 (by kln_le)
  have a3 := ha 3 (by kln_le)
  have a4 := ha 4 (by kln_le)
  have a9 := ha 9 (by kln_le)
  have a10 := ha 10 (by kln_le)
  refine ⟨hp _ R.br, ?_, R.rin.mono hp, ?_, ?_, ?_, ?_, fun k hk => ?_⟩
  · rw [a9.1, a10.1]; exact hp _ R.bh
  · rw [a2.1]; exact R.bkA
  · rw [a2.2, a3.1, a4.1]; exact R.bk
  · rw [a3.2]; exact R.bc
  · rw [a4.2]; exact R.v
  · have : 9 + k = 9 ∨ 9 + k = 10 := by omega
    rw [(ha (9 + k) (by kln_le)).2]; exact R.m k hk
theorem led_at {ad : Nat → Addr} {ob : Nat → Obj} {pool : List (Addr × Obj)} {i : Nat} {o : Obj} (e : ob i = o) (h : i < 11) : (ad i, o) ∈ led ad ob pool := e ▸ led_cell h
theorem two_ref {f : Nat → Addr} {n : Int} (n0 : 0 ≤ n) (n2 : n < 2) : [Value.ref (f 0), Value.ref (f 1)][n.toNat]? = some (.ref (f n.toNat)) := by
  have : n = 0 ∨ n = 1 := by omega
  rcases this with rfl | rfl <;> rfl
theorem two_int {f : Nat → Int} {t : Nat → Tok} {n : Int} (n0 : 0 ≤ n) (n2 : n < 2) : [Value.int (f 0) (t 0), Value.int (f 1) (t 1)][n.toNat]? = some (.int (f n.toNat) (t n.toNat)) := by
  have : n = 0 ∨ n = 1 := by omega
  rcases this with rfl | rfl <;> rfl
theorem two_bool {f : Nat → Bool} {n : Int} (n0 : 0 ≤ n) (n2 : n < 2) : [Value.bool (f 0), Value.bool (f 1)][n.toNat]? = some (.bool (f n.toNat)) := by
  have : n = 0 ∨ n = 1 := by omega
  rcases this with rfl | rfl <;> rfl
theorem maysend_D {prog : Program} {w : World} {p : Program} {loose : List Str} {mean : ExcName → Option Value} {mg mb : Str → Option Value}
  {dp un : Nat} {gd : Option (List Code)} {cn : Str} {cs : Scope} {a : Addr} {ccd : Value} {cl : List (Str × Addr)} {outer : List Env} {A₀ : Around} {base h₀ : Heap} {L : Addr} {m : Str → Option Value} {s : Shared} {Q E : Value → Shared → Prop}
  {news : List (Addr × Obj)} {st : Sta} {ad : Nat → Addr} {ob : Nat → Obj} {pool : List (Addr × Obj)} {b : Nat → Bool} {hs : Nat → List Int} {rows : List LRow} {R : List Row} {n : Int} {tn : Tok}
  (B : Below A₀ base outer h₀) (F : Fr h₀ L s.heap m) (X : (Mine.hd.heap_39 w.params).In h₀) (T : Top p loose mean mg mb h₀) (hk : cs.kind = .function) (hdp : dp + 20 < recursionLimit) (hun : un + 160 < cLine) (N : News h₀ L s.heap news) (hΛ : ∀ p ∈ led ad ob pool, p ∈ news) (RC : RepC st ad ob pool b hs rows) (hR : rows.map (·.r) = R)
  (n0 : 0 ≤ n) (n2 : n < 2) (hlen : ∀ k, k < 2 → (hs k).length ≤ 400)
  (hret : ∀ h' tk', Fr h₀ L h' m → News h₀ L h' news → Q (.bool (mayR true (b n.toNat) (hs n.toNat) (st.room n.toNat) R n)) { s with heap := h', toks := tk' }) :
  wpAny (model prog w) (ktrTop dp un gd cn cs L a ccd cl outer) (call (.ref 96) [.ref st.x, .int n tn]) Q E s := by
  have hj : n.toNat < 2 := by omega
  obtain ⟨nw, ew⟩ := RC.w
  obtain ⟨vs, nl, el, hi⟩ := RC.l _ hj
  refine maysend_rule B F X T hk hdp hun N (hΛ _ (led_pool RC.x)) (hΛ _ (led_at RC.dx (by kln_le))) (hΛ _ (led_pool RC.chl)) (hΛ _ (led_at ew (by kln_le))) (RC.rin.mono fun p hp => hΛ p (led_pool hp))
    n0 (by kln_le) (two_ref n0 n2) (hΛ _ (led_pool (RC.c _ hj))) (hΛ _ (led_at (RC.d _ hj) (by kln_le))) (hΛ _ (led_at el (by kln_le))) hi (Nat.le_trans (hlen _ hj) (by kln_le)) fun h' tk' F' N' => ?_
  refine q_bool (hret h' tk' F' N') ?_
  rw [← hR, ← mayR_of]; rfl
theorem maytake_D {prog : Program} {w : World} {p : Program} {loose : List Str} {mean : ExcName → Option Value} {mg mb : Str → Option Value}
  {dp un : Nat} {gd : Option (List Code)} {cn : Str} {cs : Scope} {a : Addr} {ccd : Value} {cl : List (Str × Addr)} {outer : List Env} {A₀ : Around} {base h₀ : Heap} {L : Addr} {m : Str → Option Value} {s : Shared} {Q E : Value → Shared → Prop}
  {news : List (Addr × Obj)} {st : Sta} {ad : Nat → Addr} {ob : Nat → Obj} {pool : List (Addr × Obj)} {b : Nat → Bool} {hs : Nat → List Int} {rows : List LRow} {R : List Row} {n : Int} {tn : Tok}
  (B : Below A₀ base outer h₀) (F : Fr h₀ L s.heap m) (X : (Mine.hd.heap_39 w.params).In h₀) (T : Top p loose mean mg mb h₀) (hk : cs.kind = .function) (hdp : dp + 20 < recursionLimit) (hun : un + 260 < cLine) (N : News h₀ L s.heap news) (hΛ : ∀ p ∈ led ad ob pool, p ∈ news) (RC : RepC st ad ob pool b hs rows) (hR : rows.map (·.r) = R)
  (n0 : 0 ≤ n) (n2 : n < 2) (hlen : ∀ k, k < 2 → (hs k).length ≤ 400)
  (hret : ∀ h' tk', Fr h₀ L h' m → News h₀ L h' news → Q (.bool (mayR false (b n.toNat) (hs n.toNat) (st.room n.toNat) R n)) { s with heap := h', toks := tk' }) :
  wpAny (model prog w) (ktrTop dp un gd cn cs L a ccd cl outer) (call (.ref 103) [.ref st.x, .int n tn]) Q E s := by
  have hj : n.toNat < 2 := by omega
  obtain ⟨nw, ew⟩ := RC.w
  obtain ⟨vs, nl, el, hi⟩ := RC.l _ hj
  refine maytake_rule B F X T hk hdp hun N (hΛ _ (led_pool RC.x)) (hΛ _ (led_at RC.dx (by kln_le))) (hΛ _ (led_pool RC.chl)) (hΛ _ (led_at ew (by kln_le))) (RC.rin.mono fun p hp => hΛ p (led_pool hp))
    n0 (by kln_le) (two_ref n0 n2) (hΛ _ (led_pool (RC.c _ hj))) (hΛ _ (led_at (RC.d _ hj) (by kln_le))) (hΛ _ (led_at el (by kln_le))) hi (Nat.le_trans (hlen _ hj) (by kln_le)) fun h' tk' F' N' => ?_
  refine q_bool (hret h' tk' F' N') ?_
  rw [← hR, ← mayR_of]; rfl
theorem maydo_D {prog : Program} {w : World} {p : Program} {loose : List Str} {mean : ExcName → Option Value} {mg mb : Str → Option Value}
  {dp un : Nat} {gd : Option (List Code)} {cn : Str} {cs : Scope} {a : Addr} {ccd : Value} {cl : List (Str × Addr)} {outer : List Env} {A₀ : Around} {base h₀ : Heap} {L : Addr} {m : Str → Option Value} {s : Shared} {Q E : Value → Shared → Prop}
  {news : List (Addr × Obj)} {st : Sta} {ad : Nat → Addr} {ob : Nat → Obj} {pool : List (Addr × Obj)} {b : Nat → Bool} {hs : Nat → List Int} {rows : List LRow} {R : List Row} {k : Bool} {n : Int} {tk tn : Tok}
  (B : Below A₀ base outer h₀) (F : Fr h₀ L s.heap m) (X : (Mine.hd.heap_39 w.params).In h₀) (T : Top p loose mean mg mb h₀) (hk : cs.kind = .function) (hdp : dp + 30 < recursionLimit) (hun : un + 460 < cLine) (N : News h₀ L s.heap news) (hΛ : ∀ p ∈ led ad ob pool, p ∈ news) (RC : RepC st ad ob pool b hs rows) (hR : rows.map (·.r) = R)
  (n0 : 0 ≤ n) (n2 : n < 2) (hlen : ∀ k, k < 2 → (hs k).length ≤ 400)
  (hret : ∀ h' tk', Fr h₀ L h' m → News h₀ L h' news → Q (.bool (mayR k (b n.toNat) (hs n.toNat) (st.room n.toNat) R n)) { s with heap := h', toks := tk' }) :
  wpAny (model prog w) (ktrTop dp un gd cn cs L a ccd cl outer) (call (.ref 110) [.ref st.x, .str (kStr k) tk, .int n tn]) Q E s := by
  have hj : n.toNat < 2 := by omega
  obtain ⟨nw, ew⟩ := RC.w
  obtain ⟨vs, nl, el, hi⟩ := RC.l _ hj
  refine maydo_rule B F X T hk hdp hun N (hΛ _ (led_pool RC.x)) (hΛ _ (led_at RC.dx (by kln_le))) (hΛ _ (led_pool RC.chl)) (hΛ _ (led_at ew (by kln_le))) (RC.rin.mono fun p hp => hΛ p (led_pool hp))
    n0 (by kln_le) (two_ref n0 n2) (hΛ _ (led_pool (RC.c _ hj))) (hΛ _ (led_at (RC.d _ hj) (by kln_le))) (hΛ _ (led_at el (by kln_le))) hi (Nat.le_trans (hlen _ hj) (by kln_le)) fun h' tk' F' N' => ?_
  refine q_bool (hret h' tk' F' N') ?_
  rw [← hR, ← mayR_of]
theorem maydo_none_D {prog : Program} {w : World} {p : Program} {loose : List Str} {mean : ExcName → Option Value} {mg mb : Str → Option Value}
  {dp un : Nat} {gd : Option (List Code)} {cn : Str} {cs : Scope} {a : Addr} {ccd : Value} {cl : List (Str × Addr)} {outer : List Env} {A₀ : Around} {base h₀ : Heap} {L : Addr} {m : Str → Option Value} {s : Shared} {Q E : Value → Shared → Prop}
  {news : List (Addr × Obj)} {st : Sta} {ad : Nat → Addr} {ob : Nat → Obj} {pool : List (Addr × Obj)} {b : Nat → Bool} {hs : Nat → List Int} {rows : List LRow} {k : Bool} {tk : Tok}
  (B : Below A₀ base outer h₀) (F : Fr h₀ L s.heap m) (X : (Mine.hd.heap_39 w.params).In h₀) (T : Top p loose mean mg mb h₀) (hk : cs.kind = .function) (hdp : dp + 30 < recursionLimit) (hun : un + 460 < cLine) (N : News h₀ L s.heap news) (hΛ : ∀ p ∈ led ad ob pool, p ∈ news) (RC : RepC st ad ob pool b hs rows)
  (hret : ∀ h' tk', Fr h₀ L h' m → News h₀ L h' news → Q (.bool false) { s with heap := h', toks := tk' }) :
  wpAny (model prog w) (ktrTop dp un gd cn cs L a ccd cl outer) (call (.ref 110) [.ref st.x, .str (kStr k) tk, .none]) Q E s :=
  maydo_none B F X T hk hdp hun N (hΛ _ (led_pool RC.x)) (hΛ _ (led_at RC.dx (by kln_le))) hret (od := chDict st.ct st.chl (ad 1))
theorem lawmay_D {prog : Program} {w : World} {p : Program} {loose : List Str} {mean : ExcName → Option Value} {mg mb : Str → Option Value}
  {dp un : Nat} {gd : Option (List Code)} {cn : Str} {cs : Scope} {a : Addr} {ccd : Value} {cl : List (Str × Addr)} {outer : List Env} {A₀ : Around} {base h₀ : Heap} {L : Addr} {m : Str → Option Value} {s : Shared} {Q E : Value → Shared → Prop}
  {news : List (Addr × Obj)} {st : Sta} {ad : Nat → Addr} {ob : Nat → Obj} {pool : List (Addr × Obj)} {b : Nat → Bool} {hs : Nat → List Int} {rows : List LRow} {R : List Row} {k : Bool} {n : Int} {tk tn : Tok}
  (B : Below A₀ base outer h₀) (F : Fr h₀ L s.heap m) (X : (Mine.hd.heap_39 w.params).In h₀) (T : Top p loose mean mg mb h₀) (hk : cs.kind = .function) (hdp : dp + 20 < recursionLimit) (hun : un + 260 < cLine) (N : News h₀ L s.heap news) (hΛ : ∀ p ∈ led ad ob pool, p ∈ news) (RB : RepB prog w st ad ob pool b hs rows) (hR : rows.map (·.r) = R)
  (n0 : 0 ≤ n) (n2 : n < 2) (hlen : ∀ k, k < 2 → (hs k).length ≤ 400)
  (hret : ∀ h' tk', Fr h₀ L h' m → News h₀ L h' news → Q (.bool (mayR k (b n.toNat) (hs n.toNat) (st.room n.toNat) R n)) { s with heap := h', toks := tk' }) :
  wpAny (model prog w) (ktrTop dp un gd cn cs L a ccd cl outer) (call (.ref 328) [.ref st.bk, .str (kStr k) tk, .int n tn]) Q E s := by
  have hj : n.toNat < 2 := by omega
  rw [← RB.bkA]
  obtain ⟨nv, ev⟩ := RB.v
  obtain ⟨nc, ec⟩ := RB.bc
  obtain ⟨vs, nl, el, hi⟩ := RB.m _ hj
  refine lawmay_rule B F X T hk hdp hun N (hΛ _ (led_cell (i := 2) (by kln_le))) RB.bk (hΛ _ (led_at ev (by kln_le))) (RB.rin.mono fun p hp => hΛ p (led_pool hp))
    n0 (by kln_le) (hΛ _ (led_at ec (by kln_le))) (two_bool n0 n2) (hΛ _ (led_pool RB.bh)) (two_ref (f := fun k => ad (9 + k)) n0 n2) (hΛ _ (led_pool RB.br)) (two_int n0 n2)
    (hΛ _ (led_at el (by kln_le))) hi (Nat.le_trans (hlen _ hj) (by kln_le)) fun h' tk' F' N' => ?_
  refine q_bool (hret h' tk' F' N') ?_
  rw [← hR, ← mayR_of]
theorem RepC.step {st : Sta} {ad : Nat → Addr} {ob ob' : Nat → Obj} {pool pool' : List (Addr × Obj)} {b b' : Nat → Bool} {hs hs' : Nat → List Int} {rows rows' : List LRow} {w₂ : Addr} (R : RepC st ad ob pool b hs rows)
    (hp : ∀ p ∈ pool, p ∈ pool') (hr : RowsIn rows' pool') (h0 : ob' 0 = chDict st.ct st.chl w₂) (h1 : ∃ nw, ob' 1 = listOf (refsOf rows').toArray nw)
    (hd : ∀ k, k < 2 → ob' (5 + k) = oneDict (st.ot k) (st.room k) (st.rt k) (ad (7 + k)) (b' k)) (hl : ∀ k, k < 2 → ∃ vs n, ob' (7 + k) = listOf vs.toArray n ∧ IntsAre vs (hs' k)) : RepC st (upd ad 1 w₂) ob' pool' b' hs' rows' := by
  refine ⟨?_, hp _ R.chl, fun k hk => ?_, hr, ?_, h1, fun k hk => ?_, hl⟩
  · rw [upd_ne (by kln_le)]; exact hp _ R.x
  · rw [upd_ne (by kln_le)]; exact hp _ (R.c k hk)
  · rw [upd_at]; exact h0
  · rw [upd_ne (by kln_le)]; exact hd k hk
theorem RepC.done {st : Sta} {ad : Nat → Addr} {ob : Nat → Obj} {pool fresh : List (Addr × Obj)} {b : Nat → Bool} {hs : Nat → List Int} {rows rows' : List LRow} {w₂ : Addr} {j nl nw : Nat} {vs : List Value} {hs' : List Int} (R : RepC st ad ob pool b hs rows)
    (hj : j < 2) (hi : IntsAre vs hs') (hsub : ∀ l ∈ rows', l ∈ rows) :
    RepC st (upd ad 1 w₂) (upd (upd (upd ob 0 (chDict st.ct st.chl w₂)) (7 + j) (listOf vs.toArray nl)) 1 (listOf (refsOf rows').toArray nw)) (fresh ++ pool) b (upd hs j hs') rows' := by
  refine R.step (fun p hp => List.mem_append_right _ hp) (fun l hl => List.mem_append_right _ (R.rin l (hsub l hl))) ?_ ⟨nw, upd_at⟩ (fun k hk => ?_) fun k hk => ?_
  · rw [upd_ne (by kln_le), upd_ne (by kln_le), upd_at]
  · rw [upd_ne (by kln_le), upd_ne (by kln_le), upd_ne (by kln_le)]; exact R.d k hk
  · by_cases e : k = j
    · subst e
      rw [upd_ne (by kln_le), upd_at, upd_at]
      exact ⟨_, _, rfl, hi⟩
    · rw [upd_ne (by kln_le), upd_ne (by kln_le), upd_ne (by kln_le), upd_ne e]
      exact R.l k hk
theorem RepC.closed {st : Sta} {ad : Nat → Addr} {ob : Nat → Obj} {pool fresh : List (Addr × Obj)} {b : Nat → Bool} {hs : Nat → List Int} {rows rows' : List LRow} {w₂ : Addr} {j nw : Nat} (R : RepC st ad ob pool b hs rows)
    (hj : j < 2) (hsub : ∀ l ∈ rows', l ∈ rows) :
    RepC st (upd ad 1 w₂) (upd (upd (upd ob 0 (chDict st.ct st.chl w₂)) (5 + j) (oneDict (st.ot j) (st.room j) (st.rt j) (ad (7 + j)) true)) 1 (listOf (refsOf rows').toArray nw)) (fresh ++ pool) (upd b j true) hs rows' := by
  refine R.step (fun p hp => List.mem_append_right _ hp) (fun l hl => List.mem_append_right _ (R.rin l (hsub l hl))) ?_ ⟨nw, upd_at⟩ (fun k hk => ?_) fun k hk => ?_
  · rw [upd_ne (by kln_le), upd_ne (by kln_le), upd_at]
  · by_cases e : k = j
    · subst e
      rw [upd_ne (by kln_le), upd_at, upd_at]
    · rw [upd_ne (by kln_le), upd_ne (by kln_le), upd_ne (by kln_le), upd_ne e]
      exact R.d k hk
  · rw [upd_ne (by kln_le), upd_ne (by kln_le), upd_ne (by kln_le)]; exact R.l k hk
theorem RepC.waited {st : Sta} {ad : Nat → Addr} {ob : Nat → Obj} {pool fresh : List (Addr × Obj)} {b : Nat → Bool} {hs : Nat → List Int} {rows new : List LRow} {nw : Nat} (R : RepC st ad ob pool b hs rows) (hn : RowsIn new fresh) :
    RepC st ad (upd ob 1 (listOf (refsOf (rows ++ new)).toArray nw)) (fresh ++ pool) b hs (rows ++ new) := by
  refine ⟨List.mem_append_right _ R.x, List.mem_append_right _ R.chl, fun k hk => List.mem_append_right _ (R.c k hk), fun l hl => ?_, ?_, ⟨nw, upd_at⟩, fun k hk => ?_, fun k hk => ?_⟩
  · rcases List.mem_append.mp hl with h | h
    · exact List.mem_append_right _ (R.rin l h)
    · exact List.mem_append_left _ (hn l h)
  · rw [upd_ne (by kln_le)]; exact R.dx
  · rw [upd_ne (by kln_le)]; exact R.d k hk
  · rw [upd_ne (by kln_le)]; exact R.l k hk
theorem RepB.step {prog : Program} {w : World} {st : Sta} {ad : Nat → Addr} {ob ob' : Nat → Obj} {pool pool' : List (Addr × Obj)} {b b' : Nat → Bool} {hs hs' : Nat → List Int} {rows rows' : List LRow} {w₂ : Addr} (R : RepB prog w st ad ob pool b hs rows)
    (hp : ∀ p ∈ pool, p ∈ pool') (hr : RowsIn rows' pool') (h2 : (ob' 2).IsDictOf (strKind prog w) (bkKvs st.br st.bh (ad 3) w₂)) (h4 : ∃ n, ob' 4 = listOf (refsOf rows').toArray n)
    (h3 : ∃ n, ob' 3 = listOf [Value.bool (b' 0), Value.bool (b' 1)].toArray n) (hm : ∀ k, k < 2 → ∃ vs n, ob' (9 + k) = listOf vs.toArray n ∧ IntsAre vs (hs' k)) : RepB prog w st (upd ad 4 w₂) ob' pool' b' hs' rows' := by
  refine ⟨hp _ R.br, ?_, hr, ?_, ?_, h3, h4, hm⟩
  · rw [upd_ne (by kln_le), upd_ne (by kln_le)]; exact hp _ R.bh
  · rw [upd_ne (by kln_le)]; exact R.bkA
  · rw [upd_at, upd_ne (by kln_le)]; exact h2
theorem RepB.done {prog : Program} {w : World} {st : Sta} {ad : Nat → Addr} {ob : Nat → Obj} {pool fresh : List (Addr × Obj)} {b : Nat → Bool} {hs : Nat → List Int} {rows rows' : List LRow} {w₂ : Addr} {o₂ : Obj} {j nl nw : Nat} {vs : List Value} {hs' : List Int} (R : RepB prog w st ad ob pool b hs rows)
    (hj : j < 2) (hi : IntsAre vs hs') (hsub : ∀ l ∈ rows', l ∈ rows) (ho : o₂.IsDictOf (strKind prog w) (bkKvs st.br st.bh (ad 3) w₂)) :
    RepB prog w st (upd ad 4 w₂) (upd (upd (upd ob 2 o₂) (9 + j) (listOf vs.toArray nl)) 4 (listOf (refsOf rows').toArray nw)) (fresh ++ pool) b (upd hs j hs') rows' := by
  refine R.step (fun p hp => List.mem_append_right _ hp) (fun l hl => List.mem_append_right _ (R.rin l (hsub l hl))) ?_ ⟨nw, upd_at⟩ ?_ fun k hk => ?_
  · rw [upd_ne (by kln_le), upd_ne (by kln_le), upd_at]; exact ho
  · rw [upd_ne (by kln_le), upd_ne (by kln_le), upd_ne (by kln_le)]; exact R.bc
  · by_cases e : k = j
    · subst e
      rw [upd_ne (by kln_le), upd_at, upd_at]
      exact ⟨_, _, rfl, hi⟩
    · rw [upd_ne (by kln_le), upd_ne (by kln_le), upd_ne (by kln_le), upd_ne e]
      exact R.m k hk
theorem two_set {b : Nat → Bool} {j : Nat} (hj : j < 2) : [Value.bool (b 0), Value.bool (b 1)].set j (.bool true) = [Value.bool (upd b j true 0), Value.bool (upd b j true 1)] := by
  have : j = 0 ∨ j = 1 := by omega
  rcases this with rfl | rfl <;> rfl
theorem RepB.closed {prog : Program} {w : World} {st : Sta} {ad : Nat → Addr} {ob : Nat → Obj} {pool fresh : List (Addr × Obj)} {b : Nat → Bool} {hs : Nat → List Int} {rows rows' : List LRow} {w₂ : Addr} {o₂ : Obj} {j nc nw : Nat} (R : RepB prog w st ad ob pool b hs rows)
    (hj : j < 2) (hsub : ∀ l ∈ rows', l ∈ rows) (ho : o₂.IsDictOf (strKind prog w) (bkKvs st.br st.bh (ad 3) w₂)) :
    RepB prog w st (upd ad 4 w₂) (upd (upd (upd ob 2 o₂) 3 (listOf ([Value.bool (b 0), Value.bool (b 1)].set j (.bool true)).toArray nc)) 4 (listOf (refsOf rows').toArray nw)) (fresh ++ pool) (upd b j true) hs rows' := by
  refine R.step (fun p hp => List.mem_append_right _ hp) (fun l hl => List.mem_append_right _ (R.rin l (hsub l hl))) ?_ ⟨nw, upd_at⟩ ?_ fun k hk => ?_
  · rw [upd_ne (by kln_le), upd_ne (by kln_le), upd_at]; exact ho
  · rw [upd_ne (by kln_le), upd_at, two_set hj]; exact ⟨_, rfl⟩
  · rw [upd_ne (by kln_le), upd_ne (by kln_le), upd_ne (by kln_le)]; exact R.m k hk
theorem RepB.waited {prog : Program} {w : World} {st : Sta} {ad : Nat → Addr} {ob : Nat → Obj} {pool fresh : List (Addr × Obj)} {b : Nat → Bool} {hs : Nat → List Int} {rows new : List LRow} {nw : Nat} (R : RepB prog w st ad ob pool b hs rows) (hn : RowsIn new fresh) :
    RepB prog w st ad (upd ob 4 (listOf (refsOf (rows ++ new)).toArray nw)) (fresh ++ pool) b hs (rows ++ new) := by
  refine ⟨List.mem_append_right _ R.br, List.mem_append_right _ R.bh, fun l hl => ?_, R.bkA, ?_, ?_, ⟨nw, upd_at⟩, fun k hk => ?_⟩
  · rcases List.mem_append.mp hl with h | h
    · exact List.mem_append_right _ (R.rin l h)
    · exact List.mem_append_left _ (hn l h)
  · rw [upd_ne (by kln_le)]; exact R.bk
  · rw [upd_ne (by kln_le)]; exact R.bc
  · rw [upd_ne (by kln_le)]; exact R.m k hk
theorem sendF_mem {b : Bool} {hs : List Int} {rows : List LRow} {n v : Int} : ∀ l ∈ (sendF b hs rows n v).rows, l ∈ rows := by
  intro l hl
  unfold sendF at hl
  split at hl
  · exact hl
  · split at hl
    · exact hl
    · exact (List.mem_filter.mp hl).1
theorem takeF_mem {hs : List Int} {rows : List LRow} {n : Int} : ∀ l ∈ (takeF hs rows n).rows, l ∈ rows := by
  intro l hl
  unfold takeF at hl
  split at hl
  · split at hl <;> exact hl
  · exact (List.mem_filter.mp hl).1
theorem doneF_mem {k b : Bool} {hs : List Int} {rows : List LRow} {n v : Int} : ∀ l ∈ (doneF k b hs rows n v).rows, l ∈ rows := by
  cases k
  · exact takeF_mem
  · exact sendF_mem
theorem closeF_mem {b : Bool} {rows : List LRow} {n : Int} : ∀ l ∈ (closeF b rows n).2, l ∈ rows := by
  intro l hl
  unfold closeF at hl
  split at hl
  · exact hl
  · exact endRec_mem _ _ l (endRec_mem _ _ l hl)
theorem doneF_parts {k b : Bool} {hs : List Int} {rows : List LRow} {R : List Row} {n v : Int} (hR : rows.map (·.r) = R) :
    (doneF k b hs rows n v).res = (doneR k b hs R n v).res ∧ (doneF k b hs rows n v).hs = (doneR k b hs R n v).hs ∧ (doneF k b hs rows n v).rows.map (·.r) = (doneR k b hs R n v).rows := by
  have e := doneR_of (k := k) (b := b) (hs := hs) (rows := rows) (n := n) (v := v)
  rw [hR] at e
  rw [← e]
  exact ⟨rfl, rfl, rfl⟩
theorem closeF_parts {b : Bool} {rows : List LRow} {R : List Row} {n : Int} (hR : rows.map (·.r) = R) :
    (closeF b rows n).1 = (closeR b R n).1 ∧ (closeF b rows n).2.map (·.r) = (closeR b R n).2 := by
  have e := closeR_of (b := b) (rows := rows) (n := n)
  rw [hR] at e
  exact ⟨congrArg Prod.fst e, congrArg Prod.snd e⟩
theorem send_D {prog : Program} {w : World} {p : Program} {loose : List Str} {mean : ExcName → Option Value} {mg mb : Str → Option Value}
  {dp un : Nat} {gd : Option (List Code)} {cn : Str} {cs : Scope} {a : Addr} {ccd : Value} {cl : List (Str × Addr)} {outer : List Env} {A₀ : Around} {base h₀ : Heap} {L : Addr} {m : Str → Option Value} {s : Shared} {Q E : Value → Shared → Prop}
  {news T₀ : List (Addr × Obj)} {st : Sta} {ad : Nat → Addr} {ob : Nat → Obj} {pool : List (Addr × Obj)} {b b₂ : Nat → Bool} {hs hs₂ : Nat → List Int} {rows rows₂ : List LRow} {R : List Row} {n v : Int} {tn tv : Tok}
  (B : Below A₀ base outer h₀) (F : Fr h₀ L s.heap m) (X : (Mine.hd.heap_39 w.params).In h₀) (T : Top p loose mean mg mb h₀) (hk : cs.kind = .function) (hdp : dp + 20 < recursionLimit) (hun : un + 260 < cLine) (N : News h₀ L s.heap news) (C : news = T₀ ++ led ad ob pool) (hT : TOff T₀ ad pool) (M : CellsOk ad pool) (RC : RepC st ad ob pool b hs rows) (RB : RepB prog w st ad ob pool b₂ hs₂ rows₂) (hR : rows.map (·.r) = R) (hlr : R.length ≤ 400)
  (n0 : 0 ≤ n) (n2 : n < 2) (hlen : ∀ k, k < 2 → (hs k).length ≤ 400)
  (hret : ∀ r ad' ob' pool' rows' h' tk', CellsOk ad' pool' → TOff T₀ ad' pool' → RepC st ad' ob' pool' b (upd hs n.toNat (doneR true (b n.toNat) (hs n.toNat) R n v).hs) rows' → RepB prog w st ad' ob' pool' b₂ hs₂ rows₂ →
    rows'.map (·.r) = (doneR true (b n.toNat) (hs n.toNat) R n v).rows → Bears pool' r (doneR true (b n.toNat) (hs n.toNat) R n v).res → (∀ p ∈ pool, p ∈ pool') → Fr h₀ L h' m → News h₀ L h' (T₀ ++ led ad' ob' pool') → Q r { s with heap := h', toks := tk' }) :
  wpAny (model prog w) (ktrTop dp un gd cn cs L a ccd cl outer) (call (.ref 117) [.ref st.x, .int n tn, .int v tv]) Q E s := by
  have hj : n.toNat < 2 := by omega
  subst C
  obtain ⟨rest, N1, o1, ne1, iT, iC, iP, fin⟩ := step2 0 (7 + n.toNat) 1 M N hT (by kln_le) (by kln_le) (by kln_le) (by kln_le) (by kln_le) (by kln_le)
  obtain ⟨nw, ew⟩ := RC.w
  obtain ⟨vs, nl, el, hi⟩ := RC.l _ hj
  have c1 := iC 1 (by kln_le) (by kln_le) (by kln_le)
  have c5 := iC (5 + n.toNat) (by kln_le) (by kln_le) (by kln_le)
  rw [ew] at c1
  rw [RC.d _ hj] at c5
  rw [RC.dx, el] at N1
  have hl2 : rows.length ≤ 1000 := by rw [← hR, List.length_map] at hlr; omega
  obtain ⟨p1, p2, p3⟩ := doneF_parts (k := true) (b := b n.toNat) (hs := hs n.toNat) (n := n) (v := v) hR
  refine send_rule B F X T hk hdp hun N1 o1 ne1 (iP _ RC.x) (iP _ RC.chl) c1 (RC.rin.mono iP) hl2 n0 (by kln_le) (two_ref n0 n2) (iP _ (RC.c _ hj)) c5 hi (Nat.le_trans (hlen _ hj) (by kln_le)) fun r w₂ nw₂ vs' nl' fresh h' tk' hi' W O F' N' B' => ?_
  obtain ⟨M', N'', T'⟩ := fin _ _ _ _ _ _ W O N'
  refine hret r _ _ _ _ h' tk' M' T' (RC.done hj (p2 ▸ hi') sendF_mem) (RB.keep (fun i hi => ⟨upd_ne (by kln_le), ?_⟩) fun p hp => List.mem_append_right _ hp) p3 (p1 ▸ Bears.mono B' fun p hp => List.mem_append_left _ hp) (fun p hp => List.mem_append_right _ hp) F' N''
  rw [upd_ne (by kln_le), upd_ne (by kln_le), upd_ne (by kln_le)]
theorem take_D {prog : Program} {w : World} {p : Program} {loose : List Str} {mean : ExcName → Option Value} {mg mb : Str → Option Value}
  {dp un : Nat} {gd : Option (List Code)} {cn : Str} {cs : Scope} {a : Addr} {ccd : Value} {cl : List (Str × Addr)} {outer : List Env} {A₀ : Around} {base h₀ : Heap} {L : Addr} {m : Str → Option Value} {s : Shared} {Q E : Value → Shared → Prop}
  {news T₀ : List (Addr × Obj)} {st : Sta} {ad : Nat → Addr} {ob : Nat → Obj} {pool : List (Addr × Obj)} {b b₂ : Nat → Bool} {hs hs₂ : Nat → List Int} {rows rows₂ : List LRow} {R : List Row} {n v : Int} {tn : Tok}
  (B : Below A₀ base outer h₀) (F : Fr h₀ L s.heap m) (X : (Mine.hd.heap_39 w.params).In h₀) (T : Top p loose mean mg mb h₀) (hk : cs.kind = .function) (hdp : dp + 20 < recursionLimit) (hun : un + 260 < cLine) (N : News h₀ L s.heap news) (C : news = T₀ ++ led ad ob pool) (hT : TOff T₀ ad pool) (M : CellsOk ad pool) (RC : RepC st ad ob pool b hs rows) (RB : RepB prog w st ad ob pool b₂ hs₂ rows₂) (hR : rows.map (·.r) = R) (hlr : R.length ≤ 400)
  (n0 : 0 ≤ n) (n2 : n < 2) (hlen : ∀ k, k < 2 → (hs k).length ≤ 400)
  (hret : ∀ r ad' ob' pool' rows' h' tk', CellsOk ad' pool' → TOff T₀ ad' pool' → RepC st ad' ob' pool' b (upd hs n.toNat (doneR false (b n.toNat) (hs n.toNat) R n v).hs) rows' → RepB prog w st ad' ob' pool' b₂ hs₂ rows₂ →
    rows'.map (·.r) = (doneR false (b n.toNat) (hs n.toNat) R n v).rows → Bears pool' r (doneR false (b n.toNat) (hs n.toNat) R n v).res → (∀ p ∈ pool, p ∈ pool') → Fr h₀ L h' m → News h₀ L h' (T₀ ++ led ad' ob' pool') → Q r { s with heap := h', toks := tk' }) :
  wpAny (model prog w) (ktrTop dp un gd cn cs L a ccd cl outer) (call (.ref 124) [.ref st.x, .int n tn]) Q E s := by
  have hj : n.toNat < 2 := by omega
  subst C
  obtain ⟨rest, N1, o1, ne1, iT, iC, iP, fin⟩ := step2 0 (7 + n.toNat) 1 M N hT (by kln_le) (by kln_le) (by kln_le) (by kln_le) (by kln_le) (by kln_le)
  obtain ⟨nw, ew⟩ := RC.w
  obtain ⟨vs, nl, el, hi⟩ := RC.l _ hj
  have c1 := iC 1 (by kln_le) (by kln_le) (by kln_le)
  have c5 := iC (5 + n.toNat) (by kln_le) (by kln_le) (by kln_le)
  rw [ew] at c1
  rw [RC.d _ hj] at c5
  rw [RC.dx, el] at N1
  have hl2 : rows.length ≤ 1000 := by rw [← hR, List.length_map] at hlr; omega
  obtain ⟨p1, p2, p3⟩ := doneF_parts (k := false) (b := b n.toNat) (hs := hs n.toNat) (n := n) (v := v) hR
  refine take_rule B F X T hk hdp hun N1 o1 ne1 (iP _ RC.x) (iP _ RC.chl) c1 (RC.rin.mono iP) hl2 n0 (by kln_le) (two_ref n0 n2) (iP _ (RC.c _ hj)) c5 hi (Nat.le_trans (hlen _ hj) (by kln_le)) fun r w₂ nw₂ vs' nl' fresh h' tk' hi' W O F' N' B' => ?_
  obtain ⟨M', N'', T'⟩ := fin _ _ _ _ _ _ W O N'
  refine hret r _ _ _ _ h' tk' M' T' (RC.done hj (p2 ▸ hi') takeF_mem) (RB.keep (fun i hi => ⟨upd_ne (by kln_le), ?_⟩) fun p hp => List.mem_append_right _ hp) p3 (p1 ▸ Bears.mono B' fun p hp => List.mem_append_left _ hp) (fun p hp => List.mem_append_right _ hp) F' N''
  rw [upd_ne (by kln_le), upd_ne (by kln_le), upd_ne (by kln_le)]
theorem close_D {prog : Program} {w : World} {p : Program} {loose : List Str} {mean : ExcName → Option Value} {mg mb : Str → Option Value}
  {dp un : Nat} {gd : Option (List Code)} {cn : Str} {cs : Scope} {a : Addr} {ccd : Value} {cl : List (Str × Addr)} {outer : List Env} {A₀ : Around} {base h₀ : Heap} {L : Addr} {m : Str → Option Value} {s : Shared} {Q E : Value → Shared → Prop}
  {news T₀ : List (Addr × Obj)} {st : Sta} {ad : Nat → Addr} {ob : Nat → Obj} {pool : List (Addr × Obj)} {b b₂ : Nat → Bool} {hs hs₂ : Nat → List Int} {rows rows₂ : List LRow} {R : List Row} {n : Int} {tn : Tok}
  (B : Below A₀ base outer h₀) (F : Fr h₀ L s.heap m) (X : (Mine.hd.heap_39 w.params).In h₀) (T : Top p loose mean mg mb h₀) (hk : cs.kind = .function) (hdp : dp + 30 < recursionLimit) (hun : un + 460 < cLine) (N : News h₀ L s.heap news) (C : news = T₀ ++ led ad ob pool) (hT : TOff T₀ ad pool) (M : CellsOk ad pool) (RC : RepC st ad ob pool b hs rows) (RB : RepB prog w st ad ob pool b₂ hs₂ rows₂) (hR : rows.map (·.r) = R) (hlr : R.length ≤ 400)
  (n0 : 0 ≤ n) (n2 : n < 2)
  (hret : ∀ r ad' ob' pool' rows' h' tk', CellsOk ad' pool' → TOff T₀ ad' pool' → RepC st ad' ob' pool' (upd b n.toNat true) hs rows' → RepB prog w st ad' ob' pool' b₂ hs₂ rows₂ →
    rows'.map (·.r) = (closeR (b n.toNat) R n).2 → Bears pool' r (closeR (b n.toNat) R n).1 → (∀ p ∈ pool, p ∈ pool') → Fr h₀ L h' m → News h₀ L h' (T₀ ++ led ad' ob' pool') → Q r { s with heap := h', toks := tk' }) :
  wpAny (model prog w) (ktrTop dp un gd cn cs L a ccd cl outer) (call (.ref 138) [.ref st.x, .int n tn]) Q E s := by
  have hj : n.toNat < 2 := by omega
  subst C
  obtain ⟨rest, N1, o1, ne1, iT, iC, iP, fin⟩ := step2 0 (5 + n.toNat) 1 M N hT (by kln_le) (by kln_le) (by kln_le) (by kln_le) (by kln_le) (by kln_le)
  obtain ⟨nw, ew⟩ := RC.w
  have c1 := iC 1 (by kln_le) (by kln_le) (by kln_le)
  rw [ew] at c1
  rw [RC.dx, RC.d _ hj] at N1
  have hl2 : rows.length ≤ 400 := by rw [← hR, List.length_map] at hlr; omega
  obtain ⟨p1, p3⟩ := closeF_parts (b := b n.toNat) (n := n) hR
  refine close_rule B F X T hk hdp hun N1 o1 ne1 (iP _ RC.x) (iP _ RC.chl) c1 (RC.rin.mono iP) hl2 n0 (by kln_le) (two_ref n0 n2) (iP _ (RC.c _ hj)) fun r w₂ nw₂ fresh h' tk' W O F' N' B' => ?_
  obtain ⟨M', N'', T'⟩ := fin _ _ _ _ _ _ W O N'
  refine hret r _ _ _ _ h' tk' M' T' (RC.closed hj closeF_mem) (RB.keep (fun i hi => ⟨upd_ne (by kln_le), ?_⟩) fun p hp => List.mem_append_right _ hp) p3 (p1 ▸ Bears.mono B' fun p hp => List.mem_append_left _ hp) (fun p hp => List.mem_append_right _ hp) F' N''
  rw [upd_ne (by kln_le), upd_ne (by kln_le), upd_ne (by kln_le)]
theorem lawdone_D {prog : Program} {w : World} {p : Program} {loose : List Str} {mean : ExcName → Option Value} {mg mb : Str → Option Value}
  {dp un : Nat} {gd : Option (List Code)} {cn : Str} {cs : Scope} {a : Addr} {ccd : Value} {cl : List (Str × Addr)} {outer : List Env} {A₀ : Around} {base h₀ : Heap} {L : Addr} {m : Str → Option Value} {s : Shared} {Q E : Value → Shared → Prop}
  {news T₀ : List (Addr × Obj)} {st : Sta} {ad : Nat → Addr} {ob : Nat → Obj} {pool : List (Addr × Obj)} {b b₂ : Nat → Bool} {hs hs₂ : Nat → List Int} {rows rows₂ : List LRow} {R : List Row} {k : Bool} {n v : Int} {tk tn tv : Tok}
  (B : Below A₀ base outer h₀) (F : Fr h₀ L s.heap m) (X : (Mine.hd.heap_39 w.params).In h₀) (T : Top p loose mean mg mb h₀) (hk : cs.kind = .function) (hdp : dp + 20 < recursionLimit) (hun : un + 260 < cLine) (N : News h₀ L s.heap news) (C : news = T₀ ++ led ad ob pool) (hT : TOff T₀ ad pool) (M : CellsOk ad pool) (RC : RepC st ad ob pool b₂ hs₂ rows₂) (RB : RepB prog w st ad ob pool b hs rows) (hR : rows.map (·.r) = R) (hlr : R.length ≤ 400)
  (n0 : 0 ≤ n) (n2 : n < 2) (hlen : ∀ k, k < 2 → (hs k).length ≤ 400)
  (hret : ∀ r ad' ob' pool' rows' h' tk', CellsOk ad' pool' → TOff T₀ ad' pool' → RepC st ad' ob' pool' b₂ hs₂ rows₂ → RepB prog w st ad' ob' pool' b (upd hs n.toNat (doneR k (b n.toNat) (hs n.toNat) R n v).hs) rows' →
    rows'.map (·.r) = (doneR k (b n.toNat) (hs n.toNat) R n v).rows → Bears pool' r (doneR k (b n.toNat) (hs n.toNat) R n v).res → (∀ p ∈ pool, p ∈ pool') → Fr h₀ L h' m → News h₀ L h' (T₀ ++ led ad' ob' pool') → Q r { s with heap := h', toks := tk' }) :
  wpAny (model prog w) (ktrTop dp un gd cn cs L a ccd cl outer) (call (.ref 335) [.ref st.bk, .str (kStr k) tk, .int n tn, .int v tv]) Q E s := by
  have hj : n.toNat < 2 := by omega
  subst C
  rw [← RB.bkA]
  obtain ⟨rest, N1, o1, ne1, iT, iC, iP, fin⟩ := step2 2 (9 + n.toNat) 4 M N hT (by kln_le) (by kln_le) (by kln_le) (by kln_le) (by kln_le) (by kln_le)
  obtain ⟨nw, ew⟩ := RB.v
  obtain ⟨nc, ec⟩ := RB.bc
  obtain ⟨vs, nl, el, hi⟩ := RB.m _ hj
  have c4 := iC 4 (by kln_le) (by kln_le) (by kln_le)
  have c3 := iC 3 (by kln_le) (by kln_le) (by kln_le)
  rw [ew] at c4
  rw [ec] at c3
  rw [el] at N1
  have hl2 : rows.length ≤ 1000 := by rw [← hR, List.length_map] at hlr; omega
  obtain ⟨p1, p2, p3⟩ := doneF_parts (k := k) (b := b n.toNat) (hs := hs n.toNat) (n := n) (v := v) hR
  refine lawdone_rule B F X T hk hdp hun N1 o1 ne1 RB.bk c4 (RB.rin.mono iP) hl2 n0 (by kln_le) c3 (two_bool n0 n2) (iP _ RB.bh) (two_ref (f := fun k => ad (9 + k)) n0 n2) hi (Nat.le_trans (hlen _ hj) (by kln_le)) fun r w₂ nw₂ vs' nl' fresh o₂ h' tk' hi' W O ho F' N' B' => ?_
  obtain ⟨M', N'', T'⟩ := fin _ _ _ _ _ _ W O N'
  refine hret r _ _ _ _ h' tk' M' T' (RC.keep (fun i i2 i3 i4 i9 i10 => ⟨upd_ne i4, ?_⟩) fun p hp => List.mem_append_right _ hp) (RB.done hj (p2 ▸ hi') doneF_mem ho) p3 (p1 ▸ Bears.mono B' fun p hp => List.mem_append_left _ hp) (fun p hp => List.mem_append_right _ hp) F' N''
  rw [upd_ne (by kln_le), upd_ne (by kln_le), upd_ne (by kln_le)]
theorem lawclosed_D {prog : Program} {w : World} {p : Program} {loose : List Str} {mean : ExcName → Option Value} {mg mb : Str → Option Value}
  {dp un : Nat} {gd : Option (List Code)} {cn : Str} {cs : Scope} {a : Addr} {ccd : Value} {cl : List (Str × Addr)} {outer : List Env} {A₀ : Around} {base h₀ : Heap} {L : Addr} {m : Str → Option Value} {s : Shared} {Q E : Value → Shared → Prop}
  {news T₀ : List (Addr × Obj)} {st : Sta} {ad : Nat → Addr} {ob : Nat → Obj} {pool : List (Addr × Obj)} {b b₂ : Nat → Bool} {hs hs₂ : Nat → List Int} {rows rows₂ : List LRow} {R : List Row} {n : Int} {tn : Tok}
  (B : Below A₀ base outer h₀) (F : Fr h₀ L s.heap m) (X : (Mine.hd.heap_39 w.params).In h₀) (T : Top p loose mean mg mb h₀) (hk : cs.kind = .function) (hdp : dp + 30 < recursionLimit) (hun : un + 460 < cLine) (N : News h₀ L s.heap news) (C : news = T₀ ++ led ad ob pool) (hT : TOff T₀ ad pool) (M : CellsOk ad pool) (RC : RepC st ad ob pool b₂ hs₂ rows₂) (RB : RepB prog w st ad ob pool b hs rows) (hR : rows.map (·.r) = R) (hlr : R.length ≤ 400)
  (n0 : 0 ≤ n) (n2 : n < 2)
  (hret : ∀ r ad' ob' pool' rows' h' tk', CellsOk ad' pool' → TOff T₀ ad' pool' → RepC st ad' ob' pool' b₂ hs₂ rows₂ → RepB prog w st ad' ob' pool' (upd b n.toNat true) hs rows' →
    rows'.map (·.r) = (closeR (b n.toNat) R n).2 → Bears pool' r (closeR (b n.toNat) R n).1 → (∀ p ∈ pool, p ∈ pool') → Fr h₀ L h' m → News h₀ L h' (T₀ ++ led ad' ob' pool') → Q r { s with heap := h', toks := tk' }) :
  wpAny (model prog w) (ktrTop dp un gd cn cs L a ccd cl outer) (call (.ref 342) [.ref st.bk, .int n tn]) Q E s := by
  have hj : n.toNat < 2 := by omega
  subst C
  rw [← RB.bkA]
  obtain ⟨rest, N1, o1, ne1, iT, iC, iP, fin⟩ := step2 2 3 4 M N hT (by kln_le) (by kln_le) (by kln_le) (by kln_le) (by kln_le) (by kln_le)
  obtain ⟨nw, ew⟩ := RB.v
  obtain ⟨nc, ec⟩ := RB.bc
  have c4 := iC 4 (by kln_le) (by kln_le) (by kln_le)
  rw [ew] at c4
  rw [ec] at N1
  have hl2 : rows.length ≤ 400 := by rw [← hR, List.length_map] at hlr; omega
  obtain ⟨p1, p3⟩ := closeF_parts (b := b n.toNat) (n := n) hR
  refine lawclosed_rule B F X T hk hdp hun N1 o1 ne1 RB.bk c4 (RB.rin.mono iP) hl2 n0 (by kln_le) (two_bool n0 n2) fun r w₂ nw₂ nc' fresh o₂ h' tk' W O ho F' N' B' => ?_
  obtain ⟨M', N'', T'⟩ := fin _ _ _ _ _ _ W O N'
  refine hret r _ _ _ _ h' tk' M' T' (RC.keep (fun i i2 i3 i4 i9 i10 => ⟨upd_ne i4, ?_⟩) fun p hp => List.mem_append_right _ hp) (RB.closed hj closeF_mem ho) p3 (p1 ▸ Bears.mono B' fun p hp => List.mem_append_left _ hp) (fun p hp => List.mem_append_right _ hp) F' N''
  rw [upd_ne (by kln_le), upd_ne (by kln_le), upd_ne (by kln_le)]
theorem wait1_D {prog : Program} {w : World} {p : Program} {loose : List Str} {mean : ExcName → Option Value} {mg mb : Str → Option Value}
  {dp un : Nat} {gd : Option (List Code)} {cn : Str} {cs : Scope} {a : Addr} {ccd : Value} {cl : List (Str × Addr)} {outer : List Env} {A₀ : Around} {base h₀ : Heap} {L : Addr} {m : Str → Option Value} {s : Shared} {Q E : Value → Shared → Prop}
  {news T₀ : List (Addr × Obj)} {st : Sta} {ad : Nat → Addr} {ob : Nat → Obj} {pool : List (Addr × Obj)} {b b₂ : Nat → Bool} {hs hs₂ : Nat → List Int} {rows rows₂ : List LRow} {R : List Row} {dl d1 : Addr} {ndl e1 : Nat} {k : Bool} {g n v : Int} {tg tk tn tv : Tok}
  (B : Below A₀ base outer h₀) (F : Fr h₀ L s.heap m) (X : (Mine.hd.heap_39 w.params).In h₀) (T : Top p loose mean mg mb h₀) (hk : cs.kind = .function) (hdp : dp + 20 < recursionLimit) (hun : un + 160 < cLine) (N : News h₀ L s.heap news) (C : news = T₀ ++ led ad ob pool) (hT : TOff T₀ ad pool) (M : CellsOk ad pool) (RC : RepC st ad ob pool b hs rows) (RB : RepB prog w st ad ob pool b₂ hs₂ rows₂) (hR : rows.map (·.r) = R) (hlr : R.length ≤ 400)
  (hdl : (dl, listOf [Value.ref d1].toArray ndl) ∈ T₀) (hd1 : (d1, tupN [.str (kStr k) tk, .int n tn, .int v tv] e1) ∈ T₀)
  (hret : ∀ ob' pool' rows' h' tk', CellsOk ad pool' → TOff T₀ ad pool' → RepC st ad ob' pool' b hs rows' → RepB prog w st ad ob' pool' b₂ hs₂ rows₂ →
    rows'.map (·.r) = R ++ [⟨g, k, n, v, 0⟩] → (∀ p ∈ pool, p ∈ pool') → Fr h₀ L h' m → News h₀ L h' (T₀ ++ led ad ob' pool') → Q .none { s with heap := h', toks := tk' }) :
  wpAny (model prog w) (ktrTop dp un gd cn cs L a ccd cl outer) (call (.ref 152) [.ref st.x, .int g tg, .ref dl]) Q E s := by
  subst C
  obtain ⟨rest, N1, o1, iT, iC, iP, fin⟩ := step1 1 M N hT (by kln_le)
  obtain ⟨nw, ew⟩ := RC.w
  have c0 := iC 0 (by kln_le) (by kln_le)
  rw [RC.dx] at c0
  rw [ew] at N1
  have hl2 : rows.length ≤ 1000 := by rw [← hR, List.length_map] at hlr; omega
  refine wait1_rule B F X T hk hdp hun N1 o1 (iP _ RC.x) c0 hl2 (iT _ hdl) (iT _ hd1) fun new nw' fresh h' tk' e1 e2 O F' N' => ?_
  obtain ⟨M', N'', T'⟩ := fin _ _ _ _ _ O N'
  refine hret _ _ _ h' tk' M' T' (RC.waited e2) (RB.keep (fun i hi => ⟨rfl, upd_ne (by kln_le)⟩) fun p hp => List.mem_append_right _ hp) (by rw [List.map_append, hR, e1]) (fun p hp => List.mem_append_right _ hp) F' N''
theorem wait3_D {prog : Program} {w : World} {p : Program} {loose : List Str} {mean : ExcName → Option Value} {mg mb : Str → Option Value}
  {dp un : Nat} {gd : Option (List Code)} {cn : Str} {cs : Scope} {a : Addr} {ccd : Value} {cl : List (Str × Addr)} {outer : List Env} {A₀ : Around} {base h₀ : Heap} {L : Addr} {m : Str → Option Value} {s : Shared} {Q E : Value → Shared → Prop}
  {news T₀ : List (Addr × Obj)} {st : Sta} {ad : Nat → Addr} {ob : Nat → Obj} {pool : List (Addr × Obj)} {b b₂ : Nat → Bool} {hs hs₂ : Nat → List Int} {rows rows₂ : List LRow} {R : List Row} {dl d1 d2 d3 : Addr} {ndl e1 e2 e3 : Nat} {k k2 k3 : Bool} {g n v v2 n3 v3 : Int} {tg tk tn tv tk2 tv2 tk3 tn3 tv3 : Tok}
  (B : Below A₀ base outer h₀) (F : Fr h₀ L s.heap m) (X : (Mine.hd.heap_39 w.params).In h₀) (T : Top p loose mean mg mb h₀) (hk : cs.kind = .function) (hdp : dp + 20 < recursionLimit) (hun : un + 160 < cLine) (N : News h₀ L s.heap news) (C : news = T₀ ++ led ad ob pool) (hT : TOff T₀ ad pool) (M : CellsOk ad pool) (RC : RepC st ad ob pool b hs rows) (RB : RepB prog w st ad ob pool b₂ hs₂ rows₂) (hR : rows.map (·.r) = R) (hlr : R.length ≤ 400)
  (hdl : (dl, listOf [Value.ref d1, Value.ref d2, Value.ref d3].toArray ndl) ∈ T₀) (hd1 : (d1, tupN [.str (kStr k) tk, .int n tn, .int v tv] e1) ∈ T₀)
  (hd2 : (d2, tupN [.str (kStr k2) tk2, .none, .int v2 tv2] e2) ∈ T₀) (hd3 : (d3, tupN [.str (kStr k3) tk3, .int n3 tn3, .int v3 tv3] e3) ∈ T₀)
  (hret : ∀ ob' pool' rows' h' tk', CellsOk ad pool' → TOff T₀ ad pool' → RepC st ad ob' pool' b hs rows' → RepB prog w st ad ob' pool' b₂ hs₂ rows₂ →
    rows'.map (·.r) = R ++ [⟨g, k, n, v, 0⟩, ⟨g, k3, n3, v3, 2⟩] → (∀ p ∈ pool, p ∈ pool') → Fr h₀ L h' m → News h₀ L h' (T₀ ++ led ad ob' pool') → Q .none { s with heap := h', toks := tk' }) :
  wpAny (model prog w) (ktrTop dp un gd cn cs L a ccd cl outer) (call (.ref 152) [.ref st.x, .int g tg, .ref dl]) Q E s := by
  subst C
  obtain ⟨rest, N1, o1, iT, iC, iP, fin⟩ := step1 1 M N hT (by kln_le)
  obtain ⟨nw, ew⟩ := RC.w
  have c0 := iC 0 (by kln_le) (by kln_le)
  rw [RC.dx] at c0
  rw [ew] at N1
  have hl2 : rows.length ≤ 1000 := by rw [← hR, List.length_map] at hlr; omega
  refine wait3_rule B F X T hk hdp hun N1 o1 (iP _ RC.x) c0 hl2 (iT _ hdl) (iT _ hd1) (iT _ hd2) (iT _ hd3) fun new nw' fresh h' tk' e1 e2 O F' N' => ?_
  obtain ⟨M', N'', T'⟩ := fin _ _ _ _ _ O N'
  refine hret _ _ _ h' tk' M' T' (RC.waited e2) (RB.keep (fun i hi => ⟨rfl, upd_ne (by kln_le)⟩) fun p hp => List.mem_append_right _ hp) (by rw [List.map_append, hR, e1]) (fun p hp => List.mem_append_right _ hp) F' N''
theorem toff_nil {ad : Nat → Addr} {pool : List (Addr × Obj)} : TOff [] ad pool := fun _ h => nomatch h
theorem toff_cons {p : Addr × Obj} {T : List (Addr × Obj)} {ad : Nat → Addr} {pool : List (Addr × Obj)} (h : (∀ i, i < 11 → p.1 ≠ ad i) ∧ ∀ q ∈ pool, p.1 ≠ q.1) (hT : TOff T ad pool) : TOff (p :: T) ad pool := fun q hq => by
  rcases List.mem_cons.mp hq with rfl | hq
  · exact h
  · exact hT q hq
theorem off_lt {I : Addr} {ad : Nat → Addr} {ob : Nat → Obj} {pool : List (Addr × Obj)} (h : AllLt I (led ad ob pool)) : (∀ i, i < 11 → I ≠ ad i) ∧ ∀ q ∈ pool, I ≠ q.1 :=
  ⟨fun i hi e => Nat.lt_irrefl I (by have := AllLt.mem h _ (led_cell hi); simp only [← e] at this; exact this), fun q hq e => Nat.lt_irrefl I (by have := AllLt.mem h _ (led_pool hq); rw [← e] at this; exact this)⟩
theorem cut_nil {Λ : List (Addr × Obj)} : Λ = [] ++ Λ := rfl
theorem cut_cons {p : Addr × Obj} {n T Λ : List (Addr × Obj)} (h : n = T ++ Λ) : p :: n = (p :: T) ++ Λ := by rw [h]; rfl
theorem cut_mem {n T Λ : List (Addr × Obj)} (h : n = T ++ Λ) : ∀ p ∈ Λ, p ∈ n := fun p hp => h ▸ List.mem_append_right _ hp
theorem allLt_cons {a I : Addr} {o : Obj} {l : List (Addr × Obj)} (h : @LT.lt Nat _ a I) (hl : AllLt I l) : AllLt I ((a, o) :: l) := allLt_of fun p hp => by
  rcases List.mem_cons.mp hp with rfl | hp
  · exact h
  · exact AllLt.mem hl p hp
theorem unrEnd_cut {h₀ : Heap} {L I : Addr} {it : Obj} {rest : (Str → Option Value) → List (Addr × Obj) → Prop} {s₁ : Shared} {h' : Heap} {tk : Nat} {m' : Str → Option Value} {all pre post : List (Addr × Obj)} (F : Fr h₀ L h' m') (N : News h₀ L h' all) (C : all = pre ++ (I, it) :: post)
    (off : AllLt I post) (r : rest m' post) : UnrEnd h₀ L s₁ I it rest { s₁ with heap := h', toks := tk } :=
  UnrEnd.intro F N post (fun p hp => C ▸ List.mem_append_right _ hp) (fun p hp => Nat.ne_of_lt (AllLt.mem off p hp)) r
theorem ne_bool {prog : Program} {w : World} {A : Around} {E : Value → Shared → Prop} {s : Shared} {x : Bool} {Q : Value → Shared → Prop} (h : Q (.bool false) s) : wpAny (model prog w) A (compareOp .NotEq (.bool x) (.bool x)) Q E s := by
  cases x <;> (k_steps; exact h)
inductive Mark : Prop
  | intro
theorem toff_sub {T T' : List (Addr × Obj)} {ad : Nat → Addr} {pool : List (Addr × Obj)} (h : TOff T ad pool) (hs : ∀ p ∈ T', p ∈ T) : TOff T' ad pool := fun p hp => h p (hs p hp)
theorem one_mem {p : Addr × Obj} {T : List (Addr × Obj)} (h : p ∈ T) : ∀ q ∈ [p], q ∈ T := fun q hq => by rw [List.mem_singleton.mp hq]; exact h
theorem two_mem {p : Addr × Obj} {T Λ : List (Addr × Obj)} (h : p ∈ T) (h2 : ∀ q ∈ Λ, q ∈ T) : ∀ q ∈ p :: Λ, q ∈ T := fun q hq => by
  rcases List.mem_cons.mp hq with rfl | hq
  · exact h
  · exact h2 q hq
theorem doneR_len {k b : Bool} {hs : List Int} {R : List Row} {n v : Int} : (doneR k b hs R n v).rows.length ≤ R.length + 2 := by
  unfold doneR
  cases k
  · simp only [Bool.false_eq_true, if_false]
    unfold takeR
    cases findR true n R with
    | none => cases hs <;> exact Nat.le_add_right _ _
    | some t => exact Nat.le_trans (List.length_filter_le _ _) (Nat.le_add_right _ _)
  · simp only [if_true]
    unfold sendR
    cases b
    · simp only [Bool.false_eq_true, if_false]
      cases findR false n R with
      | none => exact Nat.le_add_right _ _
      | some t => exact Nat.le_trans (List.length_filter_le _ _) (Nat.le_add_right _ _)
    · exact Nat.le_add_right _ _
theorem doneR_hs {k b : Bool} {hs : List Int} {R : List Row} {n v : Int} : (doneR k b hs R n v).hs.length ≤ hs.length + 1 := by
  unfold doneR
  cases k
  · simp only [Bool.false_eq_true, if_false]
    unfold takeR
    cases findR true n R with
    | none => cases hs with
      | nil => exact Nat.le_add_right _ _
      | cons a r => simp; omega
    | some t => simp
  · simp only [if_true]
    unfold sendR
    cases b
    · simp only [Bool.false_eq_true, if_false]
      cases findR false n R with
      | none => simp
      | some t => exact Nat.le_add_right _ _
    · exact Nat.le_add_right _ _
theorem upd_hs {hs : Nat → List Int} {j : Nat} {l : List Int} (h : l.length ≤ (hs j).length + 1) : ∀ k, k < 2 → (upd hs j l k).length ≤ (hs k).length + 1 := fun k _ => by
  by_cases e : k = j
  · subst e; rw [upd_at]; exact h
  · rw [upd_ne e]; exact Nat.le_add_right _ _
theorem endR_len {k : Bool} {n : Int} : ∀ (f : Nat) (R : List Row), (endR k n f R).1.length ≤ R.length
  | 0, R => Nat.le_refl _
  | f + 1, R => by
    rw [endR]
    cases findR k n R with
    | none => exact Nat.le_refl _
    | some t => exact Nat.le_trans (endR_len f _) (List.length_filter_le _ _)
theorem closeR_len {b : Bool} {R : List Row} {n : Int} : (closeR b R n).2.length ≤ R.length + 2 := by
  unfold closeR
  cases b
  · simp only [Bool.false_eq_true, if_false]
    exact Nat.le_trans (Nat.le_trans (endR_len _ _) (endR_len _ _)) (Nat.le_add_right _ _)
  · exact Nat.le_add_right _ _
theorem BearsL.cons {news : List (Addr × Obj)} {vs : List Value} {ds : List PyData} {v : Value} {d : PyData} (hv : Bears news v d) (h : BearsL news vs ds) : BearsL news (v :: vs) (d :: ds) := fun h₀ L hh N => by
  obtain ⟨_, x⟩ := h h₀ L hh N
  obtain ⟨_, y⟩ := hv h₀ L hh N
  exact ⟨_, .cons y x⟩
theorem bears_list {news : List (Addr × Obj)} {a : Addr} {vs : List Value} {n : Nat} {ds : List PyData} (hm : (a, listOf vs.toArray n) ∈ news) (h : BearsL news vs ds) : Bears news (.ref a) (.list ds) := fun h₀ L hh N => by
  obtain ⟨_, x⟩ := h h₀ L hh N
  exact ⟨_, .list (N _ hm).1 rfl rfl (by simpa using x)⟩
theorem bears_tuple {news : List (Addr × Obj)} {a : Addr} {vs : List Value} {n : Nat} {ds : List PyData} (hm : (a, tupN vs n) ∈ news) (h : BearsL news vs ds) : Bears news (.ref a) (.tuple ds) := fun h₀ L hh N => by
  obtain ⟨_, x⟩ := h h₀ L hh N
  exact ⟨_, .tuple (N _ hm).1 rfl rfl (by simpa using x)⟩
theorem bears_int {news : List (Addr × Obj)} {i : Int} {t : Tok} : Bears news (.int i t) (.int i) := fun _ _ _ _ => ⟨_, .int _ _⟩
theorem bears_str {news : List (Addr × Obj)} {x : Str} {t : Tok} : Bears news (.str x t) (.str x) := fun _ _ _ _ => ⟨_, .str _ _⟩
def rowD (r : Row) : PyData := .tuple [.int r.g, .str (kStr r.k), .int r.n, .int r.v, .int r.c]
theorem bears_row {news : List (Addr × Obj)} {l : LRow} (h : (l.a, l.obj) ∈ news) : Bears news (.ref l.a) (rowD l.r) :=
  bears_tuple h (.cons bears_int (.cons bears_str (.cons bears_int (.cons bears_int (.cons bears_int bearsL_nil)))))
theorem bears_refs {news : List (Addr × Obj)} : ∀ {rows : List LRow}, RowsIn rows news → BearsL news (refsOf rows) ((rows.map (·.r)).map rowD)
  | [], _ => bearsL_nil
  | l :: _, h => .cons (bears_row (h l (.head _))) (bears_refs fun q hq => h q (.tail _ hq))
theorem bears_rows {news : List (Addr × Obj)} {rows : List LRow} {R : List Row} {a : Addr} {n : Nat} (hm : (a, listOf (refsOf rows).toArray n) ∈ news) (hr : RowsIn rows news) (hR : rows.map (·.r) = R) : Bears news (.ref a) (.list (R.map rowD)) :=
  hR ▸ bears_list hm (bears_refs hr)
theorem sh_row {r : Row} : Sh 1 (rowD r) :=
  Sh.tuple (Sh.cons Sh.int (Sh.cons (Sh.strs (by cases r.k <;> decide +kernel)) (Sh.cons Sh.int (Sh.cons Sh.int (Sh.cons Sh.int Sh.nil)))))
theorem sh_rows {R : List Row} : Sh 2 (.list (R.map rowD)) := Sh.list fun x hx => by
  obtain ⟨r, _, rfl⟩ := List.mem_map.mp hx
  exact sh_row
def intsD (hs : List Int) : PyData := .list (hs.map .int)
theorem bearsL_ints {news : List (Addr × Obj)} {vs : List Value} {hs : List Int} (h : IntsAre vs hs) : BearsL news vs (hs.map .int) := by
  induction h with
  | nil => exact bearsL_nil
  | cons n t _ ih => exact .cons bears_int ih
theorem bears_ints {news : List (Addr × Obj)} {a : Addr} {vs : List Value} {n : Nat} {hs : List Int} (hm : (a, listOf vs.toArray n) ∈ news) (hi : IntsAre vs hs) : Bears news (.ref a) (intsD hs) := bears_list hm (bearsL_ints hi)
theorem sh_ints {hs : List Int} : Sh 1 (intsD hs) := Sh.list fun x hx => by
  obtain ⟨i, _, rfl⟩ := List.mem_map.mp hx
  exact Sh.int
def Tail (P : Shared → Prop) (M : Model) (A : Around) (rest : List Stmt) (env : Env) (Q : Flow → Shared → Prop) (E : Value → Shared → Prop) : Prop := ∀ s₂, P s₂ → wpAny M A (execs rest env) Q E s₂
/-- where ways meet: what lies behind is shown once -/
theorem seq_by {P : Shared → Prop} {M : Model} {A : Around} {rest : List Stmt} {env : Env} {Q : Flow → Shared → Prop} {E : Value → Shared → Prop} {s : Shared} (t : Tail P M A rest env Q E) (H : P s) : Seq M A rest env Q E .next s := t s H
theorem RepC.drop {st : Sta} {ad : Nat → Addr} {ob : Nat → Obj} {pool pool' : List (Addr × Obj)} {b : Nat → Bool} {hs : Nat → List Int} {rows : List LRow} (R : RepC st ad ob pool b hs rows)
    (hp : ∀ p ∈ pool, p.2.cls ≠ .type "range_iterator" → p ∈ pool') : RepC st ad ob pool' b hs rows :=
  ⟨hp _ R.x (by intro e; cases e), hp _ R.chl (by intro e; simp at e), fun k hk => hp _ (R.c k hk) (by intro e; cases e), fun l hl => hp _ (R.rin l hl) (by intro e; simp at e), R.dx, R.w, R.d, R.l⟩
theorem RepB.drop {prog : Program} {w : World} {st : Sta} {ad : Nat → Addr} {ob : Nat → Obj} {pool pool' : List (Addr × Obj)} {b : Nat → Bool} {hs : Nat → List Int} {rows : List LRow} (R : RepB prog w st ad ob pool b hs rows)
    (hp : ∀ p ∈ pool, p.2.cls ≠ .type "range_iterator" → p ∈ pool') : RepB prog w st ad ob pool' b hs rows :=
  ⟨hp _ R.br (by intro e; simp at e), hp _ R.bh (by intro e; simp at e), fun l hl => hp _ (R.rin l hl) (by intro e; simp at e), R.bkA, R.bk, R.bc, R.v, R.m⟩
theorem drop_it {h₀ h : Heap} {L I : Addr} {it : Obj} {pool : List (Addr × Obj)} (N : News h₀ L h pool) (hI : (I, it) ∈ pool) (hc : it.cls = .type "range_iterator") :
    ∀ p ∈ pool, p.2.cls ≠ .type "range_iterator" → p ∈ pool.filter fun p => p.1 != I := fun p hp hn => by
  refine List.mem_filter.mpr ⟨hp, ?_⟩
  by_cases e : p.1 = I
  · have h1 := (N p hp).1
    have h2 := (N _ hI).1
    rw [e] at h1
    exact absurd (by rw [Option.some.inj (h1.symm.trans h2)]; exact hc) hn
  · simpa using e
theorem step1_elim {P : Prop} {h₀ h : Heap} {L : Addr} {ad : Nat → Addr} {ob : Nat → Obj} {pool T : List (Addr × Obj)} (c1 : Nat) (M : CellsOk ad pool) (N : News h₀ L h (T ++ led ad ob pool)) (hT : TOff T ad pool) (h1 : c1 < 11)
    (k : ∀ rest, News h₀ L h ((ad c1, ob c1) :: rest) → OwnOff rest [ad c1] → (∀ p ∈ T, p ∈ rest) → (∀ i, i < 11 → i ≠ c1 → (ad i, ob i) ∈ rest) → (∀ p ∈ pool, p ∈ rest) →
      (∀ (h₁ : Heap) (L₁ : Addr) h' o1 fresh, OwnOff fresh (ad c1 :: rest.map (·.1)) → News h₁ L₁ h' ((ad c1, o1) :: (fresh ++ rest)) →
        CellsOk ad (fresh ++ pool) ∧ News h₁ L₁ h' (T ++ led ad (upd ob c1 o1) (fresh ++ pool)) ∧ TOff T ad (fresh ++ pool)) → P) : P := by
  obtain ⟨rest, q1, q2, q3, q4, q5, q6⟩ := step1 c1 M N hT h1
  exact k rest q1 q2 q3 q4 q5 q6
theorem fill_P23 : Challenge.rw_xm0171_01 = Challenge.rw_xm0171_01 ∧ Mine.hd.heap_39 = Mine.hd.heap_39 := by
  k_fill
  w_top off
  k_with "kd_in" => (first | exact cut_nil | (apply cut_cons; kd_in))
  k_with "kd_all" => (first | assumption | exact toff_nil | (refine toff_cons ?_ ?_; (first | exact off_lt (by tb_rel) | assumption); kd_all))
  k_with "call ref" => ((k_here; guard_target =~ wpAny _ _ (call (Value.ref 328) _) _ _ _; k_dflt ((first | refine' lawmay_D (k := true) ?u0 ?u1 ?u2 ?u3 ?u4 ?u5 ?u6 ?u7 ?u8 ?u9 ?u10 ?u11 ?u12 ?u13 ?_ | refine' lawmay_D (k := false) ?u0 ?u1 ?u2 ?u3 ?u4 ?u5 ?u6 ?u7 ?u8 ?u9 ?u10 ?u11 ?u12 ?u13 ?_ | refine' lawmay_D ?u0 ?u1 ?u2 ?u3 ?u4 ?u5 ?u6 ?u7 ?u8 ?u9 ?u10 ?u11 ?u12 ?u13 ?_); k_extra "gnd"; (case u9 => assumption); (case u8 => exact cut_mem (by kd_in)); (case u10 => assumption); (case u11 => first | assumption | omega); (case u12 => first | assumption | omega); (case u13 => assumption)); (intro y0 y1 y2 yN)))
  k_with "call ref" => ((k_here; guard_target =~ wpAny _ _ (call (Value.ref 110) _) _ _ _; k_dflt ((first | refine' maydo_D (k := true) ?u0 ?u1 ?u2 ?u3 ?u4 ?u5 ?u6 ?u7 ?u8 ?u9 ?u10 ?u11 ?u12 ?u13 ?_ | refine' maydo_D (k := false) ?u0 ?u1 ?u2 ?u3 ?u4 ?u5 ?u6 ?u7 ?u8 ?u9 ?u10 ?u11 ?u12 ?u13 ?_ | refine' maydo_D ?u0 ?u1 ?u2 ?u3 ?u4 ?u5 ?u6 ?u7 ?u8 ?u9 ?u10 ?u11 ?u12 ?u13 ?_); k_extra "gnd"; (case u9 => assumption); (case u8 => exact cut_mem (by kd_in)); (case u10 => assumption); (case u11 => first | assumption | omega); (case u12 => first | assumption | omega); (case u13 => assumption)); (intro y0 y1 y2 yN)))
  k_with "call ref" => ((k_here; guard_target =~ wpAny _ _ (call (Value.ref 103) _) _ _ _; k_dflt (refine' maytake_D ?u0 ?u1 ?u2 ?u3 ?u4 ?u5 ?u6 ?u7 ?u8 ?u9 ?u10 ?u11 ?u12 ?u13 ?_; k_extra "gnd"; (case u9 => assumption); (case u8 => exact cut_mem (by kd_in)); (case u10 => assumption); (case u11 => first | assumption | omega); (case u12 => first | assumption | omega); (case u13 => assumption)); (intro y0 y1 y2 yN)))
  k_with "call ref" => ((k_here; guard_target =~ wpAny _ _ (call (Value.ref 96) _) _ _ _; k_dflt (refine' maysend_D ?u0 ?u1 ?u2 ?u3 ?u4 ?u5 ?u6 ?u7 ?u8 ?u9 ?u10 ?u11 ?u12 ?u13 ?_; k_extra "gnd"; (case u9 => assumption); (case u8 => exact cut_mem (by kd_in)); (case u10 => assumption); (case u11 => first | assumption | omega); (case u12 => first | assumption | omega); (case u13 => assumption)); (intro y0 y1 y2 yN)))
  k_with "call ref" => ((k_here; guard_target =~ wpAny _ _ (call (Value.ref 110) _) _ _ _; k_dflt ((first | refine' maydo_none_D (k := true) ?u0 ?u1 ?u2 ?u3 ?u4 ?u5 ?u6 ?u7 ?u8 ?u9 ?_ | refine' maydo_none_D (k := false) ?u0 ?u1 ?u2 ?u3 ?u4 ?u5 ?u6 ?u7 ?u8 ?u9 ?_); k_extra "gnd"; (case u9 => assumption); (case u8 => exact cut_mem (by kd_in))); (intro y0 y1 y2 yN)))
  k_with "call ref" => ((k_here; guard_target =~ wpAny _ _ (call (Value.ref 117) _) _ _ _; k_dflt (refine' send_D ?u0 ?u1 ?u2 ?u3 ?u4 ?u5 ?u6 ?u7 ?u8 ?u9 ?u10 ?u11 ?u12 ?u13 ?u14 ?u15 ?u16 ?u17 ?_; k_extra "gnd"; (case u8 => kd_in); (case u9 => kd_all); (case u10 => assumption); (case u11 => assumption); (case u12 => assumption); (case u13 => assumption); (case u14 => first | assumption | omega); (case u15 => assumption); (case u16 => assumption); (case u17 => assumption)); (intro y0 y1 y2 y3 y4 y5 y6 y7 y8 y9 y10 y11 y12 y13 y14 yN; (dsimp only [List.cons_append, List.nil_append] at yN))))
  k_with "call ref" => ((k_here; guard_target =~ wpAny _ _ (call (Value.ref 124) _) _ _ _; k_dflt (refine' take_D (v := 0) ?u0 ?u1 ?u2 ?u3 ?u4 ?u5 ?u6 ?u7 ?u8 ?u9 ?u10 ?u11 ?u12 ?u13 ?u14 ?u15 ?u16 ?u17 ?_; k_extra "gnd"; (case u8 => kd_in); (case u9 => kd_all); (case u10 => assumption); (case u11 => assumption); (case u12 => assumption); (case u13 => assumption); (case u14 => first | assumption | omega); (case u15 => assumption); (case u16 => assumption); (case u17 => assumption)); (intro y0 y1 y2 y3 y4 y5 y6 y7 y8 y9 y10 y11 y12 y13 y14 yN; (dsimp only [List.cons_append, List.nil_append] at yN))))
  k_with "call ref" => ((k_here; guard_target =~ wpAny _ _ (call (Value.ref 335) _) _ _ _; k_dflt ((first | refine' lawdone_D (k := true) ?u0 ?u1 ?u2 ?u3 ?u4 ?u5 ?u6 ?u7 ?u8 ?u9 ?u10 ?u11 ?u12 ?u13 ?u14 ?u15 ?u16 ?u17 ?_ | refine' lawdone_D (k := false) ?u0 ?u1 ?u2 ?u3 ?u4 ?u5 ?u6 ?u7 ?u8 ?u9 ?u10 ?u11 ?u12 ?u13 ?u14 ?u15 ?u16 ?u17 ?_ | refine' lawdone_D ?u0 ?u1 ?u2 ?u3 ?u4 ?u5 ?u6 ?u7 ?u8 ?u9 ?u10 ?u11 ?u12 ?u13 ?u14 ?u15 ?u16 ?u17 ?_); k_extra "gnd"; (case u8 => kd_in); (case u9 => kd_all); (case u10 => assumption); (case u11 => assumption); (case u12 => assumption); (case u13 => assumption); (case u14 => first | assumption | omega); (case u15 => assumption); (case u16 => assumption); (case u17 => assumption)); (intro y0 y1 y2 y3 y4 y5 y6 y7 y8 y9 y10 y11 y12 y13 y14 yN; (dsimp only [List.cons_append, List.nil_append] at yN))))
  k_with "call ref" => ((k_here; guard_target =~ wpAny _ _ (call (Value.ref 138) _) _ _ _; k_dflt (refine' close_D ?u0 ?u1 ?u2 ?u3 ?u4 ?u5 ?u6 ?u7 ?u8 ?u9 ?u10 ?u11 ?u12 ?u13 ?u14 ?u15 ?u16 ?_; k_extra "gnd"; (case u8 => kd_in); (case u9 => kd_all); (case u10 => assumption); (case u11 => assumption); (case u12 => assumption); (case u13 => assumption); (case u14 => first | assumption | omega); (case u15 => assumption); (case u16 => assumption)); (intro y0 y1 y2 y3 y4 y5 y6 y7 y8 y9 y10 y11 y12 y13 y14 yN; (dsimp only [List.cons_append, List.nil_append] at yN))))
  k_with "call ref" => ((k_here; guard_target =~ wpAny _ _ (call (Value.ref 342) _) _ _ _; k_dflt (refine' lawclosed_D ?u0 ?u1 ?u2 ?u3 ?u4 ?u5 ?u6 ?u7 ?u8 ?u9 ?u10 ?u11 ?u12 ?u13 ?u14 ?u15 ?u16 ?_; k_extra "gnd"; (case u8 => kd_in); (case u9 => kd_all); (case u10 => assumption); (case u11 => assumption); (case u12 => assumption); (case u13 => assumption); (case u14 => first | assumption | omega); (case u15 => assumption); (case u16 => assumption)); (intro y0 y1 y2 y3 y4 y5 y6 y7 y8 y9 y10 y11 y12 y13 y14 yN; (dsimp only [List.cons_append, List.nil_append] at yN))))
  k_with "call ref" => ((k_here; guard_target =~ wpAny _ _ (call (Value.ref 152) _) _ _ _; k_dflt (refine' wait1_D ?u0 ?u1 ?u2 ?u3 ?u4 ?u5 ?u6 ?u7 ?u8 ?u9 ?u10 ?u11 ?u12 ?u13 ?u14 ?u15 ?u16 ?_; k_extra "gnd"; (case u8 => kd_in); (case u9 => kd_all); (case u10 => assumption); (case u11 => assumption); (case u12 => assumption); (case u13 => assumption); (case u14 => first | assumption | omega); (case u15 => k_mem); (case u16 => k_mem)); (intro y0 y1 y2 y3 y4 y5 y6 y7 y8 y9 y10 y11 yN; (dsimp only [List.cons_append, List.nil_append] at yN))))
  k_with "call ref" => ((k_here; guard_target =~ wpAny _ _ (call (Value.ref 152) _) _ _ _; k_dflt (refine' wait3_D ?u0 ?u1 ?u2 ?u3 ?u4 ?u5 ?u6 ?u7 ?u8 ?u9 ?u10 ?u11 ?u12 ?u13 ?u14 ?u15 ?u16 ?u17 ?u18 ?_; k_extra "gnd"; (case u8 => kd_in); (case u9 => kd_all); (case u10 => assumption); (case u11 => assumption); (case u12 => assumption); (case u13 => assumption); (case u14 => first | assumption | omega); (case u15 => k_mem); (case u16 => k_mem); (case u17 => k_mem); (case u18 => k_mem)); (intro y0 y1 y2 y3 y4 y5 y6 y7 y8 y9 y10 y11 yN; (dsimp only [List.cons_append, List.nil_append] at yN))))
  k_with "call ref" => ((k_here; guard_target =~ wpAny _ _ (call (Value.ref 309) _) _ _ _; k_dflt (refine' one_rule ?u0 ?u1 ?u2 ?u3 ?u4 ?u5 ?u6 ?u7 ?u8 ?u9 ?u10 ?u11 ?u12 ?_; k_extra "gnd"; (case u8 => k_updF); (case u9 => k_mem); (case u10 => assumption); (case u11 => assumption); (case u12 => assumption)); (intro y0 y1 y2 y3 y4 y5 y6 y7 y8 y9 y10 y11 yN; (try dsimp only at yN))))
  k_with "exec For Tuple Call cons nil" => ((k_here; (rename Fr _ _ _ _ => lFz9); (with_unfolding_all refine' For_turns lFz9 ?_; k_whole)))
  k_with "call type:enumerate" => ((k_here; (with_reducible show wpAny _ _ (call (Value.type _) [Value.ref _]) (fun xv s₁ => wpAny _ _ (pyIter xv) (fun it s₂ => TurnsAt _ _ _ _ _ _ _ _ _ it s₂) _ s₁) _ _); (rename Fr _ _ _ _ => lFz9); (rename News _ _ _ _ => lNz9); k_dflt (first
  | refine ktu_enum (lo := listOf [Value.ref _].toArray _) (vs := [Value.ref _]) (xs := [Itm.pair (fun t => Value.int (0 : Int) t) (Value.ref _)]) (by rfl) lFz9 lNz9 (by k_mem) (by rfl) (by rfl) (by rfl) ?_
  | refine ktu_enum (lo := listOf [Value.ref _, Value.ref _, Value.ref _].toArray _) (vs := [Value.ref _, Value.ref _, Value.ref _]) (xs := [Itm.pair (fun t => Value.int (0 : Int) t) (Value.ref _), Itm.pair (fun t => Value.int (1 : Int) t) (Value.ref _), Itm.pair (fun t => Value.int (2 : Int) t) (Value.ref _)]) (by rfl) lFz9 lNz9 (by k_mem) (by rfl) (by rfl) (by rfl) ?_); clear lFz9; intro iz9 l1z9; (try k_lt l1z9)))
  k_with "tb_start" => (first | exact off2_rest (by tb_rel) | (refine off2_cons (by omega) (by omega) ?_; tb_start))
  k_with "UnrEndW" => ((k_dflt (first
  | refine unrEndW_mid (a := [_]) (by assumption) (by assumption) (by tb_start) ⟨⟨by k_mem, trivial⟩, ?_⟩
  | refine unrEndW_mid (a := []) (by assumption) (by assumption) (by tb_start) ⟨⟨by k_mem, trivial⟩, ?_⟩)))
  k_with "call ref" => (((with_reducible show wpAny _ _ (call (Value.ref 145) _) _ _ _); refine Stop.intro ?_))
  k_with "binaryOp Add ref ref" => ((k_here; k_dflt (refine' my_cat ?F ?N ?a ?b ?z ?_; (case F => k_asm); (case N => k_asm); (case a => k_mem); (case b => k_mem); (case z => omega)); intro Dz9 hz9 Fz9 Nz9 l1z9; (try k_lt l1z9); (try k_sweep)))
  k_with "pyIter ref" => ((k_here; (with_reducible show wpAny _ _ (pyIter (Value.ref _)) (fun it s₂ => LoopAtV _ _ _ _ _ _ _ _ _ it s₂) _ _); (rename Fr _ _ _ _ => lFz9); (rename News _ _ _ _ => lNz9); k_dflt (with_unfolding_all refine iter_listUnr (lo := listOf [Value.str _ _, Value.str _ _].toArray _) (vs := [Value.str _ _, Value.str _ _]) (by rfl) lFz9 lNz9 (by k_mem) (by rfl) (by rfl) ?_); clear lFz9; intro iz9 l1z9; (try k_lt l1z9)))
  k_with "UnrEnd" => ((k_dflt (first
  | refine unrEnd_cut (by assumption) (by assumption) (by kd_in) (by repeat (first | tb_rel | refine allLt_cons (by omega) ?_)) ⟨by k_mem, ?_⟩
  | refine unrEnd_cut (by assumption) (by assumption) (by kd_in) (by repeat (first | tb_rel | refine allLt_cons (by omega) ?_)) ?_)))
  k_with "compareOp NotEq bool bool" => ((k_here; with_reducible refine ne_bool ?_))
  k_with "exec For Tuple Call cons nil" => ((k_here; (have hmm9z9 : Mark := (by assumption)); refine Stop.intro ?_))
  exact ⟨rfl, rfl⟩
set_option maxRecDepth 100000 in
set_option maxHeartbeats 8000000 in
theorem deed_rule {prog : Program} {w : World} {p : Program} {loose : List Str} {mean : ExcName → Option Value} {mg mb : Str → Option Value}
  {dp un : Nat} {gd : Option (List Code)} {cn : Str} {cs : Scope} {a : Addr} {ccd : Value} {cl : List (Str × Addr)} {outer : List Env} {A₀ : Around} {base h₀ : Heap} {L : Addr} {m : Str → Option Value} {s : Shared} {Q E : Value → Shared → Prop}
  {st : Sta} {ad : Nat → Addr} {ob : Nat → Obj} {pool : List (Addr × Obj)} {b : Nat → Bool} {hs : Nat → List Int} {rows rows₂ : List LRow} {R : List Row} {pot : Addr} {p0 p1 : Int} {t0 t1 tt : Tok} {np : Nat} {turn : Int}
  (B : Below A₀ base outer h₀) (F : Fr h₀ L s.heap m) (X : (Mine.hd.heap_39 w.params).In h₀) (T : Top p loose mean mg mb h₀) (hk : cs.kind = .function) (hdp : dp + 40 < recursionLimit) (hun : un + 700 < cLine) (N : News h₀ L s.heap ((pot, potObj p0 p1 t0 t1 np) :: led ad ob pool)) (off : OwnOff (led ad ob pool) [pot]) (hpot : (∀ i, i < 11 → pot ≠ ad i) ∧ ∀ q ∈ pool, pot ≠ q.1)
  (M : CellsOk ad pool) (RC : RepC st ad ob pool b hs rows) (RB : RepB prog w st ad ob pool b hs rows₂) (hR : rows.map (·.r) = R) (hR₂ : rows₂.map (·.r) = R) (hlr : R.length ≤ 300) (hlen : ∀ k, k < 2 → (hs k).length ≤ 400)
  (hp0 : 0 ≤ p0) (hp1 : 0 ≤ p1) (hp2 : p1 < 2147483171) (ht0 : 0 ≤ turn) (ht1 : turn < 100)
  (hret : ∀ ad' ob' pool' b' hs' rows' rows₂' R' p0' p1' t0' t1' h' tk', CellsOk ad' pool' → TOff [(pot, potObj p0' p1' t0' t1' np)] ad' pool' → RepC st ad' ob' pool' b' hs' rows' → RepB prog w st ad' ob' pool' b' hs' rows₂' → rows'.map (·.r) = R' → rows₂'.map (·.r) = R' →
    R'.length ≤ R.length + 2 → (∀ k, k < 2 → (hs' k).length ≤ (hs k).length + 1) → 0 ≤ p0' → 0 ≤ p1' → p1' < 2147483171 → (∀ p ∈ pool, p ∈ pool') → Fr h₀ L h' m → News h₀ L h' ((pot, potObj p0' p1' t0' t1' np) :: led ad' ob' pool') → Q (.bool true) { s with heap := h', toks := tk' }) :
  wpAny (model prog w) (ktrTop dp un gd cn cs L a ccd cl outer) (call (.ref 349) [.ref pot, .ref st.x, .ref st.bk, .int turn tt]) Q E s := by
  have hlx : (st.x, instObj 155 (ad 0)) ∈ led ad ob pool := led_pool RC.x
  have hldx : (ad 0, chDict st.ct st.chl (ad 1)) ∈ led ad ob pool := led_at RC.dx (by omega)
  have hMark : Mark := Mark.intro
  refine wpAny_call ?_
  k_dflt ktr_enter
  k_steps
  · skip
    rename News _ _ _ _ => qN
    rename CellsOk _ _ => qM
    rename TOff _ _ _ => qT
    rename RepC _ _ _ _ _ _ _ => qC
    rename RepB _ _ _ _ _ _ _ _ _ => qB
    rename (∀ p ∈ _, p ∈ _) => qP2
    rename (∀ p ∈ pool, p ∈ _) => qP1
    k_dflt (refine' eq_same (n := 4) qN ?ha ?hb ?sh (by omega) ?u ?_)
    case ha => exact Bears.mono (by assumption) fun p hp => cut_mem (by kd_in) p (led_pool (qP2 p hp))
    case hb => exact Bears.mono (by assumption) fun p hp => cut_mem (by kd_in) p (led_pool hp)
    case sh => first | exact sh_close | exact sh_done
    case u => ktr_units
    k_steps
    rename News h₀ L _ _ => kN
    exact hret _ _ _ _ _ _ _ _ _ _ _ _ _ _ qM (toff_sub qT (one_mem (by k_mem))) qC qB (by assumption) (by assumption) closeR_len (fun k hk => Nat.le_add_right _ _) (by assumption) (by assumption) (by assumption) (fun p hp => qP2 p (qP1 p hp)) (by assumption)
      (News.sub kN (two_mem (by k_mem) (cut_mem (by kd_in))))
  · rename Bool => kk
    have hk1 : kk = true := kStr_send.symm.trans (by assumption)
    subst hk1
    rename News _ _ _ _ => qN
    rename CellsOk _ _ => qM
    rename TOff _ _ _ => qT
    rename RepC _ _ _ _ _ _ _ => qC
    rename RepB _ _ _ _ _ _ _ _ _ => qB
    rename (∀ p ∈ _, p ∈ _) => qP2
    rename (∀ p ∈ pool, p ∈ _) => qP1
    k_dflt (refine' eq_same (n := 4) qN ?ha ?hb ?sh (by omega) ?u ?_)
    case ha => exact Bears.mono (by assumption) fun p hp => cut_mem (by kd_in) p (led_pool (qP2 p hp))
    case hb => exact Bears.mono (by assumption) fun p hp => cut_mem (by kd_in) p (led_pool hp)
    case sh => first | exact sh_close | exact sh_done
    case u => ktr_units
    k_steps
    rename News h₀ L _ _ => kN
    exact hret _ _ _ _ _ _ _ _ _ _ _ _ _ _ qM (toff_sub qT (one_mem (by k_mem))) qC qB (by assumption) (by assumption) doneR_len (upd_hs doneR_hs) (by assumption) (by assumption) (by assumption) (fun p hp => qP2 p (qP1 p hp)) (by assumption)
      (News.sub kN (two_mem (by k_mem) (cut_mem (by kd_in))))
  · rename Bool => kk
    have hk1 : kk = false := kStr_send.symm.trans (by assumption)
    subst hk1
    rename News _ _ _ _ => qN
    rename CellsOk _ _ => qM
    rename TOff _ _ _ => qT
    rename RepC _ _ _ _ _ _ _ => qC
    rename RepB _ _ _ _ _ _ _ _ _ => qB
    rename (∀ p ∈ _, p ∈ _) => qP2
    rename (∀ p ∈ pool, p ∈ _) => qP1
    k_dflt (refine' eq_same (n := 4) qN ?ha ?hb ?sh (by omega) ?u ?_)
    case ha => exact Bears.mono (by assumption) fun p hp => cut_mem (by kd_in) p (led_pool (qP2 p hp))
    case hb => exact Bears.mono (by assumption) fun p hp => cut_mem (by kd_in) p (led_pool hp)
    case sh => first | exact sh_close | exact sh_done
    case u => ktr_units
    k_steps
    rename News h₀ L _ _ => kN
    exact hret _ _ _ _ _ _ _ _ _ _ _ _ _ _ qM (toff_sub qT (one_mem (by k_mem))) qC qB (by assumption) (by assumption) doneR_len (upd_hs doneR_hs) (by assumption) (by assumption) (by assumption) (fun p hp => qP2 p (qP1 p hp)) (by assumption)
      (News.sub kN (two_mem (by k_mem) (cut_mem (by kd_in))))
  · skip
    refine Stop.out ?_
    clear hMark; rename Mark => qMk; clear qMk
    rename News _ _ _ _ => qN
    rename CellsOk _ _ => qM
    rename TOff _ _ _ => qT
    rename RepC _ _ _ _ _ _ _ => qC
    rename RepB _ _ _ _ _ _ _ _ _ => qB
    rename (∀ p ∈ _, p ∈ _) => qP1
    rename (List.map _ _ = _ ++ _) => qR
    obtain ⟨nv, ev⟩ := qB.v
    refine step1_elim 4 qM (by exact qN) qT (by omega) ?_
    intro rest qN1 qo1 iT iC iP fin
    rw [ev] at qN1
    have qbk := iC 2 (by omega) (by omega)
    rw [qB.bkA] at qbk
    have qbd := qB.bk
    have qpot := fin
    repeat (have i9 := iT _ (List.Mem.head _); replace iT := fun p hp => iT p (List.Mem.tail _ hp))
    have hl2 : rows₂.length ≤ 1000 := by rw [← hR₂, List.length_map] at hlr; omega
    clear qN iC iP qpot
    k_steps
    rename News _ _ _ _ => kN
    obtain ⟨new, fresh, e1, e2, e3, e4⟩ := wait_end1 kN (by omega) (by tb_rel)
    obtain ⟨M', N'', T'⟩ := fin _ _ _ _ _ e3 e4
    exact hret _ _ _ _ _ _ _ _ _ _ _ _ _ _ M' (toff_sub T' (one_mem (by k_mem))) (qC.keep (fun i i2 i3 i4 i9 i10 => ⟨rfl, upd_ne i4⟩) fun p hp => List.mem_append_right _ hp) (qB.waited e2) qR (by rw [List.map_append, hR₂, e1]) (by rw [List.length_append]; exact Nat.add_le_add_left (by simp) _) (fun k hk => Nat.le_add_right _ _) (by assumption) (by assumption) (by assumption)
      (fun p hp => List.mem_append_right _ (qP1 p hp)) (by assumption) (News.sub N'' (two_mem (List.mem_append_left _ (by k_mem)) fun p hp => List.mem_append_right _ hp))
  · skip
    refine Stop.out ?_
    clear hMark; rename Mark => qMk; clear qMk
    rename News _ _ _ _ => qN
    rename CellsOk _ _ => qM
    rename TOff _ _ _ => qT
    rename RepC _ _ _ _ _ _ _ => qC
    rename RepB _ _ _ _ _ _ _ _ _ => qB
    rename (∀ p ∈ _, p ∈ _) => qP1
    rename (List.map _ _ = _ ++ _) => qR
    obtain ⟨nv, ev⟩ := qB.v
    refine step1_elim 4 qM (by exact qN) qT (by omega) ?_
    intro rest qN1 qo1 iT iC iP fin
    rw [ev] at qN1
    have qbk := iC 2 (by omega) (by omega)
    rw [qB.bkA] at qbk
    have qbd := qB.bk
    have qpot := fin
    repeat (have i9 := iT _ (List.Mem.head _); replace iT := fun p hp => iT p (List.Mem.tail _ hp))
    have hl2 : rows₂.length ≤ 1000 := by rw [← hR₂, List.length_map] at hlr; omega
    clear qN iC iP qpot
    k_steps
    rename News _ _ _ _ => kN
    obtain ⟨new, fresh, e1, e2, e3, e4⟩ := wait_end2 kN (by omega) (by tb_rel) (by omega) (by tb_rel)
    obtain ⟨M', N'', T'⟩ := fin _ _ _ _ _ e3 e4
    exact hret _ _ _ _ _ _ _ _ _ _ _ _ _ _ M' (toff_sub T' (one_mem (by k_mem))) (qC.keep (fun i i2 i3 i4 i9 i10 => ⟨rfl, upd_ne i4⟩) fun p hp => List.mem_append_right _ hp) (qB.waited e2) qR (by rw [List.map_append, hR₂, e1]) (by rw [List.length_append]; exact Nat.add_le_add_left (by simp) _) (fun k hk => Nat.le_add_right _ _) (by assumption) (by assumption) (by assumption)
      (fun p hp => List.mem_append_right _ (qP1 p hp)) (by assumption) (News.sub N'' (two_mem (List.mem_append_left _ (by k_mem)) fun p hp => List.mem_append_right _ hp))
  · skip
    refine Stop.out ?_
    clear hMark; rename Mark => qMk; clear qMk
    rename News _ _ _ _ => qN
    rename CellsOk _ _ => qM
    rename TOff _ _ _ => qT
    rename RepC _ _ _ _ _ _ _ => qC
    rename RepB _ _ _ _ _ _ _ _ _ => qB
    rename (∀ p ∈ _, p ∈ _) => qP1
    rename (List.map _ _ = _ ++ _) => qR
    obtain ⟨nv, ev⟩ := qB.v
    refine step1_elim 4 qM (by exact qN) qT (by omega) ?_
    intro rest qN1 qo1 iT iC iP fin
    rw [ev] at qN1
    have qbk := iC 2 (by omega) (by omega)
    rw [qB.bkA] at qbk
    have qbd := qB.bk
    have qpot := fin
    repeat (have i9 := iT _ (List.Mem.head _); replace iT := fun p hp => iT p (List.Mem.tail _ hp))
    have hl2 : rows₂.length ≤ 1000 := by rw [← hR₂, List.length_map] at hlr; omega
    clear qN iC iP qpot
    k_steps
    rename News _ _ _ _ => kN
    obtain ⟨new, fresh, e1, e2, e3, e4⟩ := wait_end1 kN (by omega) (by tb_rel)
    obtain ⟨M', N'', T'⟩ := fin _ _ _ _ _ e3 e4
    exact hret _ _ _ _ _ _ _ _ _ _ _ _ _ _ M' (toff_sub T' (one_mem (by k_mem))) (qC.keep (fun i i2 i3 i4 i9 i10 => ⟨rfl, upd_ne i4⟩) fun p hp => List.mem_append_right _ hp) (qB.waited e2) qR (by rw [List.map_append, hR₂, e1]) (by rw [List.length_append]; exact Nat.add_le_add_left (by simp) _) (fun k hk => Nat.le_add_right _ _) (by assumption) (by assumption) (by assumption)
      (fun p hp => List.mem_append_right _ (qP1 p hp)) (by assumption) (News.sub N'' (two_mem (List.mem_append_left _ (by k_mem)) fun p hp => List.mem_append_right _ hp))
theorem my_len {prog : Program} {w : World} {A : Around} {E : Value → Shared → Prop} {s : Shared} {h₀ : Heap} {L : Addr} {news : List (Addr × Obj)} {l : Addr} {vs : List Value} {nv : Nat} {Q : Value → Shared → Prop}
    (N : News h₀ L s.heap news) (hm : (l, listOf vs.toArray nv) ∈ news) (hz : vs.length ≤ 1000) (h : ∀ t tk, Q (.int (vs.length : Nat) t) { s with toks := tk }) :
    wpAny (model prog w) A (call (.builtin "len") [.ref l]) Q E s := by
  refine len_list (N.isList hm) ?_ ?_
  · skip
    simp
    omega
  · simpa using h _ _
theorem allLt_trans {a b : Nat} (h : @LT.lt Nat _ a b) : ∀ {l : List (Addr × Obj)}, AllLt a l → AllLt b l
  | [], _ => True.intro
  | _ :: _, x => ⟨Nat.lt_trans x.1 h, allLt_trans h x.2⟩
section
variable {prog : Program} {w : World} {A : Around} {E : Value → Shared → Prop} {s : Shared} {env : Env} {h₀ : Heap} {x : Str} {body : List Stmt} {Q : Flow → Shared → Prop}
/-- a loop over a range: J says what holds between the turns of the number, the frame's map and the ledger -/
theorem iter_rangeJ {r : Addr} {a₀ b₀ : Int} {t₀ u₀ v₀ : Tok} {n : Nat} {m₀ : Str → Option Value} {news : List (Addr × Obj)} (J : Addr → Nat → (Str → Option Value) → List (Addr × Obj) → Prop)
    (hh : A.handled = none) (hr : IsRange s.heap r a₀ b₀ 1 t₀ u₀ v₀) (hsmall : Builtin.Range.small a₀ b₀ 1 = true) (hn : Builtin.Range.rangeSize a₀ b₀ 1 = (n : Int)) (F : Fr h₀ env.locals s.heap m₀) (N : News h₀ env.locals s.heap news)
    (hj : ∀ I : Addr, (∀ p ∈ news, p.1 < I) → J I 0 m₀ news)
    (turn : ∀ I i m₁ news₁ t h tk, i < n → J I i m₁ news₁ → Fr h₀ env.locals h (fun y => if y = x then some (.int (a₀ + (i : Int)) t) else m₁ y) →
      News h₀ env.locals h ((I, itR (a₀ + ((i + 1 : Nat) : Int)) ((n : Int) - ((i + 1 : Nat) : Int))) :: news₁) →
      wpAny (model prog w) A (execs body env) (UnrPost h₀ env.locals { s with heap := h, toks := tk } I (itR (a₀ + ((i + 1 : Nat) : Int)) ((n : Int) - ((i + 1 : Nat) : Int))) (J I (i + 1)) Q) E { s with heap := h, toks := tk })
    (done : ∀ I m₁ news₁ h tk, J I n m₁ news₁ → Fr h₀ env.locals h m₁ → News h₀ env.locals h news₁ → Q .next { s with heap := h, toks := tk }) :
    wpAny (model prog w) A (pyIter (.ref r)) (fun it s₂ => LoopAtV prog w A h₀ env x body Q E it s₂) E s := by
  refine iter_rangeUnr hh hr hsmall hn F N fun I hI => ?_
  have key : ∀ k i m₁ news₁, i + k = n → J I i m₁ news₁ → RangeRest prog w A E h₀ env x body Q s I a₀ n k i m₁ news₁ := by
    intro k
    induction k with
    | zero =>
      intro i m₁ news₁ e j
      have e' : i = n := by omega
      subst e'
      exact RangeRest.zero fun h tk F' N' => done I m₁ news₁ h tk j F' N'
    | succ k ih =>
      intro i m₁ news₁ e j
      refine RangeRest.succ fun t h tk F' N' => ?_
      exact wpAny_mono (turn I i m₁ news₁ t h tk (by omega) j F' N') (unrPost_imp fun _ _ j1 => ih _ _ _ (by omega) j1) fun _ _ e => e
  exact key n 0 m₀ news (by omega) (hj I hI)
def RightJ (prog : Program) (w : World) (st : Sta) (pot : Addr) (np : Nat) (m₀ : Str → Option Value) (x : Str) (ce : Addr) (oce : Obj) (I : Addr) (i : Nat) (m : Str → Option Value) (news : List (Addr × Obj)) : Prop :=
  ∃ v ad ob pool b hs rows rows₂ R p0 p1 t0 t1, m = (fun y => if y = x then v else m₀ y) ∧ news = (pot, potObj p0 p1 t0 t1 np) :: led ad ob pool ∧ CellsOk ad pool ∧ TOff [(pot, potObj p0 p1 t0 t1 np)] ad pool ∧
    RepC st ad ob pool b hs rows ∧ RepB prog w st ad ob pool b hs rows₂ ∧ rows.map (·.r) = R ∧ rows₂.map (·.r) = R ∧ R.length ≤ 2 * i ∧ (∀ k, k < 2 → (hs k).length ≤ i) ∧ (ce, oce) ∈ pool ∧ ce ≠ I ∧ pot ≠ I ∧ (∀ i, i < 11 → ad i ≠ I) ∧ (∀ q ∈ pool, q.1 ≠ I) ∧
    0 ≤ p0 ∧ 0 ≤ p1 ∧ p1 < 2147483171
theorem RightJ.elim {prog : Program} {w : World} {st : Sta} {pot : Addr} {np : Nat} {m₀ : Str → Option Value} {x : Str} {ce : Addr} {oce : Obj} {I : Addr} {i : Nat} {m : Str → Option Value} {news : List (Addr × Obj)} {P : (Str → Option Value) → List (Addr × Obj) → Prop} (h : RightJ prog w st pot np m₀ x ce oce I i m news)
    (k : ∀ v ad ob pool b hs rows rows₂ R p0 p1 t0 t1, CellsOk ad pool → TOff [(pot, potObj p0 p1 t0 t1 np)] ad pool → RepC st ad ob pool b hs rows → RepB prog w st ad ob pool b hs rows₂ → rows.map (·.r) = R → rows₂.map (·.r) = R → R.length ≤ 2 * i → (∀ k, k < 2 → (hs k).length ≤ i) → (ce, oce) ∈ pool → ce ≠ I → pot ≠ I → (∀ i, i < 11 → ad i ≠ I) →
      0 ≤ p0 → 0 ≤ p1 → p1 < 2147483171 → P (fun y => if y = x then v else m₀ y) ((pot, potObj p0 p1 t0 t1 np) :: led ad ob pool)) : P m news := by
  obtain ⟨v, ad, ob, pool, b, hs, rows, rows₂, R, p0, p1, t0, t1, rfl, rfl, M, O, RC, RB, e1, e2, hl, hlh, hc, c1, c2, c3, _, q0, q1, q2⟩ := h
  exact k v ad ob pool b hs rows rows₂ R p0 p1 t0 t1 M O RC RB e1 e2 hl hlh hc c1 c2 c3 q0 q1 q2
theorem right_loop {r pot : Addr} {st : Sta} {b₀ : Int} {t₀ u₀ v₀ : Tok} {np : Nat} {m₀ : Str → Option Value} {ad : Nat → Addr} {ob : Nat → Obj} {pool : List (Addr × Obj)} {p0 p1 : Int} {t0 t1 : Tok} {ce : Addr} {oce : Obj}
    (hh : A.handled = none) (hr : IsRange s.heap r 0 b₀ 1 t₀ u₀ v₀) (hb0 : 0 ≤ b₀) (hb1 : b₀ ≤ 9) (F : Fr h₀ env.locals s.heap m₀) (N : News h₀ env.locals s.heap ((pot, potObj p0 p1 t0 t1 np) :: led ad ob pool))
    (M : CellsOk ad pool) (O : TOff [(pot, potObj p0 p1 t0 t1 np)] ad pool) (RC : RepC st ad ob pool (fun _ => false) (fun _ => []) []) (RB : RepB prog w st ad ob pool (fun _ => false) (fun _ => []) []) (hc : (ce, oce) ∈ pool)
    (hp0 : 0 ≤ p0) (hp1 : 0 ≤ p1) (hp2 : p1 < 2147483171)
    (turn : ∀ I i t ad ob pool b hs rows rows₂ R p0 p1 t0 t1 it h tk, i < 9 → it.cls = .type "range_iterator" → (I, it) ∈ pool → ce ≠ I → CellsOk ad pool → TOff [(pot, potObj p0 p1 t0 t1 np)] ad pool → RepC st ad ob pool b hs rows → RepB prog w st ad ob pool b hs rows₂ →
      rows.map (·.r) = R → rows₂.map (·.r) = R → R.length ≤ 2 * i → (∀ k, k < 2 → (hs k).length ≤ i) → (ce, oce) ∈ pool → 0 ≤ p0 → 0 ≤ p1 → p1 < 2147483171 →
      Fr h₀ env.locals h (fun y => if y = x then some (.int (0 + (i : Int)) t) else m₀ y) → News h₀ env.locals h ((pot, potObj p0 p1 t0 t1 np) :: led ad ob pool) →
      wpAny (model prog w) A (execs body env) (UnrPost h₀ env.locals { s with heap := h, toks := tk } I it (RightJ prog w st pot np m₀ x ce oce I (i + 1)) Q) E { s with heap := h, toks := tk })
    (done : ∀ v ad ob pool b hs rows rows₂ p0 p1 t0 t1 h tk, RepC st ad ob pool b hs rows → RepB prog w st ad ob pool b hs rows₂ → (∀ k, k < 2 → (hs k).length ≤ 9) → (ce, oce) ∈ pool → 0 ≤ p0 → 0 ≤ p1 → p1 < 2147483171 →
      Fr h₀ env.locals h (fun y => if y = x then v else m₀ y) → News h₀ env.locals h ((pot, potObj p0 p1 t0 t1 np) :: led ad ob pool) → Q .next { s with heap := h, toks := tk }) :
    wpAny (model prog w) A (pyIter (.ref r)) (fun it s₂ => LoopAtV prog w A h₀ env x body Q E it s₂) E s := by
  refine iter_rangeJ (RightJ prog w st pot np m₀ x ce oce) hh hr (small_one (by omega) (by omega) (by omega) (by omega)) (rangeSize_nat _ _) F N (fun I hI => ?_) ?_ ?_
  · have hm : ∀ q ∈ pool, q.1 ≠ I := fun q hq => Nat.ne_of_lt (hI q (.tail _ (led_pool hq)))
    exact ⟨m₀ x, ad, ob, pool, fun _ => false, fun _ => [], [], [], [], p0, p1, t0, t1, put_self, rfl, M, O, RC, RB, rfl, rfl, Nat.zero_le _, fun _ _ => Nat.zero_le _, hc, hm _ hc, Nat.ne_of_lt (hI _ (.head _)), fun i hi => Nat.ne_of_lt (hI _ (.tail _ (led_cell hi))), hm, hp0, hp1, hp2⟩
  · intro I i m₁ news₁ t h tk hi hj
    refine RightJ.elim (P := fun m₁ news₁ => Fr h₀ env.locals h (fun y => if y = x then some (.int (0 + (i : Int)) t) else m₁ y) → News h₀ env.locals h ((I, itR (0 + ((i + 1 : Nat) : Int)) ((((b₀ - 0).toNat : Nat) : Int) - ((i + 1 : Nat) : Int))) :: news₁) → _) hj ?_
    intro v ad ob pool b hs rows rows₂ R p0 p1 t0 t1 M O RC RB e1 e2 hl hlh hc c1 c2 c3 q0 q1 q2 F' N'
    have hi9 : i < 9 := by omega
    have up : ∀ {it : Obj}, ∀ p ∈ pool, p ∈ (I, it) :: pool := fun p hp => .tail _ hp
    exact turn I i t ad ob _ b hs rows rows₂ R p0 p1 t0 t1 _ h tk hi9 rfl (.head _) c1 ⟨M.inj, sub_cons' (P := fun p : Addr × Obj => ∀ i, i < 11 → p.1 ≠ ad i) (fun j hj => Ne.symm (c3 j hj)) M.off⟩ (fun p hp => ⟨(O p hp).1, sub_cons' (P := fun q : Addr × Obj => p.1 ≠ q.1) (by rw [List.mem_singleton.mp hp]; exact c2) (O p hp).2⟩)
      (RC.keep (fun _ _ _ _ _ _ => ⟨rfl, rfl⟩) up) (RB.keep (fun _ _ => ⟨rfl, rfl⟩) up) e1 e2 hl hlh (up _ hc) q0 q1 q2 (fr_put2 F')
      (News.sub N' (sub_cons (ix_mem 1 rfl) fun p hp => (led_cases hp).elim (fun ⟨j, hj, e⟩ => e ▸ .tail _ (.tail _ (led_cell hj))) fun hp => (List.mem_cons.mp hp).elim (fun e => e ▸ .head _) fun hp => .tail _ (.tail _ (led_pool hp))))
  · intro I m₁ news₁ h tk hj
    refine RightJ.elim (P := fun m₁ news₁ => Fr h₀ env.locals h m₁ → News h₀ env.locals h news₁ → _) hj ?_
    intro v ad ob pool b hs rows rows₂ R p0 p1 t0 t1 M O RC RB e1 e2 hl hlh hc c1 c2 c3 q0 q1 q2 F' N'
    exact done v ad ob pool b hs rows rows₂ p0 p1 t0 t1 h tk RC RB (fun k hk => Nat.le_trans (hlh k hk) (by omega)) hc q0 q1 q2 F' N'
end
theorem right_end {prog : Program} {w : World} {st : Sta} {h₀ h' : Heap} {L pot I ce : Addr} {np i : Nat} {m₀ : Str → Option Value} {x : Str} {v : Option Value} {it oce : Obj} {all : List (Addr × Obj)} {s₁ : Shared} {tk : Nat} {ad : Nat → Addr} {ob : Nat → Obj} {pool : List (Addr × Obj)} {b : Nat → Bool} {hs : Nat → List Int} {rows rows₂ : List LRow} {R : List Row} {p0 p1 : Int} {t0 t1 : Tok}
    (F : Fr h₀ L h' (fun y => if y = x then v else m₀ y)) (N : News h₀ L h' all) (C : ∀ p ∈ (pot, potObj p0 p1 t0 t1 np) :: led ad ob pool, p ∈ all) (hI : (I, it) ∈ pool) (hit : it.cls = .type "range_iterator") (hce : ce ≠ I)
    (M : CellsOk ad pool) (O : TOff [(pot, potObj p0 p1 t0 t1 np)] ad pool) (RC : RepC st ad ob pool b hs rows) (RB : RepB prog w st ad ob pool b hs rows₂) (e1 : rows.map (·.r) = R) (e2 : rows₂.map (·.r) = R) (hl : R.length ≤ 2 * i) (hlh : ∀ k, k < 2 → (hs k).length ≤ i) (hc : (ce, oce) ∈ pool)
    (hp0 : 0 ≤ p0) (hp1 : 0 ≤ p1) (hp2 : p1 < 2147483171) : UnrEnd h₀ L s₁ I it (RightJ prog w st pot np m₀ x ce oce I i) { s₁ with heap := h', toks := tk } := by
  have N1 : News h₀ L h' ((pot, potObj p0 p1 t0 t1 np) :: led ad ob pool) := fun p hp => N p (C p hp)
  have keep := drop_it (I := I) (it := it) (pool := pool) (fun p hp => N1 p (.tail _ (led_pool hp))) hI hit
  have sub : ∀ p ∈ pool.filter fun p => p.1 != I, p ∈ pool := fun p hp => (List.mem_filter.mp hp).1
  have offp : ∀ p ∈ pool.filter fun p => p.1 != I, p.1 ≠ I := fun p hp => by simpa using (List.mem_filter.mp hp).2
  have offc : ∀ j, j < 11 → ad j ≠ I := fun j hj => Ne.symm (M.off _ hI j hj)
  have offt : pot ≠ I := (O _ (.head _)).2 _ hI
  refine ⟨h', tk, _, (pot, potObj p0 p1 t0 t1 np) :: led ad ob (pool.filter fun p => p.1 != I), rfl, F, fun p hp => ?_, fun p hp => ?_, v, ad, ob, pool.filter fun p => p.1 != I, b, hs, rows, rows₂, R, p0, p1, t0, t1, rfl, rfl, ⟨M.inj, fun p hp => M.off p (sub p hp)⟩, fun p hp => ⟨(O p hp).1, fun q hq => (O p hp).2 q (sub q hq)⟩,
    RC.drop keep, RB.drop keep, e1, e2, hl, hlh, List.mem_filter.mpr ⟨hc, by simpa using hce⟩, hce, offt, offc, offp, hp0, hp1, hp2⟩
  · rcases List.mem_cons.mp hp with rfl | hp
    · exact N1 _ (.tail _ (led_pool hI))
    · rcases List.mem_cons.mp hp with rfl | hp
      · exact N1 _ (.head _)
      · rcases led_cases hp with ⟨j, hj, rfl⟩ | hp
        · exact N1 _ (.tail _ (led_cell hj))
        · exact N1 _ (.tail _ (led_pool (sub p hp)))
  · rcases List.mem_cons.mp hp with rfl | hp
    · exact offt
    · rcases led_cases hp with ⟨j, hj, rfl⟩ | hp
      · exact offc j hj
      · exact offp p hp
theorem right_elim {P : Prop} {prog : Program} {w : World} {st : Sta} {ad : Nat → Addr} {ob : Nat → Obj} {pool : List (Addr × Obj)} {b : Nat → Bool} {hs : Nat → List Int} {rows rows₂ : List LRow} (RC : RepC st ad ob pool b hs rows) (RB : RepB prog w st ad ob pool b hs rows₂)
    (k : ∀ nw nv vs0 vs1 ws0 ws1 n0 n1 k0 k1, (st.x, instObj 155 (ad 0)) ∈ led ad ob pool →
      (ad 0, chDict st.ct st.chl (ad 1)) ∈ led ad ob pool →
      (ad 1, listOf (refsOf rows).toArray nw) ∈ led ad ob pool →
      (st.chl, listOf [Value.ref (st.c 0), Value.ref (st.c 1)].toArray st.n1) ∈ led ad ob pool →
      (st.c 0, instObj 38 (ad 5)) ∈ led ad ob pool →
      (st.c 1, instObj 38 (ad 6)) ∈ led ad ob pool →
      (ad 5, oneDict (st.ot 0) (st.room 0) (st.rt 0) (ad 7) (b 0)) ∈ led ad ob pool →
      (ad 6, oneDict (st.ot 1) (st.room 1) (st.rt 1) (ad 8) (b 1)) ∈ led ad ob pool →
      (ad 7, listOf vs0.toArray n0) ∈ led ad ob pool →
      (ad 8, listOf vs1.toArray n1) ∈ led ad ob pool →
      (st.bk, ob 2) ∈ led ad ob pool →
      (ob 2).IsDictOf (strKind prog w) (bkKvs st.br st.bh (ad 3) (ad 4)) →
      (st.br, listOf [Value.int (st.room 0) (st.rb 0), Value.int (st.room 1) (st.rb 1)].toArray st.n2) ∈ led ad ob pool →
      (st.bh, listOf [Value.ref (ad 9), Value.ref (ad 10)].toArray st.n3) ∈ led ad ob pool →
      (ad 4, listOf (refsOf rows₂).toArray nv) ∈ led ad ob pool →
      (ad 9, listOf ws0.toArray k0) ∈ led ad ob pool →
      (ad 10, listOf ws1.toArray k1) ∈ led ad ob pool →
      IntsAre vs0 (hs 0) →
      IntsAre vs1 (hs 1) →
      IntsAre ws0 (hs 0) →
      IntsAre ws1 (hs 1) →
      RowsIn rows (led ad ob pool) →
      RowsIn rows₂ (led ad ob pool) → P) : P := by
  obtain ⟨nw, ew⟩ := RC.w
  obtain ⟨nv, ev⟩ := RB.v
  obtain ⟨vs0, n0, f0, i0⟩ := RC.l 0 (lt_c rfl)
  obtain ⟨vs1, n1, f1, i1⟩ := RC.l 1 (lt_c rfl)
  obtain ⟨ws0, k0, g0, j0⟩ := RB.m 0 (lt_c rfl)
  obtain ⟨ws1, k1, g1, j1⟩ := RB.m 1 (lt_c rfl)
  exact k nw nv vs0 vs1 ws0 ws1 n0 n1 k0 k1 (led_pool RC.x) (led_at RC.dx (lt_c rfl)) (led_at ew (lt_c rfl)) (led_pool RC.chl) (led_pool (RC.c 0 (lt_c rfl))) (led_pool (RC.c 1 (lt_c rfl)))
    (led_at (RC.d 0 (lt_c rfl)) (lt_c rfl)) (led_at (RC.d 1 (lt_c rfl)) (lt_c rfl)) (led_at f0 (lt_c rfl)) (led_at f1 (lt_c rfl)) (RB.bkA ▸ led_cell (lt_c rfl)) RB.bk (led_pool RB.br) (led_pool RB.bh) (led_at ev (lt_c rfl)) (led_at g0 (lt_c rfl)) (led_at g1 (lt_c rfl)) i0 i1 j0 j1
    (RC.rin.mono fun p hp => led_pool hp) (RB.rin.mono fun p hp => led_pool hp)
theorem nodup_ne {l : List Nat} (h : l.Nodup) (i j : Nat) {a b : Nat} (ha : l[i]? = some a) (hb : l[j]? = some b) (hn : i ≠ j) : a ≠ b := by
  rintro rfl
  obtain ⟨hi, ei⟩ := List.getElem?_eq_some_iff.mp ha
  obtain ⟨hj, ej⟩ := List.getElem?_eq_some_iff.mp hb
  rcases Nat.lt_or_gt_of_ne hn with g | g
  · exact List.pairwise_iff_getElem.mp h i j hi hj g (ei.trans ej.symm)
  · exact List.pairwise_iff_getElem.mp h j i hj hi g (ej.trans ei.symm)
def pick11 {α : Type} (a0 a1 a2 a3 a4 a5 a6 a7 a8 a9 a10 : α) : Nat → α
  | 0 => a0 | 1 => a1 | 2 => a2 | 3 => a3 | 4 => a4 | 5 => a5 | 6 => a6 | 7 => a7 | 8 => a8 | 9 => a9 | _ => a10
theorem all11 {P : Nat → Prop} (h0 : P 0) (h1 : P 1) (h2 : P 2) (h3 : P 3) (h4 : P 4) (h5 : P 5) (h6 : P 6) (h7 : P 7) (h8 : P 8) (h9 : P 9) (h10 : P 10) : ∀ i, i < 11 → P i
  | 0, _ => h0 | 1, _ => h1 | 2, _ => h2 | 3, _ => h3 | 4, _ => h4 | 5, _ => h5 | 6, _ => h6 | 7, _ => h7 | 8, _ => h8 | 9, _ => h9 | 10, _ => h10
  | _ + 11, h => absurd h (by kln_le)
theorem two_cases {P : Nat → Prop} (h0 : P 0) (h1 : P 1) : ∀ k, k < 2 → P k
  | 0, _ => h0 | 1, _ => h1
  | _ + 2, h => absurd h (by kln_le)
def sig : Nat → Nat := pick11 16 13 5 1 0 11 8 9 6 4 3
theorem right_start {prog : Program} {w : World} {h₀ h : Heap} {L bw cl bh m1 m0 bk z1 z2 lh1 c1 d1 lh0 c0 d0 z3 rm wl chl x dx ce pot : Nat} {obk oz1 oz2 oz3 oce opot : Obj} {r0 r1 : Int} {tr0 tr1 tb0 tb1 ua ub tq0 tq1 tq2 tq3 : Tok} {ka kb : Int} {od0 od1 : OneTok} {nch : Nat}
    (N : News h₀ L h [(bw, listOf #[] 0), (cl, listOf #[Value.bool false, Value.bool false] 0), (bh, listOf #[Value.ref m0, Value.ref m1] 0), (m1, listOf #[] 0), (m0, listOf #[] 0), (bk, obk), (z1, oz1), (z2, oz2), (lh1, listOf #[] 0), (c1, instObj 38 d1),
      (d1, oneDict od1 r1 tr1 lh1 false), (lh0, listOf #[] 0), (c0, instObj 38 d0),
      (d0, oneDict od0 r0 tr0 lh0 false), (z3, oz3), (rm, listOf #[Value.int r0 tb0, Value.int r1 tb1] 0), (wl, listOf #[] 0),
      (chl, listOf #[Value.ref c0, Value.ref c1] nch), (x, instObj 155 dx), (dx, dictOf [⟨ka, .str "channels" ua, .ref chl⟩, ⟨kb, .str "waiting" ub, .ref wl⟩] 2), (ce, oce), (pot, opot)])
    (hd : obk.IsDictOf (PySem.strKind prog w) (strPairs [(.str "rooms" tq0, .ref rm), (.str "held" tq1, .ref bh), (.str "closed" tq2, .ref cl), (.str "waiting" tq3, .ref bw)]))
    (D : Falls [bw, cl, bh, m1, m0, bk, lh1, c1, d1, lh0, c0, d0, rm, wl, chl, x, dx, ce, pot]) :
    ∃ st ad ob pool, x = st.x ∧ bk = st.bk ∧ rm = st.br ∧ News h₀ L h ((pot, opot) :: led ad ob pool) ∧ CellsOk ad pool ∧ TOff [(pot, opot)] ad pool ∧ RepC st ad ob pool (fun _ => false) (fun _ => []) [] ∧ RepB prog w st ad ob pool (fun _ => false) (fun _ => []) [] ∧ (ce, oce) ∈ pool := by
  have nd := D.nodup
  have eA : ∀ i, i < 11 → [bw, cl, bh, m1, m0, bk, lh1, c1, d1, lh0, c0, d0, rm, wl, chl, x, dx, ce, pot][sig i]? = some (pick11 dx wl bk cl bw d0 d1 lh0 lh1 m0 m1 i) := all11 rfl rfl rfl rfl rfl rfl rfl rfl rfl rfl rfl
  let pool : List (Addr × Obj) := [(x, instObj 155 dx), (c0, instObj 38 d0), (c1, instObj 38 d1), (chl, listOf #[Value.ref c0, Value.ref c1] nch), (rm, listOf #[Value.int r0 tb0, Value.int r1 tb1] 0), (bh, listOf #[Value.ref m0, Value.ref m1] 0), (ce, oce)]
  have eP : ∀ p ∈ pool, ∃ k, k ∈ [15, 10, 7, 14, 12, 2, 17] ∧ [bw, cl, bh, m1, m0, bk, lh1, c1, d1, lh0, c0, d0, rm, wl, chl, x, dx, ce, pot][k]? = some p.1 := by
    simp only [pool, List.forall_mem_cons]
    exact ⟨⟨15, by decide, rfl⟩, ⟨10, by decide, rfl⟩, ⟨7, by decide, rfl⟩, ⟨14, by decide, rfl⟩, ⟨12, by decide, rfl⟩, ⟨2, by decide, rfl⟩, ⟨17, by decide, rfl⟩, fun _ h => (nomatch h)⟩
  have ePot : [bw, cl, bh, m1, m0, bk, lh1, c1, d1, lh0, c0, d0, rm, wl, chl, x, dx, ce, pot][18]? = some pot := rfl
  have s1 : ∀ i, i < 11 → ∀ j, j < 11 → i ≠ j → sig i ≠ sig j := by decide
  have s2 : ∀ k ∈ [15, 10, 7, 14, 12, 2, 17], ∀ i, i < 11 → k ≠ sig i := by decide
  have s3 : ∀ i, i < 11 → 18 ≠ sig i := by decide
  have s4 : ∀ k ∈ [15, 10, 7, 14, 12, 2, 17], 18 ≠ k := by decide
  refine ⟨⟨x, chl, fun k => if k = 0 then c0 else c1, bk, rm, bh, ⟨ka, ua, kb, ub⟩, fun k => if k = 0 then od0 else od1, fun k => if k = 0 then r0 else r1, fun k => if k = 0 then tr0 else tr1, fun k => if k = 0 then tb0 else tb1, nch, 0, 0⟩,
    pick11 dx wl bk cl bw d0 d1 lh0 lh1 m0 m1,
    pick11 (dictOf [⟨ka, .str "channels" ua, .ref chl⟩, ⟨kb, .str "waiting" ub, .ref wl⟩] 2) (listOf #[] 0) obk (listOf #[Value.bool false, Value.bool false] 0) (listOf #[] 0) (oneDict od0 r0 tr0 lh0 false)
      (oneDict od1 r1 tr1 lh1 false) (listOf #[] 0) (listOf #[] 0) (listOf #[] 0) (listOf #[] 0), pool, rfl, rfl, rfl, ?_, ⟨?_, ?_⟩, ?_, ?_, ?_, ?_⟩
  · have key : ∀ i, i < 11 → (pick11 dx wl bk cl bw d0 d1 lh0 lh1 m0 m1 i, pick11 (dictOf [⟨ka, .str "channels" ua, .ref chl⟩, ⟨kb, .str "waiting" ub, .ref wl⟩] 2) (listOf #[] 0) obk (listOf #[Value.bool false, Value.bool false] 0) (listOf #[] 0) (oneDict od0 r0 tr0 lh0 false)
      (oneDict od1 r1 tr1 lh1 false) (listOf #[] 0) (listOf #[] 0) (listOf #[] 0) (listOf #[] 0) i) ∈
        [(bw, listOf #[] 0), (cl, listOf #[Value.bool false, Value.bool false] 0), (bh, listOf #[Value.ref m0, Value.ref m1] 0), (m1, listOf #[] 0), (m0, listOf #[] 0), (bk, obk), (z1, oz1), (z2, oz2), (lh1, listOf #[] 0), (c1, instObj 38 d1),
      (d1, oneDict od1 r1 tr1 lh1 false), (lh0, listOf #[] 0), (c0, instObj 38 d0),
      (d0, oneDict od0 r0 tr0 lh0 false), (z3, oz3), (rm, listOf #[Value.int r0 tb0, Value.int r1 tb1] 0), (wl, listOf #[] 0),
      (chl, listOf #[Value.ref c0, Value.ref c1] nch), (x, instObj 155 dx), (dx, dictOf [⟨ka, .str "channels" ua, .ref chl⟩, ⟨kb, .str "waiting" ub, .ref wl⟩] 2), (ce, oce), (pot, opot)] := by
      exact all11 (ix_mem 19 rfl) (ix_mem 16 rfl) (ix_mem 5 rfl) (ix_mem 1 rfl) (ix_mem 0 rfl) (ix_mem 13 rfl) (ix_mem 10 rfl) (ix_mem 11 rfl) (ix_mem 8 rfl) (ix_mem 4 rfl) (ix_mem 3 rfl)
    intro p hp
    rcases List.mem_cons.mp hp with rfl | hp
    · exact N _ (ix_mem 21 rfl)
    · rcases led_cases hp with ⟨i, hi, rfl⟩ | hp
      · exact N _ (key i hi)
      · exact News.sub N (ix_sub [18, 12, 9, 17, 15, 2, 20] rfl) p hp
  · exact fun i j hi hj hn => nodup_ne nd _ _ (eA i hi) (eA j hj) (s1 i hi j hj hn)
  · intro p hp i hi
    obtain ⟨k, hk, e⟩ := eP p hp
    exact nodup_ne nd _ _ e (eA i hi) (s2 k hk i hi)
  · intro p hp
    rw [List.mem_singleton.mp hp]
    refine ⟨fun i hi => nodup_ne nd _ _ ePot (eA i hi) (s3 i hi), fun q hq => ?_⟩
    obtain ⟨k, hk, e⟩ := eP q hq
    exact nodup_ne nd _ _ ePot e (s4 k hk)
  · exact ⟨.head _, .tail _ (.tail _ (.tail _ (.head _))), two_cases (.tail _ (.head _)) (.tail _ (.tail _ (.head _))), fun l hl => (nomatch hl), rfl, ⟨0, rfl⟩, two_cases rfl rfl, two_cases ⟨[], 0, rfl, .nil⟩ ⟨[], 0, rfl, .nil⟩⟩
  · exact ⟨.tail _ (.tail _ (.tail _ (.tail _ (.head _)))), .tail _ (.tail _ (.tail _ (.tail _ (.tail _ (.head _))))), fun l hl => (nomatch hl), rfl, hd, ⟨0, rfl⟩, ⟨0, rfl⟩, two_cases ⟨[], 0, rfl, .nil⟩ ⟨[], 0, rfl, .nil⟩⟩
  · exact .tail _ (.tail _ (.tail _ (.tail _ (.tail _ (.tail _ (.head _))))))
theorem off_of_toff {pot : Addr} {o : Obj} {ad : Nat → Addr} {ob : Nat → Obj} {pool : List (Addr × Obj)} (h : TOff [(pot, o)] ad pool) : OwnOff (led ad ob pool) [pot] := fun p hp b hb => by
  rw [List.mem_singleton.mp hb]
  rcases led_cases hp with ⟨i, hi, rfl⟩ | hp
  · exact Ne.symm ((h _ (.head _)).1 i hi)
  · exact Ne.symm ((h _ (.head _)).2 p hp)
theorem pot_of_toff {pot : Addr} {o : Obj} {ad : Nat → Addr} {pool : List (Addr × Obj)} (h : TOff [(pot, o)] ad pool) : (∀ i, i < 11 → pot ≠ ad i) ∧ ∀ q ∈ pool, pot ≠ q.1 := h _ (.head _)
theorem toff_pot {pot : Addr} {o o' : Obj} {ad : Nat → Addr} {pool : List (Addr × Obj)} (h : TOff [(pot, o)] ad pool) : TOff [(pot, o')] ad pool := fun p hp => by
  rw [List.mem_singleton.mp hp]; exact h (pot, o) (.head _)
theorem len_le {hs : Nat → List Int} {i j : Nat} (h : ∀ k, k < 2 → (hs k).length ≤ i) (hij : i ≤ j) : ∀ k, k < 2 → (hs k).length ≤ j := fun k hk => Nat.le_trans (h k hk) hij
theorem len_up {hs hs' : Nat → List Int} {i : Nat} (h : ∀ k, k < 2 → (hs k).length ≤ i) (h' : ∀ k, k < 2 → (hs' k).length ≤ (hs k).length + 1) : ∀ k, k < 2 → (hs' k).length ≤ i + 1 := fun k hk => Nat.le_trans (h' k hk) (Nat.succ_le_succ (h k hk))
theorem sub_here {n : List (Addr × Obj)} : ∀ p ∈ n, p ∈ n := fun _ hp => hp
theorem sub_up {a : Addr × Obj} {l n : List (Addr × Obj)} (h : ∀ p ∈ l, p ∈ n) : ∀ p ∈ l, p ∈ a :: n := fun p hp => .tail _ (h p hp)
theorem bears_int' {news : List (Addr × Obj)} {i j : Int} {t : Tok} (h : i = j) : Bears news (.int i t) (.int j) := h ▸ bears_int
theorem lens_elim {P : Prop} {hs hs' : Nat → List Int} {i : Nat} {vs0 vs1 ws0 ws1 : List Value} (hlh : ∀ k, k < 2 → (hs k).length ≤ i) (lh : ∀ k, k < 2 → (hs' k).length ≤ (hs k).length + 1) (hi : i < 9) (i1 : IntsAre vs0 (hs' 0)) (i2 : IntsAre vs1 (hs' 1)) (i3 : IntsAre ws0 (hs' 0)) (i4 : IntsAre ws1 (hs' 1))
    (k : vs0.length ≤ 1000 → vs1.length ≤ 1000 → ws0.length ≤ 1000 → ws1.length ≤ 1000 → vs0.length = ws0.length → vs1.length = ws1.length → P) : P := by
  have L : ∀ k, k < 2 → (hs' k).length ≤ 1000 := fun k hk => Nat.le_trans (lh k hk) (Nat.le_trans (Nat.succ_le_succ (hlh k hk)) (Nat.le_trans hi (Nat.le_of_ble_eq_true rfl)))
  exact k (Nat.le_trans (Nat.le_of_eq i1.length) (L 0 (lt_c rfl))) (Nat.le_trans (Nat.le_of_eq i2.length) (L 1 (lt_c rfl))) (Nat.le_trans (Nat.le_of_eq i3.length) (L 0 (lt_c rfl))) (Nat.le_trans (Nat.le_of_eq i4.length) (L 1 (lt_c rfl))) (i1.length.trans i3.length.symm) (i2.length.trans i4.length.symm)
theorem fill_P24d : Challenge.rw_xm0171_01 = Challenge.rw_xm0171_01 ∧ Mine.hd.heap_39 = Mine.hd.heap_39 := by
  k_fill
  w_top off
  k_with_none
  k_with "gnd" => ((case u0 => k_asm); (case u1 => k_asm); (case u2 => k_asm); (case u3 => k_asm); (case u4 => first | exact rfl | assumption); (case u5 => ktr_room); (case u6 => ktr_units); (case u7 => k_asm))
  k_with "kln_le" => (first | exact ne_c rfl | exact lt_c rfl | exact ne_a rfl | exact ne_b rfl | exact ne_d (by assumption) rfl | exact ne_e (by assumption) rfl | exact lt_a (by assumption) rfl | exact ne_f (by assumption) | exact ne_f (Ne.symm (by assumption)) | exact ne_g (by assumption) rfl | exact ne_two (by assumption) (by assumption) (by assumption) | exact or5 (by assumption) (by kln_le) (by kln_le) (by kln_le) (by kln_le) (by kln_le) | omega)
  k_with "pl" => (with_reducible first | exact pl1 (by assumption) | exact pl2 (by assumption) | exact pl3 (by assumption) | exact pl4 (by assumption) | exact pl5 (by assumption) | exact pl6 (by assumption) | exact pl7 (by assumption) | exact pl8 (by assumption) | exact pl9 (by assumption) | exact pl10 (by assumption) | exact pl11 (by assumption) | exact pl12 (by assumption) | exact pl13 (by assumption) | exact pl14 (by assumption) | exact pl15 (by assumption) | exact pl16 (by assumption) | exact pl17 (by assumption) | exact pl18 (by assumption) | exact pl19 (by assumption) | exact pl20 (by assumption) | exact pl21 (by assumption) | exact pl22 (by assumption) | exact pl23 (by assumption) | exact pl24 (by assumption) | exact pl25 (by assumption) | exact pl26 (by assumption) | exact pl27 (by assumption) | exact pl28 (by assumption) | exact pl29 (by assumption) | exact pl30 (by assumption))
  k_with "pa" => (with_reducible first | exact pa1 (by assumption) | exact pa2 (by assumption) | exact pa3 (by assumption) | exact pa4 (by assumption) | exact pa5 (by assumption) | exact pa6 (by assumption) | exact pa7 (by assumption) | exact pa8 (by assumption) | exact pa9 (by assumption) | exact pa10 (by assumption) | exact pa11 (by assumption) | exact pa12 (by assumption) | exact pa13 (by assumption) | exact pa14 (by assumption) | exact pa15 (by assumption) | exact pa16 (by assumption) | exact pa17 (by assumption) | exact pa18 (by assumption) | exact pa19 (by assumption) | exact pa20 (by assumption) | exact pa21 (by assumption) | exact pa22 (by assumption) | exact pa23 (by assumption) | exact pa24 (by assumption) | exact pa25 (by assumption) | exact pa26 (by assumption) | exact pa27 (by assumption) | exact pa28 (by assumption) | exact pa29 (by assumption) | exact pa30 (by assumption))
  k_with "execs cons" => ((k_here; with_reducible first | (refine seq_start (s₀ := s) ?_; intro tkz9 qz9) | (refine seq_startS ?_; intro qz9; (try k_gentoks))))
  k_with "Seq" => ((k_here; with_reducible first | (refine seq_go (s₀ := s) ?_; intro tkz9 qz9) | (refine seq_goS ?_; intro qz9; (try k_gentoks)) | refine seq_end ?_ | refine seq_ret ?_ | refine seq_brk ?_ | refine seq_cont ?_))
  k_with "k_fold" => ((refine name_in ?_; intro e9z9 B9z9 M9z9 q9z9 x9z9))
  k_with "k_steps" => (repeat' (first | walk1 | (k_end; wrow_close) | (dsimp only; walk1) | (leave1; walk_say "STEP leave1"; try dsimp only) | (k_unfold; (try dsimp only)) | fail "no step"))
  k_with "storeName" => ((k_here; k_dflt (refine' storeLet ?F ?N ?_ ?a ?b; (case a => first | assumption | rfl); (case b => rfl); (case F => k_asm); (case N => k_asm); k_whole); intro hz9 mz9 Fz9 Nz9; (try k_sweep)))
  k_with "subscriptTail Name Constant ref int" => ((k_here; k_dflt (refine' item_tupleT ?t ?a ?b ?c ?d ?_; (case t => exact News.isTup (by k_asm) (rowsAt (by assumption) (by ktr_rel))); (case a => decide); (case b => decide); (case c => rfl); (case d => rfl))))
  k_with "kby_size" => (first | (rename ((_ ≠ _ ∧ _ ≠ _ ∧ _ ≠ _) ∧ _) => q9z9; with_reducible first | exact q9z9.1.1 | exact Ne.symm q9z9.1.1 | exact q9z9.1.2.1 | exact Ne.symm q9z9.1.2.1 | exact q9z9.1.2.2 | exact Ne.symm q9z9.1.2.2 | (replace q9z9 := q9z9.2; kby_size)) | (rename (_ ≠ _ ∧ _ ≠ _ ∧ _ ≠ _) => q9z9; with_reducible first | exact q9z9.1 | exact Ne.symm q9z9.1 | exact q9z9.2.1 | exact Ne.symm q9z9.2.1 | exact q9z9.2.2 | exact Ne.symm q9z9.2.2))
  k_with "k_ne" => (first | kby_size | (refine neN ?_; (try dsimp only); omega (config := { splitDisjunctions := false })))
  k_with "k_ne" => (first | kby_size | (refine neN (Nat.ne_of_gt ?_); k_extra "pl") | (refine neN (Nat.ne_of_lt ?_); k_extra "pl"))
  k_with "ktr_room" => (first | exact rm2 (by assumption) rfl | exact rm1 (by assumption) rfl | exact rm0 (by assumption) | exact rm3 (by assumption) rfl)
  k_with "ktr_units" => (first | exact rm2 (by assumption) rfl | exact rm1 (by assumption) rfl | exact rm0 (by assumption) | exact rm3 (by assumption) rfl)
  k_with "k_mem" => (first | assumption | exact RowsIn.at (by assumption) (by assumption))
  k_with "subscriptTail" => ((k_here; (with_reducible show wpAny _ _ (subscriptTail _ _ (Value.ref _) (Value.str _ _)) _ _ _); k_dflt (refine' kda_item (knd := PySem.strKind _ _) ?N ?hp ?hd (strKind_is _ _ _ _) ?hl ?_; (case N => k_asm); (case hp => k_mem); (case hd => k_asm); (case hl => rfl)); (try dsimp only)))
  k_with "exec For Name Subscript cons nil" => ((k_here; (rename Fr _ _ _ _ => lFz9); (with_unfolding_all refine' For_invVF lFz9 ?k1 ?k2 ?_; (case k1 => exact rfl); (case k2 => exact rfl); k_whole)))
  k_with "eval ListComp" => ((k_here; (with_reducible show wpAny _ _ (eval (Expr.ListComp _ [Comprehension.mk (Expr.Name _ _) _ [_] _] _ _) _) _ _ _); k_dflt (refine LCt.ListComp_T (F₀ := by k_asm) (by with_unfolding_all rfl) (by decide) (by rfl) (by decide) (by rfl) ?_)))
  k_with "CompSrcT" => ((k_here; k_dflt (refine LCt.CompSrcT.ledger (by rfl) (by k_asm) (by k_asm) (by k_mem) (by first | size_fits | (simp only [List.size_toArray, List.length_map, sizeLine_eq]; omega)) ?_); intro gz9))
  k_with "setItem ref str" => ((k_here; k_dflt (refine' kda_set (knd := PySem.strKind _ _) ?F ?N ?U ?d (strKind_is _ _ _ _) ?z ?_; (case F => k_asm); (case N => k_asm); (case U => k_updF); (case d => k_asm); (case z => rw [sizeLine_eq]; exact Nat.le_of_ble_eq_true (by with_unfolding_all rfl))); intro hz9 oz9 Fz9 Nz9 hdz9; (try dsimp only at Nz9)))
  k_with "is_list" => (exact News.isList (by k_asm) (by k_mem))
  k_with "ke_room" => (ktr_units)
  k_with "k_units" => (ktr_units)
  k_with "subscriptTail" => ((k_here; (with_reducible show wpAny _ _ (subscriptTail _ _ (Value.ref _) (Value.int _ _)) _ _ _); k_dflt (refine' my_item ?N ?hm ?h0 ?hhi ?hx ?_; (case N => k_asm); (case hm => k_mem); (case h0 => with_reducible assumption); (case hhi => with_reducible assumption); (case hx => with_reducible assumption))))
  k_with "ktr_rel" => (first | assumption | exact RowsIn.filter (by assumption) | (refine RowsIn.cons ?_; ktr_rel))
  k_with "ktr_unf" => (assumption)
  k_with "tb_rel" => (first | with_reducible assumption | (first | k_extra "pl" | k_extra "pa") | assumption | omega)
  k_with "tb_start" => (first | exact List.forall_mem_nil _ | (refine List.forall_mem_cons.mpr ⟨⟨by tb_rel, by tb_rel, by tb_rel⟩, ?_⟩; tb_start) | (refine List.forall_mem_cons.mpr ⟨⟨by tb_rel, by tb_rel, by tb_rel, by tb_rel⟩, ?_⟩; tb_start))
  k_with "call builtin:list.pop" => ((k_here; (try (rename News _ _ _ _ => N9pz9; simp only [List.push_toArray] at N9pz9)); k_dflt ((refine' my_pop0 ?F ?N ?U ?hi ?hne ?hz ?_); (case F => k_asm); (case N => k_asm); (case U => k_upd); (case hi => first | assumption | exact ints_snoc (by assumption)); (case hne => first | assumption | exact of_decide_eq_false (by assumption) | simp); (case hz => (try simp only [List.length_append, List.length_cons, List.length_nil]); omega)); intro t9z9 h9z9 F9z9 N9z9 hi9z9))
  k_with "call builtin:list.append" => ((k_here; (with_reducible show wpAny _ _ (call (Value.builtin _) [Value.ref _, _]) _ _ _); k_dflt (refine' append_K ?k1 ?k2 ?k3 ?_ ?z; (case k1 => k_asm); (case k2 => k_asm); (case k3 => k_upd); (case z => (simp only [List.size_toArray, List.length_tail, sizeLine_eq]; omega)); k_whole); intro hz9 Fz9 Nz9; (try simp only [List.push_toArray] at Nz9); (try k_sweep)))
  k_with "subscriptTail Name Name ref int" => ((k_here; (with_reducible show wpAny _ _ (subscriptTail _ _ (Value.ref _) (Value.int _ _)) _ _ _); k_dflt (first | (refine' my_item ?N ?hm ?h0 ?hhi ?hx ?_; (case N => k_asm); (case hm => k_mem); (case h0 => with_reducible assumption); (case hhi => with_reducible assumption); (case hx => with_reducible assumption)) | (refine' my_item ?N ?hm ?h0 ?hhi ?hx ?_; (case N => k_asm); (case hm => k_mem); (case h0 => decide); (case hhi => decide); (case hx => rfl)))))
  k_with "subscriptTail Attribute" => ((k_here; (with_reducible show wpAny _ _ (subscriptTail _ _ (Value.ref _) (Value.int _ _)) _ _ _); k_dflt (first | (refine' my_item ?N ?hm ?h0 ?hhi ?hx ?_; (case N => k_asm); (case hm => k_mem); (case h0 => with_reducible assumption); (case hhi => with_reducible assumption); (case hx => with_reducible assumption)) | (refine' my_item ?N ?hm ?h0 ?hhi ?hx ?_; (case N => k_asm); (case hm => k_mem); (case h0 => decide); (case hhi => decide); (case hx => rfl)))))
  k_with "subscriptTail Subscript" => ((k_here; (with_reducible show wpAny _ _ (subscriptTail _ _ (Value.ref _) (Value.int _ _)) _ _ _); k_dflt (first | (refine' my_item ?N ?hm ?h0 ?hhi ?hx ?_; (case N => k_asm); (case hm => k_mem); (case h0 => with_reducible assumption); (case hhi => with_reducible assumption); (case hx => with_reducible assumption)) | (refine' my_item ?N ?hm ?h0 ?hhi ?hx ?_; (case N => k_asm); (case hm => k_mem); (case h0 => decide); (case hhi => decide); (case hx => rfl)))))
  k_with "call builtin:len" => ((k_here; (with_reducible show wpAny _ _ (call (Value.builtin "len") [Value.ref _]) _ _ _); k_dflt (refine my_len (by k_asm) (by k_mem) (by first | assumption | omega | (simp only [List.length_map, List.length_append, List.length_cons, List.length_nil]; omega)) ?_); intro t9z9 tk9z9))
  k_with "tb_rel" => (exact allLt_trans (by assumption) (by assumption : _ ∧ _ ∧ AllLt _ _).2.2)
  exact ⟨rfl, rfl⟩
set_option maxRecDepth 100000 in
set_option maxHeartbeats 8000000 in
theorem size_none {prog : Program} {w : World} {p : Program} {loose : List Str} {mean : ExcName → Option Value} {mg mb : Str → Option Value}
  {dp un : Nat} {gd : Option (List Code)} {cn : Str} {cs : Scope} {a : Addr} {ccd : Value} {cl : List (Str × Addr)} {outer : List Env} {A₀ : Around} {base h₀ : Heap} {L : Addr} {m : Str → Option Value} {s : Shared} {Q E : Value → Shared → Prop}
  {news : List (Addr × Obj)} {x : Addr}
  (B : Below A₀ base outer h₀) (F : Fr h₀ L s.heap m) (X : (Mine.hd.heap_39 w.params).In h₀) (T : Top p loose mean mg mb h₀) (hk : cs.kind = .function) (hdp : dp + 20 < recursionLimit) (hun : un + 160 < cLine) (N : News h₀ L s.heap news)
  (hret : ∀ t h' tk', Fr h₀ L h' m → News h₀ L h' news → Q (.int 0 t) { s with heap := h', toks := tk' }) :
  wpAny (model prog w) (ktrTop dp un gd cn cs L a ccd cl outer) (call (.ref 70) [.ref x, .none]) Q E s := by
  refine wpAny_call ?_
  k_dflt ktr_enter
  k_steps
  all_goals exact hret _ _ _ (by assumption) (by assumption)
set_option maxRecDepth 100000 in
set_option maxHeartbeats 8000000 in
theorem room_none {prog : Program} {w : World} {p : Program} {loose : List Str} {mean : ExcName → Option Value} {mg mb : Str → Option Value}
  {dp un : Nat} {gd : Option (List Code)} {cn : Str} {cs : Scope} {a : Addr} {ccd : Value} {cl : List (Str × Addr)} {outer : List Env} {A₀ : Around} {base h₀ : Heap} {L : Addr} {m : Str → Option Value} {s : Shared} {Q E : Value → Shared → Prop}
  {news : List (Addr × Obj)} {x : Addr}
  (B : Below A₀ base outer h₀) (F : Fr h₀ L s.heap m) (X : (Mine.hd.heap_39 w.params).In h₀) (T : Top p loose mean mg mb h₀) (hk : cs.kind = .function) (hdp : dp + 20 < recursionLimit) (hun : un + 160 < cLine) (N : News h₀ L s.heap news)
  (hret : ∀ t h' tk', Fr h₀ L h' m → News h₀ L h' news → Q (.int 0 t) { s with heap := h', toks := tk' }) :
  wpAny (model prog w) (ktrTop dp un gd cn cs L a ccd cl outer) (call (.ref 77) [.ref x, .none]) Q E s := by
  refine wpAny_call ?_
  k_dflt ktr_enter
  k_steps
  all_goals exact hret _ _ _ (by assumption) (by assumption)
set_option maxRecDepth 100000 in
set_option maxHeartbeats 8000000 in
theorem size_rule {prog : Program} {w : World} {p : Program} {loose : List Str} {mean : ExcName → Option Value} {mg mb : Str → Option Value}
  {dp un : Nat} {gd : Option (List Code)} {cn : Str} {cs : Scope} {a : Addr} {ccd : Value} {cl : List (Str × Addr)} {outer : List Env} {A₀ : Around} {base h₀ : Heap} {L : Addr} {m : Str → Option Value} {s : Shared} {Q E : Value → Shared → Prop}
  {news : List (Addr × Obj)}
  {x dx w' chl c d l : Addr} {ct : ChTok} {ot : OneTok} {room : Int} {tr : Tok} {b : Bool} {vc vs : List Value} {nc nl : Nat} {n : Int} {tn : Tok}
  (B : Below A₀ base outer h₀) (F : Fr h₀ L s.heap m) (X : (Mine.hd.heap_39 w.params).In h₀) (T : Top p loose mean mg mb h₀) (hk : cs.kind = .function) (hdp : dp + 20 < recursionLimit) (hun : un + 160 < cLine) (N : News h₀ L s.heap news)
  (hx : (x, instObj 155 dx) ∈ news) (hdx : (dx, chDict ct chl w') ∈ news) (hchl : (chl, listOf vc.toArray nc) ∈ news)
  (n0 : 0 ≤ n) (n1 : n < 2 ^ 63) (hcn : vc[n.toNat]? = some (.ref c)) (hc : (c, instObj 38 d) ∈ news) (hd : (d, oneDict ot room tr l b) ∈ news)
  (hl : (l, listOf vs.toArray nl) ∈ news) (hlen : vs.length ≤ 1000)
  (hret : ∀ t h' tk', Fr h₀ L h' m → News h₀ L h' news → Q (.int (vs.length : Int) t) { s with heap := h', toks := tk' }) :
  wpAny (model prog w) (ktrTop dp un gd cn cs L a ccd cl outer) (call (.ref 70) [.ref x, .int n tn]) Q E s := by
  refine wpAny_call ?_
  k_dflt ktr_enter
  k_steps
  all_goals exact hret _ _ _ (by assumption) (by assumption)
set_option maxRecDepth 100000 in
set_option maxHeartbeats 8000000 in
theorem room_rule {prog : Program} {w : World} {p : Program} {loose : List Str} {mean : ExcName → Option Value} {mg mb : Str → Option Value}
  {dp un : Nat} {gd : Option (List Code)} {cn : Str} {cs : Scope} {a : Addr} {ccd : Value} {cl : List (Str × Addr)} {outer : List Env} {A₀ : Around} {base h₀ : Heap} {L : Addr} {m : Str → Option Value} {s : Shared} {Q E : Value → Shared → Prop}
  {news : List (Addr × Obj)}
  {x dx w' chl c d l : Addr} {ct : ChTok} {ot : OneTok} {room : Int} {tr : Tok} {b : Bool} {vc : List Value} {nc : Nat} {n : Int} {tn : Tok}
  (B : Below A₀ base outer h₀) (F : Fr h₀ L s.heap m) (X : (Mine.hd.heap_39 w.params).In h₀) (T : Top p loose mean mg mb h₀) (hk : cs.kind = .function) (hdp : dp + 20 < recursionLimit) (hun : un + 160 < cLine) (N : News h₀ L s.heap news)
  (hx : (x, instObj 155 dx) ∈ news) (hdx : (dx, chDict ct chl w') ∈ news) (hchl : (chl, listOf vc.toArray nc) ∈ news)
  (n0 : 0 ≤ n) (n1 : n < 2 ^ 63) (hcn : vc[n.toNat]? = some (.ref c)) (hc : (c, instObj 38 d) ∈ news) (hd : (d, oneDict ot room tr l b) ∈ news)
  (hret : ∀ h' tk', Fr h₀ L h' m → News h₀ L h' news → Q (.int room tr) { s with heap := h', toks := tk' }) :
  wpAny (model prog w) (ktrTop dp un gd cn cs L a ccd cl outer) (call (.ref 77) [.ref x, .int n tn]) Q E s := by
  refine wpAny_call ?_
  k_dflt ktr_enter
  k_steps
  all_goals exact hret _ _ (by assumption) (by assumption)
theorem fill_P24e : Challenge.rw_xm0171_01 = Challenge.rw_xm0171_01 ∧ Mine.hd.heap_39 = Mine.hd.heap_39 := by
  k_fill
  w_top off
  k_with_none
  k_with "gnd" => ((case u0 => k_asm); (case u1 => k_asm); (case u2 => k_asm); (case u3 => k_asm); (case u4 => first | exact rfl | assumption); (case u5 => ktr_room); (case u6 => ktr_units); (case u7 => k_asm))
  k_with "kln_le" => (first | exact ne_c rfl | exact lt_c rfl | exact ne_a rfl | exact ne_b rfl | exact ne_d (by assumption) rfl | exact ne_e (by assumption) rfl | exact lt_a (by assumption) rfl | exact ne_f (by assumption) | exact ne_f (Ne.symm (by assumption)) | exact ne_g (by assumption) rfl | exact ne_two (by assumption) (by assumption) (by assumption) | exact or5 (by assumption) (by kln_le) (by kln_le) (by kln_le) (by kln_le) (by kln_le) | omega)
  k_with "pl" => (with_reducible first | exact pl1 (by assumption) | exact pl2 (by assumption) | exact pl3 (by assumption) | exact pl4 (by assumption) | exact pl5 (by assumption) | exact pl6 (by assumption) | exact pl7 (by assumption) | exact pl8 (by assumption) | exact pl9 (by assumption) | exact pl10 (by assumption) | exact pl11 (by assumption) | exact pl12 (by assumption) | exact pl13 (by assumption) | exact pl14 (by assumption) | exact pl15 (by assumption) | exact pl16 (by assumption) | exact pl17 (by assumption) | exact pl18 (by assumption) | exact pl19 (by assumption) | exact pl20 (by assumption) | exact pl21 (by assumption) | exact pl22 (by assumption) | exact pl23 (by assumption) | exact pl24 (by assumption) | exact pl25 (by assumption) | exact pl26 (by assumption) | exact pl27 (by assumption) | exact pl28 (by assumption) | exact pl29 (by assumption) | exact pl30 (by assumption))
  k_with "pa" => (with_reducible first | exact pa1 (by assumption) | exact pa2 (by assumption) | exact pa3 (by assumption) | exact pa4 (by assumption) | exact pa5 (by assumption) | exact pa6 (by assumption) | exact pa7 (by assumption) | exact pa8 (by assumption) | exact pa9 (by assumption) | exact pa10 (by assumption) | exact pa11 (by assumption) | exact pa12 (by assumption) | exact pa13 (by assumption) | exact pa14 (by assumption) | exact pa15 (by assumption) | exact pa16 (by assumption) | exact pa17 (by assumption) | exact pa18 (by assumption) | exact pa19 (by assumption) | exact pa20 (by assumption) | exact pa21 (by assumption) | exact pa22 (by assumption) | exact pa23 (by assumption) | exact pa24 (by assumption) | exact pa25 (by assumption) | exact pa26 (by assumption) | exact pa27 (by assumption) | exact pa28 (by assumption) | exact pa29 (by assumption) | exact pa30 (by assumption))
  k_with "execs cons" => ((k_here; with_reducible first | (refine seq_start (s₀ := s) ?_; intro tkz9 qz9) | (refine seq_startS ?_; intro qz9; (try k_gentoks))))
  k_with "Seq" => ((k_here; with_reducible first | (refine seq_go (s₀ := s) ?_; intro tkz9 qz9) | (refine seq_goS ?_; intro qz9; (try k_gentoks)) | refine seq_end ?_ | refine seq_ret ?_ | refine seq_brk ?_ | refine seq_cont ?_))
  k_with "k_fold" => ((refine name_in ?_; intro e9z9 B9z9 M9z9 q9z9 x9z9))
  k_with "k_steps" => (repeat' (first | walk1 | (k_end; wrow_close) | (dsimp only; walk1) | (leave1; walk_say "STEP leave1"; try dsimp only) | (k_unfold; (try dsimp only)) | fail "no step"))
  k_with "storeName" => ((k_here; k_dflt (refine' storeLet ?F ?N ?_ ?a ?b; (case a => first | assumption | rfl); (case b => rfl); (case F => k_asm); (case N => k_asm); k_whole); intro hz9 mz9 Fz9 Nz9; (try k_sweep)))
  k_with "subscriptTail Name Constant ref int" => ((k_here; k_dflt (refine' item_tupleT ?t ?a ?b ?c ?d ?_; (case t => exact News.isTup (by k_asm) (rowsAt (by assumption) (by ktr_rel))); (case a => decide); (case b => decide); (case c => rfl); (case d => rfl))))
  k_with "kby_size" => (first | (rename ((_ ≠ _ ∧ _ ≠ _ ∧ _ ≠ _) ∧ _) => q9z9; with_reducible first | exact q9z9.1.1 | exact Ne.symm q9z9.1.1 | exact q9z9.1.2.1 | exact Ne.symm q9z9.1.2.1 | exact q9z9.1.2.2 | exact Ne.symm q9z9.1.2.2 | (replace q9z9 := q9z9.2; kby_size)) | (rename (_ ≠ _ ∧ _ ≠ _ ∧ _ ≠ _) => q9z9; with_reducible first | exact q9z9.1 | exact Ne.symm q9z9.1 | exact q9z9.2.1 | exact Ne.symm q9z9.2.1 | exact q9z9.2.2 | exact Ne.symm q9z9.2.2))
  k_with "k_ne" => (first | kby_size | (refine neN ?_; (try dsimp only); omega (config := { splitDisjunctions := false })))
  k_with "k_ne" => (first | kby_size | (refine neN (Nat.ne_of_gt ?_); k_extra "pl") | (refine neN (Nat.ne_of_lt ?_); k_extra "pl"))
  k_with "ktr_room" => (first | exact rm2 (by assumption) rfl | exact rm1 (by assumption) rfl | exact rm0 (by assumption) | exact rm3 (by assumption) rfl)
  k_with "ktr_units" => (first | exact rm2 (by assumption) rfl | exact rm1 (by assumption) rfl | exact rm0 (by assumption) | exact rm3 (by assumption) rfl)
  k_with "k_mem" => (first | assumption | exact RowsIn.at (by assumption) (by assumption))
  k_with "subscriptTail" => ((k_here; (with_reducible show wpAny _ _ (subscriptTail _ _ (Value.ref _) (Value.str _ _)) _ _ _); k_dflt (refine' kda_item (knd := PySem.strKind _ _) ?N ?hp ?hd (strKind_is _ _ _ _) ?hl ?_; (case N => k_asm); (case hp => k_mem); (case hd => k_asm); (case hl => rfl)); (try dsimp only)))
  k_with "exec For Name Subscript cons nil" => ((k_here; (rename Fr _ _ _ _ => lFz9); (with_unfolding_all refine' For_invVF lFz9 ?k1 ?k2 ?_; (case k1 => exact rfl); (case k2 => exact rfl); k_whole)))
  k_with "eval ListComp" => ((k_here; (with_reducible show wpAny _ _ (eval (Expr.ListComp _ [Comprehension.mk (Expr.Name _ _) _ [_] _] _ _) _) _ _ _); k_dflt (refine LCt.ListComp_T (F₀ := by k_asm) (by with_unfolding_all rfl) (by decide) (by rfl) (by decide) (by rfl) ?_)))
  k_with "CompSrcT" => ((k_here; k_dflt (refine LCt.CompSrcT.ledger (by rfl) (by k_asm) (by k_asm) (by k_mem) (by first | size_fits | (simp only [List.size_toArray, List.length_map, sizeLine_eq]; omega)) ?_); intro gz9))
  k_with "setItem ref str" => ((k_here; k_dflt (refine' kda_set (knd := PySem.strKind _ _) ?F ?N ?U ?d (strKind_is _ _ _ _) ?z ?_; (case F => k_asm); (case N => k_asm); (case U => k_updF); (case d => k_asm); (case z => rw [sizeLine_eq]; exact Nat.le_of_ble_eq_true (by with_unfolding_all rfl))); intro hz9 oz9 Fz9 Nz9 hdz9; (try dsimp only at Nz9)))
  k_with "is_list" => (exact News.isList (by k_asm) (by k_mem))
  k_with "ke_room" => (ktr_units)
  k_with "k_units" => (ktr_units)
  k_with "subscriptTail" => ((k_here; (with_reducible show wpAny _ _ (subscriptTail _ _ (Value.ref _) (Value.int _ _)) _ _ _); k_dflt (refine' my_item ?N ?hm ?h0 ?hhi ?hx ?_; (case N => k_asm); (case hm => k_mem); (case h0 => with_reducible assumption); (case hhi => with_reducible assumption); (case hx => with_reducible assumption))))
  k_with "ktr_rel" => (first | assumption | exact RowsIn.filter (by assumption) | (refine RowsIn.cons ?_; ktr_rel))
  k_with "ktr_unf" => (assumption)
  k_with "tb_rel" => (first | with_reducible assumption | (first | k_extra "pl" | k_extra "pa") | assumption | omega)
  k_with "tb_start" => (first | exact List.forall_mem_nil _ | (refine List.forall_mem_cons.mpr ⟨⟨by tb_rel, by tb_rel, by tb_rel⟩, ?_⟩; tb_start) | (refine List.forall_mem_cons.mpr ⟨⟨by tb_rel, by tb_rel, by tb_rel, by tb_rel⟩, ?_⟩; tb_start))
  k_with "call builtin:list.pop" => ((k_here; (try (rename News _ _ _ _ => N9pz9; simp only [List.push_toArray] at N9pz9)); k_dflt ((refine' my_pop0 ?F ?N ?U ?hi ?hne ?hz ?_); (case F => k_asm); (case N => k_asm); (case U => k_upd); (case hi => first | assumption | exact ints_snoc (by assumption)); (case hne => first | assumption | exact of_decide_eq_false (by assumption) | simp); (case hz => (try simp only [List.length_append, List.length_cons, List.length_nil]); omega)); intro t9z9 h9z9 F9z9 N9z9 hi9z9))
  k_with "call builtin:list.append" => ((k_here; (with_reducible show wpAny _ _ (call (Value.builtin _) [Value.ref _, _]) _ _ _); k_dflt (refine' append_K ?k1 ?k2 ?k3 ?_ ?z; (case k1 => k_asm); (case k2 => k_asm); (case k3 => k_upd); (case z => (simp only [List.size_toArray, List.length_tail, sizeLine_eq]; omega)); k_whole); intro hz9 Fz9 Nz9; (try simp only [List.push_toArray] at Nz9); (try k_sweep)))
  k_with "subscriptTail Name Name ref int" => ((k_here; (with_reducible show wpAny _ _ (subscriptTail _ _ (Value.ref _) (Value.int _ _)) _ _ _); k_dflt (first | (refine' my_item ?N ?hm ?h0 ?hhi ?hx ?_; (case N => k_asm); (case hm => k_mem); (case h0 => with_reducible assumption); (case hhi => with_reducible assumption); (case hx => with_reducible assumption)) | (refine' my_item ?N ?hm ?h0 ?hhi ?hx ?_; (case N => k_asm); (case hm => k_mem); (case h0 => decide); (case hhi => decide); (case hx => rfl)))))
  k_with "subscriptTail Attribute" => ((k_here; (with_reducible show wpAny _ _ (subscriptTail _ _ (Value.ref _) (Value.int _ _)) _ _ _); k_dflt (first | (refine' my_item ?N ?hm ?h0 ?hhi ?hx ?_; (case N => k_asm); (case hm => k_mem); (case h0 => with_reducible assumption); (case hhi => with_reducible assumption); (case hx => with_reducible assumption)) | (refine' my_item ?N ?hm ?h0 ?hhi ?hx ?_; (case N => k_asm); (case hm => k_mem); (case h0 => decide); (case hhi => decide); (case hx => rfl)))))
  k_with "subscriptTail Subscript" => ((k_here; (with_reducible show wpAny _ _ (subscriptTail _ _ (Value.ref _) (Value.int _ _)) _ _ _); k_dflt (first | (refine' my_item ?N ?hm ?h0 ?hhi ?hx ?_; (case N => k_asm); (case hm => k_mem); (case h0 => with_reducible assumption); (case hhi => with_reducible assumption); (case hx => with_reducible assumption)) | (refine' my_item ?N ?hm ?h0 ?hhi ?hx ?_; (case N => k_asm); (case hm => k_mem); (case h0 => decide); (case hhi => decide); (case hx => rfl)))))
  k_with "exec For Name Call cons nil" => (refine Stop.intro ?_)
  k_with "call ref" => ((k_here; k_dflt (refine' call_cls ?k1 ?k2 ?k3 ?k4 ?k5 ?k6 ?_; (case k1 => k_asm); (case k2 => k_asm); (case k3 => k_asm); (case k4 => k_is); (case k5 => k_is); (case k6 => k_is); k_whole; intro xz9 dz9 hz9 Fz9 Nz9 l1z9 l2z9; (try k_lt l1z9); (try k_lt2 l2z9); (try k_sweep); (refine' code_def ?k1 ?k2 ?k3 ?k4 ?k5 ?kA ?kF ?kK ?k6 ?k7 ?k8 ?k9 ?kB ?_ ?c2 ?c3 ?c4 ?c5; (case kA => exact rfl); (case kF => exact rfl); (case kK => first | exact rfl | assumption); (case k1 => k_asm); (case k2 => k_asm); (case k3 => k_asm); (case k4 => k_asm); (case k5 => k_asm); (case k6 => k_is); (case k7 => k_is); (case k8 => ktr_room); (case k9 => exact BindsTo.of_eq rfl); (case c5 => decide); (case kB => exact locs rfl); (case c2 => exact rfl); (case c3 => exact rfl); (case c4 => exact rfl); k_whole; intro gz9 Lz9 hz9 FGz9 Fz9 Nz9 Bz9 Xz9 Tz9; (try dsimp only); (try k_fold)))))
  k_with "CompSrc" => ((k_here; k_dflt (first
  | (refine LCg.CompSrc.ledger (by rfl) (by k_asm) (by k_asm) (by k_mem) (by first | size_fits | exact Nat.le_of_ble_eq_true rfl) ?_; intro gz9; lcg_lit)
  | (refine LCg.CompSrc.range (by rfl) (by k_asm) (by k_asm) (by assumption) (by first | decide | rfl) (by first | rfl | decide) (by first | size_fits | exact Nat.le_of_ble_eq_true rfl) ?_; intro gz9; lcg_lit))))
  k_with "call ref" => ((k_here; (with_reducible show wpAny _ _ (call (Value.ref 63) _) _ _ _); k_dflt (refine wpAny_call ?_; (refine' code_def ?k1 ?k2 ?k3 ?k4 ?k5 ?kA ?kF ?kK ?k6 ?k7 ?k8 ?k9 ?kB ?_ ?c2 ?c3 ?c4 ?c5; (case kA => exact rfl); (case kF => exact rfl); (case kK => first | exact rfl | assumption); (case k1 => k_asm); (case k2 => k_asm); (case k3 => k_asm); (case k4 => k_asm); (case k5 => k_asm); (case k6 => k_is); (case k7 => k_is); (case k8 => ktr_room); (case k9 => exact BindsTo.of_eq rfl); (case c5 => decide); (case kB => exact locs rfl); (case c2 => exact rfl); (case c3 => exact rfl); (case c4 => exact rfl); k_whole; intro gz9 Lz9 hz9 FGz9 Fz9 Nz9 Bz9 Xz9 Tz9; (try dsimp only); (try k_fold)))))
  k_with "lcg_off" => (first | exact True.intro | assumption | (refine And.intro ⟨by lcg_off, by lcg_off, by lcg_off⟩ ?_; lcg_off) | k_ne)
  k_with "CompEnd" => (lcg_end)
  k_with "KdnMade" => ((k_here; k_dflt (refine' kdn_made_str ?F ?N ?U ?d ?k ?n ?_; (case F => k_asm); (case N => k_asm); (case d => k_asm); (case U => k_updF); (case k => rfl); (case n => exact of_decide_eq_true (by first | rfl | kernel_rfl!)); intro hz9 oz9 Fz9 Nz9 hdz9); (try dsimp only at Nz9)))
  k_with "call builtin:len" => ((k_here; (with_reducible show wpAny _ _ (call (Value.builtin "len") [Value.ref _]) _ _ _); k_dflt (refine my_len (by k_asm) (by k_mem) (by first | assumption | omega | (simp only [List.length_map, List.length_append, List.length_cons, List.length_nil]; omega)) ?_); intro t9z9 tk9z9))
  k_with "tb_rel" => (exact allLt_trans (by assumption) (by assumption : _ ∧ _ ∧ AllLt _ _).2.2)
  exact ⟨rfl, rfl⟩
theorem len_snoc {vc : List Value} {y : Value} : ((vc ++ [y]).length : Int) - 1 = (vc.length : Int) := by rw [List.length_append]; simp
theorem allLt_sub {D : Addr} : ∀ {l l' : List (Addr × Obj)}, AllLt D l → (∀ p ∈ l', p ∈ l) → AllLt D l'
  | _, [], _, _ => True.intro
  | _, q :: _, h, hs => ⟨AllLt.mem h _ (hs q (.head _)), allLt_sub h fun p hp => hs p (.tail _ hp)⟩
set_option maxRecDepth 100000 in
set_option maxHeartbeats 8000000 in
theorem makeone_core {prog : Program} {w : World} {p : Program} {loose : List Str} {mean : ExcName → Option Value} {mg mb : Str → Option Value}
  {dp un : Nat} {gd : Option (List Code)} {cn : Str} {cs : Scope} {a : Addr} {ccd : Value} {cl : List (Str × Addr)} {outer : List Env} {A₀ : Around} {base h₀ : Heap} {L : Addr} {m : Str → Option Value} {s : Shared} {Q E : Value → Shared → Prop}
  {rest : List (Addr × Obj)}
  {x dx w' chl : Addr} {ct : ChTok} {vc : List Value} {nc : Nat} {room : Int} {tr : Tok}
  (B : Below A₀ base outer h₀) (F : Fr h₀ L s.heap m) (X : (Mine.hd.heap_39 w.params).In h₀) (T : Top p loose mean mg mb h₀) (hk : cs.kind = .function) (hdp : dp + 20 < recursionLimit) (hun : un + 160 < cLine) (N : News h₀ L s.heap ((chl, listOf vc.toArray nc) :: rest)) (off : OwnOff rest [chl]) (hx : (x, instObj 155 dx) ∈ rest) (hdx : (dx, chDict ct chl w') ∈ rest) (hlen : vc.length ≤ 100)
  (hret : ∀ c d l ot n' t h' tk', AllLt d ((chl, listOf vc.toArray nc) :: rest) → @LT.lt Nat _ d c → @LT.lt Nat _ c l → Fr h₀ L h' m → News h₀ L h' ((l, listOf [].toArray 0) :: (c, instObj 38 d) :: (d, oneDict ot room tr l false) :: (chl, listOf (vc ++ [Value.ref c]).toArray n') :: rest) → Q (.int (vc.length : Int) t) { s with heap := h', toks := tk' }) :
  wpAny (model prog w) (ktrTop dp un gd cn cs L a ccd cl outer) (call (.ref 63) [.ref x, .int room tr]) Q E s := by
  refine wpAny_call ?_
  k_dflt ktr_enter
  k_steps
  rename News h₀ L _ _ => kN
  rw [len_snoc]
  exact hret _ _ _ ⟨_, _, _, _, _, _⟩ _ _ _ _ (by assumption) (by tb_rel) (by tb_rel) (by assumption) kN
theorem makeone_rule {prog : Program} {w : World} {p : Program} {loose : List Str} {mean : ExcName → Option Value} {mg mb : Str → Option Value}
  {dp un : Nat} {gd : Option (List Code)} {cn : Str} {cs : Scope} {a : Addr} {ccd : Value} {cl : List (Str × Addr)} {outer : List Env} {A₀ : Around} {base h₀ : Heap} {L : Addr} {m : Str → Option Value} {s : Shared} {Q E : Value → Shared → Prop}
  {news : List (Addr × Obj)} {g : Obj → List (Addr × Obj)}
  {x dx w' chl : Addr} {ct : ChTok} {vc : List Value} {nc : Nat} {room : Int} {tr : Tok} {k : Int}
  (B : Below A₀ base outer h₀) (F : Fr h₀ L s.heap m) (X : (Mine.hd.heap_39 w.params).In h₀) (T : Top p loose mean mg mb h₀) (hk : cs.kind = .function) (hdp : dp + 20 < recursionLimit) (hun : un + 160 < cLine) (N : News h₀ L s.heap news) (U : UpdF chl (listOf vc.toArray nc) news g) (hx : (x, instObj 155 dx) ∈ news) (hdx : (dx, chDict ct chl w') ∈ news) (hlen : vc.length ≤ 100) (hkl : (vc.length : Int) = k)
  (hret : ∀ c d l ot n' t h' tk', AllLt d news → @LT.lt Nat _ d c → @LT.lt Nat _ c l → Fr h₀ L h' m → News h₀ L h' ((l, listOf [].toArray 0) :: (c, instObj 38 d) :: (d, oneDict ot room tr l false) :: g (listOf (vc ++ [Value.ref c]).toArray n')) → Q (.int k t) { s with heap := h', toks := tk' }) :
  wpAny (model prog w) (ktrTop dp un gd cn cs L a ccd cl outer) (call (.ref 63) [.ref x, .int room tr]) Q E s := by
  obtain ⟨rest, N1, off, hin, hall, hg⟩ := updF_split N U
  refine makeone_core B F X T hk hdp hun N1 off (hin _ hx (by intro e; cases e)) (hin _ hdx (by intro e; have e := congrArg Obj.cls e; simp [W.listOf] at e)) hlen ?_
  intro c d l ot n' t h' tk' h1 h2 h3 F' N'
  rw [hkl]
  refine hret c d l ot n' t h' tk' (allLt_sub h1 hall) h2 h3 F' (News.sub N' fun p hp => ?_)
  simp only [List.mem_cons] at hp ⊢
  rcases hp with h | h | h | h
  · exact .inl h
  · exact .inr (.inl h)
  · exact .inr (.inr (.inl h))
  · exact .inr (.inr (.inr (List.mem_cons.mp (hg _ p h))))
theorem fill_P24 : Challenge.rw_xm0171_01 = Challenge.rw_xm0171_01 ∧ Mine.hd.heap_39 = Mine.hd.heap_39 := by
  k_fill
  w_top off
  k_with_none
  k_with "gnd" => ((case u0 => k_asm); (case u1 => k_asm); (case u2 => k_asm); (case u3 => k_asm); (case u4 => first | exact rfl | assumption); (case u5 => ktr_room); (case u6 => ktr_units); (case u7 => k_asm))
  k_with "kln_le" => (first | exact ne_c rfl | exact lt_c rfl | exact ne_a rfl | exact ne_b rfl | exact ne_d (by assumption) rfl | exact ne_e (by assumption) rfl | exact lt_a (by assumption) rfl | exact ne_f (by assumption) | exact ne_f (Ne.symm (by assumption)) | exact ne_g (by assumption) rfl | exact ne_two (by assumption) (by assumption) (by assumption) | exact or5 (by assumption) (by kln_le) (by kln_le) (by kln_le) (by kln_le) (by kln_le) | omega)
  k_with "pl" => (with_reducible first | exact pl1 (by assumption) | exact pl2 (by assumption) | exact pl3 (by assumption) | exact pl4 (by assumption) | exact pl5 (by assumption) | exact pl6 (by assumption) | exact pl7 (by assumption) | exact pl8 (by assumption) | exact pl9 (by assumption) | exact pl10 (by assumption) | exact pl11 (by assumption) | exact pl12 (by assumption) | exact pl13 (by assumption) | exact pl14 (by assumption) | exact pl15 (by assumption) | exact pl16 (by assumption) | exact pl17 (by assumption) | exact pl18 (by assumption) | exact pl19 (by assumption) | exact pl20 (by assumption) | exact pl21 (by assumption) | exact pl22 (by assumption) | exact pl23 (by assumption) | exact pl24 (by assumption) | exact pl25 (by assumption) | exact pl26 (by assumption) | exact pl27 (by assumption) | exact pl28 (by assumption) | exact pl29 (by assumption) | exact pl30 (by assumption))
  k_with "pa" => (with_reducible first | exact pa1 (by assumption) | exact pa2 (by assumption) | exact pa3 (by assumption) | exact pa4 (by assumption) | exact pa5 (by assumption) | exact pa6 (by assumption) | exact pa7 (by assumption) | exact pa8 (by assumption) | exact pa9 (by assumption) | exact pa10 (by assumption) | exact pa11 (by assumption) | exact pa12 (by assumption) | exact pa13 (by assumption) | exact pa14 (by assumption) | exact pa15 (by assumption) | exact pa16 (by assumption) | exact pa17 (by assumption) | exact pa18 (by assumption) | exact pa19 (by assumption) | exact pa20 (by assumption) | exact pa21 (by assumption) | exact pa22 (by assumption) | exact pa23 (by assumption) | exact pa24 (by assumption) | exact pa25 (by assumption) | exact pa26 (by assumption) | exact pa27 (by assumption) | exact pa28 (by assumption) | exact pa29 (by assumption) | exact pa30 (by assumption))
  k_with "execs cons" => ((k_here; with_reducible first | (refine seq_start (s₀ := s) ?_; intro tkz9 qz9) | (refine seq_startS ?_; intro qz9; (try k_gentoks))))
  k_with "Seq" => ((k_here; with_reducible first | (refine seq_go (s₀ := s) ?_; intro tkz9 qz9) | (refine seq_goS ?_; intro qz9; (try k_gentoks)) | refine seq_end ?_ | refine seq_ret ?_ | refine seq_brk ?_ | refine seq_cont ?_))
  k_with "k_fold" => ((refine name_in ?_; intro e9z9 B9z9 M9z9 q9z9 x9z9))
  k_with "k_steps" => (repeat' (first | walk1 | (k_end; wrow_close) | (dsimp only; walk1) | (leave1; walk_say "STEP leave1"; try dsimp only) | (k_unfold; (try dsimp only)) | fail "no step"))
  k_with "storeName" => ((k_here; k_dflt (refine' storeLet ?F ?N ?_ ?a ?b; (case a => first | assumption | rfl); (case b => rfl); (case F => k_asm); (case N => k_asm); k_whole); intro hz9 mz9 Fz9 Nz9; (try k_sweep)))
  k_with "subscriptTail Name Constant ref int" => ((k_here; k_dflt (refine' item_tupleT ?t ?a ?b ?c ?d ?_; (case t => exact News.isTup (by k_asm) (rowsAt (by assumption) (by ktr_rel))); (case a => decide); (case b => decide); (case c => rfl); (case d => rfl))))
  k_with "kby_size" => (first | (rename ((_ ≠ _ ∧ _ ≠ _ ∧ _ ≠ _) ∧ _) => q9z9; with_reducible first | exact q9z9.1.1 | exact Ne.symm q9z9.1.1 | exact q9z9.1.2.1 | exact Ne.symm q9z9.1.2.1 | exact q9z9.1.2.2 | exact Ne.symm q9z9.1.2.2 | (replace q9z9 := q9z9.2; kby_size)) | (rename (_ ≠ _ ∧ _ ≠ _ ∧ _ ≠ _) => q9z9; with_reducible first | exact q9z9.1 | exact Ne.symm q9z9.1 | exact q9z9.2.1 | exact Ne.symm q9z9.2.1 | exact q9z9.2.2 | exact Ne.symm q9z9.2.2))
  k_with "k_ne" => (first | kby_size | (refine neN ?_; (try dsimp only); omega (config := { splitDisjunctions := false })))
  k_with "k_ne" => (first | kby_size | (refine neN (Nat.ne_of_gt ?_); k_extra "pl") | (refine neN (Nat.ne_of_lt ?_); k_extra "pl"))
  k_with "ktr_room" => (first | exact rm2 (by assumption) rfl | exact rm1 (by assumption) rfl | exact rm0 (by assumption) | exact rm3 (by assumption) rfl)
  k_with "ktr_units" => (first | exact rm2 (by assumption) rfl | exact rm1 (by assumption) rfl | exact rm0 (by assumption) | exact rm3 (by assumption) rfl)
  k_with "k_mem" => (first | assumption | exact RowsIn.at (by assumption) (by assumption))
  k_with "subscriptTail" => ((k_here; (with_reducible show wpAny _ _ (subscriptTail _ _ (Value.ref _) (Value.str _ _)) _ _ _); k_dflt (refine' kda_item (knd := PySem.strKind _ _) ?N ?hp ?hd (strKind_is _ _ _ _) ?hl ?_; (case N => k_asm); (case hp => k_mem); (case hd => k_asm); (case hl => rfl)); (try dsimp only)))
  k_with "exec For Name Subscript cons nil" => ((k_here; (rename Fr _ _ _ _ => lFz9); (with_unfolding_all refine' For_invVF lFz9 ?k1 ?k2 ?_; (case k1 => exact rfl); (case k2 => exact rfl); k_whole)))
  k_with "eval ListComp" => ((k_here; (with_reducible show wpAny _ _ (eval (Expr.ListComp _ [Comprehension.mk (Expr.Name _ _) _ [_] _] _ _) _) _ _ _); k_dflt (refine LCt.ListComp_T (F₀ := by k_asm) (by with_unfolding_all rfl) (by decide) (by rfl) (by decide) (by rfl) ?_)))
  k_with "CompSrcT" => ((k_here; k_dflt (refine LCt.CompSrcT.ledger (by rfl) (by k_asm) (by k_asm) (by k_mem) (by first | size_fits | (simp only [List.size_toArray, List.length_map, sizeLine_eq]; omega)) ?_); intro gz9))
  k_with "setItem ref str" => ((k_here; k_dflt (refine' kda_set (knd := PySem.strKind _ _) ?F ?N ?U ?d (strKind_is _ _ _ _) ?z ?_; (case F => k_asm); (case N => k_asm); (case U => k_updF); (case d => k_asm); (case z => rw [sizeLine_eq]; exact Nat.le_of_ble_eq_true (by with_unfolding_all rfl))); intro hz9 oz9 Fz9 Nz9 hdz9; (try dsimp only at Nz9)))
  k_with "is_list" => (exact News.isList (by k_asm) (by k_mem))
  k_with "ke_room" => (ktr_units)
  k_with "k_units" => (ktr_units)
  k_with "subscriptTail" => ((k_here; (with_reducible show wpAny _ _ (subscriptTail _ _ (Value.ref _) (Value.int _ _)) _ _ _); k_dflt (refine' my_item ?N ?hm ?h0 ?hhi ?hx ?_; (case N => k_asm); (case hm => k_mem); (case h0 => with_reducible assumption); (case hhi => with_reducible assumption); (case hx => with_reducible assumption))))
  k_with "ktr_rel" => (first | assumption | exact RowsIn.filter (by assumption) | (refine RowsIn.cons ?_; ktr_rel))
  k_with "ktr_unf" => (assumption)
  k_with "tb_rel" => (first | with_reducible assumption | (first | k_extra "pl" | k_extra "pa") | assumption | omega)
  k_with "tb_start" => (first | exact List.forall_mem_nil _ | (refine List.forall_mem_cons.mpr ⟨⟨by tb_rel, by tb_rel, by tb_rel⟩, ?_⟩; tb_start) | (refine List.forall_mem_cons.mpr ⟨⟨by tb_rel, by tb_rel, by tb_rel, by tb_rel⟩, ?_⟩; tb_start))
  k_with "call builtin:list.pop" => ((k_here; (try (rename News _ _ _ _ => N9pz9; simp only [List.push_toArray] at N9pz9)); k_dflt ((refine' my_pop0 ?F ?N ?U ?hi ?hne ?hz ?_); (case F => k_asm); (case N => k_asm); (case U => k_upd); (case hi => first | assumption | exact ints_snoc (by assumption)); (case hne => first | assumption | exact of_decide_eq_false (by assumption) | simp); (case hz => (try simp only [List.length_append, List.length_cons, List.length_nil]); omega)); intro t9z9 h9z9 F9z9 N9z9 hi9z9))
  k_with "call builtin:list.append" => ((k_here; (with_reducible show wpAny _ _ (call (Value.builtin _) [Value.ref _, _]) _ _ _); k_dflt (refine' append_K ?k1 ?k2 ?k3 ?_ ?z; (case k1 => k_asm); (case k2 => k_asm); (case k3 => k_upd); (case z => (simp only [List.size_toArray, List.length_tail, sizeLine_eq]; omega)); k_whole); intro hz9 Fz9 Nz9; (try simp only [List.push_toArray] at Nz9); (try k_sweep)))
  k_with "subscriptTail Name Name ref int" => ((k_here; (with_reducible show wpAny _ _ (subscriptTail _ _ (Value.ref _) (Value.int _ _)) _ _ _); k_dflt (first | (refine' my_item ?N ?hm ?h0 ?hhi ?hx ?_; (case N => k_asm); (case hm => k_mem); (case h0 => with_reducible assumption); (case hhi => with_reducible assumption); (case hx => with_reducible assumption)) | (refine' my_item ?N ?hm ?h0 ?hhi ?hx ?_; (case N => k_asm); (case hm => k_mem); (case h0 => decide); (case hhi => decide); (case hx => rfl)))))
  k_with "subscriptTail Attribute" => ((k_here; (with_reducible show wpAny _ _ (subscriptTail _ _ (Value.ref _) (Value.int _ _)) _ _ _); k_dflt (first | (refine' my_item ?N ?hm ?h0 ?hhi ?hx ?_; (case N => k_asm); (case hm => k_mem); (case h0 => with_reducible assumption); (case hhi => with_reducible assumption); (case hx => with_reducible assumption)) | (refine' my_item ?N ?hm ?h0 ?hhi ?hx ?_; (case N => k_asm); (case hm => k_mem); (case h0 => decide); (case hhi => decide); (case hx => rfl)))))
  k_with "subscriptTail Subscript" => ((k_here; (with_reducible show wpAny _ _ (subscriptTail _ _ (Value.ref _) (Value.int _ _)) _ _ _); k_dflt (first | (refine' my_item ?N ?hm ?h0 ?hhi ?hx ?_; (case N => k_asm); (case hm => k_mem); (case h0 => with_reducible assumption); (case hhi => with_reducible assumption); (case hx => with_reducible assumption)) | (refine' my_item ?N ?hm ?h0 ?hhi ?hx ?_; (case N => k_asm); (case hm => k_mem); (case h0 => decide); (case hhi => decide); (case hx => rfl)))))
  k_with "call ref" => ((k_here; guard_target =~ wpAny _ _ (call (Value.ref 302) _) _ _ _; k_dflt (refine' scoop_upd ?u0 ?u1 ?u2 ?u3 ?u4 ?u5 ?u6 ?u7 ?u8 ?u9 ?u10 ?u11 ?u12 ?u13 ?_; k_extra "gnd"; (case u8 => k_updF); (case u9 => assumption); (case u10 => assumption); (case u11 => assumption); (case u12 => first | decide | assumption | omega); (case u13 => first | decide | assumption | omega)); (intro y0 y1 y2 y3 y4 y5 y6 y7 y8 y9 y10 y11 y12 y13 yN; (try dsimp only at yN))))
  k_with "exec For Name Call cons nil" => (refine Stop.intro ?_)
  k_with "call ref" => ((k_here; k_dflt (refine' call_cls ?k1 ?k2 ?k3 ?k4 ?k5 ?k6 ?_; (case k1 => k_asm); (case k2 => k_asm); (case k3 => k_asm); (case k4 => k_is); (case k5 => k_is); (case k6 => k_is); k_whole; intro xz9 dz9 hz9 Fz9 Nz9 l1z9 l2z9; (try k_lt l1z9); (try k_lt2 l2z9); (try k_sweep); (refine' code_def ?k1 ?k2 ?k3 ?k4 ?k5 ?kA ?kF ?kK ?k6 ?k7 ?k8 ?k9 ?kB ?_ ?c2 ?c3 ?c4 ?c5; (case kA => exact rfl); (case kF => exact rfl); (case kK => first | exact rfl | assumption); (case k1 => k_asm); (case k2 => k_asm); (case k3 => k_asm); (case k4 => k_asm); (case k5 => k_asm); (case k6 => k_is); (case k7 => k_is); (case k8 => ktr_room); (case k9 => exact BindsTo.of_eq rfl); (case c5 => decide); (case kB => exact locs rfl); (case c2 => exact rfl); (case c3 => exact rfl); (case c4 => exact rfl); k_whole; intro gz9 Lz9 hz9 FGz9 Fz9 Nz9 Bz9 Xz9 Tz9; (try dsimp only); (try k_fold)))))
  k_with "CompSrc" => ((k_here; k_dflt (first
  | (refine LCg.CompSrc.ledger (by rfl) (by k_asm) (by k_asm) (by k_mem) (by first | size_fits | exact Nat.le_of_ble_eq_true rfl) ?_; intro gz9; lcg_lit)
  | (refine LCg.CompSrc.range (by rfl) (by k_asm) (by k_asm) (by assumption) (by first | decide | rfl) (by first | rfl | decide) (by first | size_fits | exact Nat.le_of_ble_eq_true rfl) ?_; intro gz9; lcg_lit))))
  k_with "call ref" => ((k_here; (with_reducible show wpAny _ _ (call (Value.ref 63) _) _ _ _); k_dflt (refine wpAny_call ?_; (refine' code_def ?k1 ?k2 ?k3 ?k4 ?k5 ?kA ?kF ?kK ?k6 ?k7 ?k8 ?k9 ?kB ?_ ?c2 ?c3 ?c4 ?c5; (case kA => exact rfl); (case kF => exact rfl); (case kK => first | exact rfl | assumption); (case k1 => k_asm); (case k2 => k_asm); (case k3 => k_asm); (case k4 => k_asm); (case k5 => k_asm); (case k6 => k_is); (case k7 => k_is); (case k8 => ktr_room); (case k9 => exact BindsTo.of_eq rfl); (case c5 => decide); (case kB => exact locs rfl); (case c2 => exact rfl); (case c3 => exact rfl); (case c4 => exact rfl); k_whole; intro gz9 Lz9 hz9 FGz9 Fz9 Nz9 Bz9 Xz9 Tz9; (try dsimp only); (try k_fold)))))
  k_with "lcg_off" => (first | exact True.intro | assumption | (refine And.intro ⟨by lcg_off, by lcg_off, by lcg_off⟩ ?_; lcg_off) | k_ne)
  k_with "CompEnd" => (lcg_end)
  k_with "KdnMade" => ((k_here; k_dflt (refine' kdn_made_str ?F ?N ?U ?d ?k ?n ?_; (case F => k_asm); (case N => k_asm); (case d => k_asm); (case U => k_updF); (case k => rfl); (case n => exact of_decide_eq_true (by first | rfl | kernel_rfl!)); intro hz9 oz9 Fz9 Nz9 hdz9); (try dsimp only at Nz9)))
  k_with "k_mem" => (assumption)
  k_with "call type:range" => ((k_here; (with_reducible show wpAny _ _ (call _ [Value.int _ _]) _ _ _); (rename Fr _ _ _ _ => lFz9); (rename News _ _ _ _ => lNz9); k_dflt (refine range1_rows lFz9 lNz9 ?_); intro _ _ _ _ _ _ _ _ _))
  k_with "pyIter ref" => (((with_reducible show wpAny _ _ (pyIter (Value.ref _)) (fun it s₂ => LoopAtV _ _ _ _ _ _ _ _ _ it s₂) _ _); refine Stop.intro ?_))
  k_with "compareOp NotEq ref ref" => (((have hmm9z9 : Mark := (by assumption)); refine Stop.intro ?_))
  k_with "compareOp Eq ref ref" => (((have hmm9z9 : Mark := (by assumption)); refine Stop.intro ?_))
  k_with "UnrEnd" => (refine Stop.intro ?_)
  k_with "call ref" => ((k_here; guard_target =~ wpAny _ _ (call (Value.ref 349) _) _ _ _; k_dflt (refine' deed_rule ?u0 ?u1 ?u2 ?u3 ?u4 ?u5 ?u6 ?u7 ?u8 ?u9 ?u10 ?u11 ?u12 ?u13 ?u14 ?u15 ?u16 ?u17 ?u18 ?u19 ?u20 ?u21 ?_; k_extra "gnd"; (case u8 => exact off_of_toff (by assumption)); (case u9 => exact pot_of_toff (by assumption)); (case u10 => assumption); (case u11 => assumption); (case u12 => assumption); (case u13 => assumption); (case u14 => assumption); (case u15 => omega); (case u16 => exact len_le (by assumption) (by omega)); (case u17 => assumption); (case u18 => assumption); (case u19 => assumption); (case u20 => omega); (case u21 => omega)); (intro ad9z9 ob9z9 pool9z9 b9z9 hs9z9 rows9z9 rows29z9 R9z9 p09z9 p19z9 t09z9 t19z9 h9z9 tk9z9 M9z9 O9z9 RC9z9 RB9z9 e19z9 e29z9 l9z9 lh9z9 q09z9 q19z9 q29z9 k9z9 F9z9 N9z9); (refine right_elim RC9z9 RB9z9 ?_; intro nw9z9 nv9z9 vs09z9 vs19z9 ws09z9 ws19z9 n09z9 n19z9 k09z9 k19z9 f1z9 f2z9 f3z9 f4z9 f5z9 f6z9 f7z9 f8z9 f9z9 g1z9 g2z9 g3z9 g4z9 g5z9 g6z9 g7z9 g8z9 i1z9 i2z9 i3z9 i4z9 j1z9 j2z9); (have kc9z9 := led_pool (ad := ad9z9) (ob := ob9z9) (k9z9 _ (by assumption))); (refine lens_elim (by assumption) lh9z9 (by assumption) i1z9 i2z9 i3z9 i4z9 ?_; intro z1z9 z2z9 z3z9 z4z9 z5z9 z6z9)))
  k_with "subscriptTail" => ((k_here; (with_reducible show wpAny _ _ (subscriptTail _ _ (Value.ref _) (Value.str _ _)) _ _ _); k_dflt (refine' kda_item (knd := PySem.strKind _ _) ?N ?hp ?hd (strKind_is _ _ _ _) ?hl ?_; (case N => k_asm); (case hp => k_mem); (case hd => k_asm); (case hl => rfl)); (try dsimp only)))
  k_with "subscriptTail" => ((k_here; (with_reducible show wpAny _ _ (subscriptTail _ _ (Value.ref _) (Value.int _ _)) _ _ _); k_dflt (refine my_item (by k_asm) (by k_mem) (by decide) (by decide) (by rfl) ?_)))
  k_with "CompEnd" => ((k_dflt (refine LCg.CompEnd.intro (by k_asm) (by k_asm) _ (fun p hp => hp) (by assumption) (by first | exact True.intro | exact Or.inr ⟨_, by k_mem, rfl, _, rfl⟩ | exact Or.inl (by assumption)) ?_)))
  k_with "call builtin:len" => ((k_here; (with_reducible show wpAny _ _ (call (Value.builtin "len") [Value.ref _]) _ _ _); k_dflt (refine my_len (by k_asm) (by k_mem) (by first | assumption | omega | (simp only [List.length_map, List.length_append, List.length_cons, List.length_nil]; omega)) ?_); intro t9z9 tk9z9))
  k_with "tb_rel" => (exact allLt_trans (by assumption) (by assumption : _ ∧ _ ∧ AllLt _ _).2.2)
  k_with "call ref" => ((k_here; guard_target =~ wpAny _ _ (call (Value.ref 70) [_, Value.none]) _ _ _; k_dflt (refine' size_none ?u0 ?u1 ?u2 ?u3 ?u4 ?u5 ?u6 ?u7 ?_; k_extra "gnd"); (intro y0 y1 y2 y3 yN; (try k_sweep))))
  k_with "call ref" => ((k_here; guard_target =~ wpAny _ _ (call (Value.ref 77) [_, Value.none]) _ _ _; k_dflt (refine' room_none ?u0 ?u1 ?u2 ?u3 ?u4 ?u5 ?u6 ?u7 ?_; k_extra "gnd"); (intro y0 y1 y2 y3 yN; (try k_sweep))))
  k_with "call ref" => ((k_here; guard_target =~ wpAny _ _ (call (Value.ref 70) [_, Value.int _ _]) _ _ _; k_dflt (refine' size_rule ?u0 ?u1 ?u2 ?u3 ?u4 ?u5 ?u6 ?u7 ?u8 ?u9 ?u10 ?u11 ?u12 ?u13 ?u14 ?u15 ?u16 ?u17 ?_; k_extra "gnd"; (case u8 => k_mem); (case u9 => k_mem); (case u10 => k_mem); (case u11 => decide); (case u12 => decide); (case u13 => rfl); (case u14 => k_mem); (case u15 => k_mem); (case u16 => k_mem); (case u17 => assumption)); (intro y0 y1 y2 y3 yN; (try k_sweep))))
  k_with "call ref" => ((k_here; guard_target =~ wpAny _ _ (call (Value.ref 77) [_, Value.int _ _]) _ _ _; k_dflt (refine' room_rule ?u0 ?u1 ?u2 ?u3 ?u4 ?u5 ?u6 ?u7 ?u8 ?u9 ?u10 ?u11 ?u12 ?u13 ?u14 ?u15 ?_; k_extra "gnd"; (case u8 => k_mem); (case u9 => k_mem); (case u10 => k_mem); (case u11 => decide); (case u12 => decide); (case u13 => rfl); (case u14 => k_mem); (case u15 => k_mem)); (intro y0 y1 y2 yN; (try k_sweep))))
  k_with "call ref" => ((k_here; guard_target =~ wpAny _ _ (call (Value.ref 63) _) _ _ _; k_dflt (first | (refine' makeone_rule (ct := ⟨_, _, _, _⟩) (k := 0) ?u0 ?u1 ?u2 ?u3 ?u4 ?u5 ?u6 ?u7 ?u8 ?u9 ?u10 ?u11 ?u12 ?_; k_extra "gnd"; (case u9 => k_mem); (case u10 => k_mem); (case u8 => k_updF); (case u11 => exact Nat.le_of_ble_eq_true rfl); (case u12 => rfl)) | (refine' makeone_rule (ct := ⟨_, _, _, _⟩) (k := 1) ?u0 ?u1 ?u2 ?u3 ?u4 ?u5 ?u6 ?u7 ?u8 ?u9 ?u10 ?u11 ?u12 ?_; k_extra "gnd"; (case u9 => k_mem); (case u10 => k_mem); (case u8 => k_updF); (case u11 => exact Nat.le_of_ble_eq_true rfl); (case u12 => rfl))); (intro c9z9 d9z9 l9z9 ot9z9 n9z9 t9z9 h9z9 tk9z9 l1z9 l2z9 l3z9 F9z9 N9z9); (have l4z9 := And.intro l2z9 (allLt_mono l1z9 l2z9)); (have l5z9 := And.intro l3z9 (And.intro (Nat.lt_trans l2z9 l3z9) (allLt_mono l1z9 (Nat.lt_trans l2z9 l3z9)))); (try dsimp only [AllLt] at l1z9 l4z9 l5z9); (try dsimp only [List.nil_append, List.cons_append] at N9z9); (try k_sweep)))
  exact ⟨rfl, rfl⟩
set_option maxRecDepth 100000 in
set_option maxHeartbeats 8000000 in
theorem right_rule {prog : Program} {w : World} {p : Program} {loose : List Str} {mean : ExcName → Option Value} {mg mb : Str → Option Value}
  {dp un : Nat} {gd : Option (List Code)} {cn : Str} {cs : Scope} {a : Addr} {ccd : Value} {cl : List (Str × Addr)} {outer : List Env} {A₀ : Around} {base h₀ : Heap} {L : Addr} {m : Str → Option Value} {s : Shared} {Q E : Value → Shared → Prop}
  {pot : Addr} {p0 p1 : Int} {t0 t1 : Tok} {np : Nat}
  (B : Below A₀ base outer h₀) (F : Fr h₀ L s.heap m) (X : (Mine.hd.heap_39 w.params).In h₀) (T : Top p loose mean mg mb h₀) (hk : cs.kind = .function) (hdp : dp + 60 < recursionLimit) (hun : un + 900 < cLine) (N : News h₀ L s.heap [(pot, potObj p0 p1 t0 t1 np)])
  (hp0 : 0 ≤ p0) (hp1 : 0 ≤ p1) (hp2 : p1 < 2147483171)
  (hret : ∀ p0' p1' t0' t1' h' tk', 0 ≤ p0' → 0 ≤ p1' → p1' < 2147483171 → Fr h₀ L h' m → News h₀ L h' [(pot, potObj p0' p1' t0' t1' np)] → Q (.bool true) { s with heap := h', toks := tk' }) :
  wpAny (model prog w) (ktrTop dp un gd cn cs L a ccd cl outer) (call (.ref 354) [.ref pot]) Q E s := by
  refine wpAny_call ?_
  k_dflt (refine' code_defC ?k1 ?k2 ?k3 ?k4 ?k5 ?kA ?kF ?kK ?k6 ?k7 ?k8 ?k9 ?kB ?kD ?_ ?c2 ?c3 ?c4; (case kA => exact rfl); (case kF => exact rfl); (case kK => assumption); (case k1 => k_asm); (case k2 => k_asm); (case k3 => k_asm); (case k4 => k_asm); (case k5 => k_asm); (case k6 => k_is); (case k7 => k_is); (case k8 => ktr_room); (case k9 => exact BindsTo.of_eq rfl); (case kB => exact rfl); (case kD => decide +kernel); (case c2 => exact rfl); (case c3 => exact rfl); (case c4 => exact rfl); k_whole; intro g' L' h' tk' cells' FG' F' N' Y' B' X' T' l1; (try k_lt l1); k_cells Y'; (try dsimp only [List.cons_append, List.nil_append] at N'); (try dsimp only); (try k_fold))
  k_steps
  with_reducible refine Stop.out ?_
  rename News _ _ _ _ => qN
  rename Obj.IsDictOf _ _ _ => qD
  obtain ⟨st, ad, ob, pool, e1, e2, e3, N1, M1, O1, C1, B1, c1⟩ := right_start qN qD (by repeat (first | exact Falls.one | refine Falls.cons (by tb_rel) ?_))
  clear qN qD
  repeat (rename (@LT.lt Nat _ _ _ ∧ _) => q9; clear q9)
  repeat (rename (@Ne Nat _ _) => q9; clear q9)
  repeat (rename ((@Ne Nat _ _ ∧ _) ∧ _) => q9; clear q9)
  subst e1 e2 e3
  have kc0 := led_pool (ad := ad) (ob := ob) c1
  have koff := off_of_toff (ob := ob) O1
  rename Fr _ _ _ _ => qF
  with_unfolding_all refine For_invVF qF rfl rfl ?_
  k_steps
  with_reducible refine Stop.out ?_
  rename IsRange _ _ _ _ _ _ _ _ => qR
  rename News _ _ _ _ => qN
  rename Fr _ _ _ _ => qF2
  refine right_loop rfl qR (by omega) (by omega) qF2 qN M1 (toff_pot O1) C1 B1 c1 (by assumption) (by assumption) (by assumption) ?_ ?_
  · skip
    intro I i t ad ob pool b hs rows rows₂ R p0 p1 t0 t1 it h tk hi hit hI hce M O RC RB e1 e2 hl hlh hc q0 q1 q2 F' N'
    have kc0 := led_pool (ad := ad) (ob := ob) hc
    have hMark : Mark := Mark.intro
    k_steps
    with_reducible refine Stop.out ?_
    rename News _ _ _ _ => qN
    k_dflt refine ne_same (n := 2) qN (bears_rows (by k_mem) (RowsIn.mono (by assumption) (sub_up sub_here)) (by assumption)) (bears_rows (by k_mem) (RowsIn.mono (by assumption) (sub_up sub_here)) (by assumption)) sh_rows (Nat.le_of_ble_eq_true rfl) (by ktr_units) ?_
    k_steps
    with_reducible refine Stop.out ?_
    rename News _ _ _ _ => qN
    k_dflt refine ne_same (n := 2) qN (bears_list (by k_mem) (.cons (bears_ints (by k_mem) (by assumption)) (.cons (bears_ints (by k_mem) (by assumption)) bearsL_nil))) (bears_list (by k_mem) (.cons (bears_ints (by k_mem) (by assumption)) (.cons (bears_ints (by k_mem) (by assumption)) bearsL_nil))) (Sh.list (Sh.cons sh_ints (Sh.cons sh_ints Sh.nil))) (Nat.le_of_ble_eq_true rfl) (by ktr_units) ?_
    k_steps
    with_reducible refine Stop.out ?_
    rename News _ _ _ _ => qN
    k_dflt refine ne_same (n := 1) qN (bears_list (by k_mem) (.cons bears_int (.cons bears_int (.cons bears_int bearsL_nil)))) (bears_list (by k_mem) (.cons (bears_int' (by omega)) (.cons (bears_int' (by omega)) (.cons bears_int bearsL_nil)))) (Sh.list (Sh.cons Sh.int (Sh.cons Sh.int (Sh.cons Sh.int Sh.nil)))) (Nat.le_of_ble_eq_true rfl) (by ktr_units) ?_
    k_steps
    with_reducible refine Stop.out ?_
    rename News _ _ _ _ => qN
    rename Fr _ _ _ _ => qF
    rename CellsOk _ _ => qM
    rename TOff _ _ _ => qT
    rename RepC _ _ _ _ _ _ _ => qC
    rename RepB _ _ _ _ _ _ _ _ _ => qB
    rename (∀ p ∈ pool, p ∈ _) => qP
    exact right_end qF qN (by repeat (first | exact sub_here | refine sub_up ?_)) (qP _ hI) hit hce qM qT qC qB (by assumption) (by assumption) (by omega) (len_up hlh (by assumption)) (qP _ hc) (by assumption) (by assumption) (by assumption)
  · skip
    intro v ad ob pool b hs rows rows₂ p0 p1 t0 t1 h tk RC RB hlh hc q0 q1 q2 F' N'
    have kc0 := led_pool (ad := ad) (ob := ob) hc
    refine right_elim RC RB ?_
    intro nw9 nv9 vs09 vs19 ws09 ws19 n09 n19 k09 k19 f1 f2 f3 f4 f5 f6 f7 f8 f9 g1 g2 g3 g4 g5 g6 g7 g8 i1 i2 i3 i4 j1 j2
    have hMark : Mark := Mark.intro
    k_steps
    (try k_unmd)
    k_steps
    with_reducible refine Stop.out ?_
    rename News _ _ _ _ => qN
    k_dflt refine eq_same (n := 1) qN (bears_list (by k_mem) (.cons bears_int (.cons bears_int (.cons bears_int bearsL_nil)))) (bears_list (by k_mem) (.cons bears_int (.cons bears_int (.cons bears_int bearsL_nil)))) (Sh.list (Sh.cons Sh.int (Sh.cons Sh.int (Sh.cons Sh.int Sh.nil)))) (Nat.le_of_ble_eq_true rfl) (by ktr_units) ?_
    k_steps

    rename News h₀ L _ _ => kN
    exact hret _ _ _ _ _ _ q0 q1 q2 (by assumption) (News.sub kN (one_mem (by k_mem)))
theorem fill_P25 : Challenge.rw_xm0171_01 = Challenge.rw_xm0171_01 ∧ Mine.hd.heap_39 = Mine.hd.heap_39 := by
  k_fill
  w_top off
  k_with_none
  k_with "gnd" => ((case u0 => k_asm); (case u1 => k_asm); (case u2 => k_asm); (case u3 => k_asm); (case u4 => first | exact rfl | assumption); (case u5 => ktr_room); (case u6 => ktr_units); (case u7 => k_asm))
  k_with "kln_le" => (first | exact ne_c rfl | exact lt_c rfl | exact ne_a rfl | exact ne_b rfl | exact ne_d (by assumption) rfl | exact ne_e (by assumption) rfl | exact lt_a (by assumption) rfl | exact ne_f (by assumption) | exact ne_f (Ne.symm (by assumption)) | exact ne_g (by assumption) rfl | exact ne_two (by assumption) (by assumption) (by assumption) | exact or5 (by assumption) (by kln_le) (by kln_le) (by kln_le) (by kln_le) (by kln_le) | omega)
  k_with "pl" => (with_reducible first | exact pl1 (by assumption) | exact pl2 (by assumption) | exact pl3 (by assumption) | exact pl4 (by assumption) | exact pl5 (by assumption) | exact pl6 (by assumption) | exact pl7 (by assumption) | exact pl8 (by assumption) | exact pl9 (by assumption) | exact pl10 (by assumption) | exact pl11 (by assumption) | exact pl12 (by assumption) | exact pl13 (by assumption) | exact pl14 (by assumption) | exact pl15 (by assumption) | exact pl16 (by assumption) | exact pl17 (by assumption) | exact pl18 (by assumption) | exact pl19 (by assumption) | exact pl20 (by assumption) | exact pl21 (by assumption) | exact pl22 (by assumption) | exact pl23 (by assumption) | exact pl24 (by assumption) | exact pl25 (by assumption) | exact pl26 (by assumption) | exact pl27 (by assumption) | exact pl28 (by assumption) | exact pl29 (by assumption) | exact pl30 (by assumption))
  k_with "pa" => (with_reducible first | exact pa1 (by assumption) | exact pa2 (by assumption) | exact pa3 (by assumption) | exact pa4 (by assumption) | exact pa5 (by assumption) | exact pa6 (by assumption) | exact pa7 (by assumption) | exact pa8 (by assumption) | exact pa9 (by assumption) | exact pa10 (by assumption) | exact pa11 (by assumption) | exact pa12 (by assumption) | exact pa13 (by assumption) | exact pa14 (by assumption) | exact pa15 (by assumption) | exact pa16 (by assumption) | exact pa17 (by assumption) | exact pa18 (by assumption) | exact pa19 (by assumption) | exact pa20 (by assumption) | exact pa21 (by assumption) | exact pa22 (by assumption) | exact pa23 (by assumption) | exact pa24 (by assumption) | exact pa25 (by assumption) | exact pa26 (by assumption) | exact pa27 (by assumption) | exact pa28 (by assumption) | exact pa29 (by assumption) | exact pa30 (by assumption))
  k_with "execs cons" => ((k_here; with_reducible first | (refine seq_start (s₀ := s) ?_; intro tkz9 qz9) | (refine seq_startS ?_; intro qz9; (try k_gentoks))))
  k_with "Seq" => ((k_here; with_reducible first | (refine seq_go (s₀ := s) ?_; intro tkz9 qz9) | (refine seq_goS ?_; intro qz9; (try k_gentoks)) | refine seq_end ?_ | refine seq_ret ?_ | refine seq_brk ?_ | refine seq_cont ?_))
  k_with "k_fold" => ((refine name_in ?_; intro e9z9 B9z9 M9z9 q9z9 x9z9))
  k_with "k_steps" => (repeat' (first | walk1 | (k_end; wrow_close) | (dsimp only; walk1) | (leave1; walk_say "STEP leave1"; try dsimp only) | (k_unfold; (try dsimp only)) | fail "no step"))
  k_with "storeName" => ((k_here; k_dflt (refine' storeLet ?F ?N ?_ ?a ?b; (case a => first | assumption | rfl); (case b => rfl); (case F => k_asm); (case N => k_asm); k_whole); intro hz9 mz9 Fz9 Nz9; (try k_sweep)))
  k_with "subscriptTail Name Constant ref int" => ((k_here; k_dflt (refine' item_tupleT ?t ?a ?b ?c ?d ?_; (case t => exact News.isTup (by k_asm) (rowsAt (by assumption) (by ktr_rel))); (case a => decide); (case b => decide); (case c => rfl); (case d => rfl))))
  k_with "kby_size" => (first | (rename ((_ ≠ _ ∧ _ ≠ _ ∧ _ ≠ _) ∧ _) => q9z9; with_reducible first | exact q9z9.1.1 | exact Ne.symm q9z9.1.1 | exact q9z9.1.2.1 | exact Ne.symm q9z9.1.2.1 | exact q9z9.1.2.2 | exact Ne.symm q9z9.1.2.2 | (replace q9z9 := q9z9.2; kby_size)) | (rename (_ ≠ _ ∧ _ ≠ _ ∧ _ ≠ _) => q9z9; with_reducible first | exact q9z9.1 | exact Ne.symm q9z9.1 | exact q9z9.2.1 | exact Ne.symm q9z9.2.1 | exact q9z9.2.2 | exact Ne.symm q9z9.2.2))
  k_with "k_ne" => (first | kby_size | (refine neN ?_; (try dsimp only); omega (config := { splitDisjunctions := false })))
  k_with "k_ne" => (first | kby_size | (refine neN (Nat.ne_of_gt ?_); k_extra "pl") | (refine neN (Nat.ne_of_lt ?_); k_extra "pl"))
  k_with "ktr_room" => (first | exact rm2 (by assumption) rfl | exact rm1 (by assumption) rfl | exact rm0 (by assumption) | exact rm3 (by assumption) rfl)
  k_with "ktr_units" => (first | exact rm2 (by assumption) rfl | exact rm1 (by assumption) rfl | exact rm0 (by assumption) | exact rm3 (by assumption) rfl)
  k_with "k_mem" => (first | assumption | exact RowsIn.at (by assumption) (by assumption))
  k_with "subscriptTail" => ((k_here; (with_reducible show wpAny _ _ (subscriptTail _ _ (Value.ref _) (Value.str _ _)) _ _ _); k_dflt (refine' kda_item (knd := PySem.strKind _ _) ?N ?hp ?hd (strKind_is _ _ _ _) ?hl ?_; (case N => k_asm); (case hp => k_mem); (case hd => k_asm); (case hl => rfl)); (try dsimp only)))
  k_with "exec For Name Subscript cons nil" => ((k_here; (rename Fr _ _ _ _ => lFz9); (with_unfolding_all refine' For_invVF lFz9 ?k1 ?k2 ?_; (case k1 => exact rfl); (case k2 => exact rfl); k_whole)))
  k_with "eval ListComp" => ((k_here; (with_reducible show wpAny _ _ (eval (Expr.ListComp _ [Comprehension.mk (Expr.Name _ _) _ [_] _] _ _) _) _ _ _); k_dflt (refine LCt.ListComp_T (F₀ := by k_asm) (by with_unfolding_all rfl) (by decide) (by rfl) (by decide) (by rfl) ?_)))
  k_with "CompSrcT" => ((k_here; k_dflt (refine LCt.CompSrcT.ledger (by rfl) (by k_asm) (by k_asm) (by k_mem) (by first | size_fits | (simp only [List.size_toArray, List.length_map, sizeLine_eq]; omega)) ?_); intro gz9))
  k_with "setItem ref str" => ((k_here; k_dflt (refine' kda_set (knd := PySem.strKind _ _) ?F ?N ?U ?d (strKind_is _ _ _ _) ?z ?_; (case F => k_asm); (case N => k_asm); (case U => k_updF); (case d => k_asm); (case z => rw [sizeLine_eq]; exact Nat.le_of_ble_eq_true (by with_unfolding_all rfl))); intro hz9 oz9 Fz9 Nz9 hdz9; (try dsimp only at Nz9)))
  k_with "is_list" => (exact News.isList (by k_asm) (by k_mem))
  k_with "ke_room" => (ktr_units)
  k_with "k_units" => (ktr_units)
  k_with "subscriptTail" => ((k_here; (with_reducible show wpAny _ _ (subscriptTail _ _ (Value.ref _) (Value.int _ _)) _ _ _); k_dflt (refine' my_item ?N ?hm ?h0 ?hhi ?hx ?_; (case N => k_asm); (case hm => k_mem); (case h0 => with_reducible assumption); (case hhi => with_reducible assumption); (case hx => with_reducible assumption))))
  k_with "ktr_rel" => (first | assumption | exact RowsIn.filter (by assumption) | (refine RowsIn.cons ?_; ktr_rel))
  k_with "ktr_unf" => (assumption)
  k_with "tb_rel" => (first | with_reducible assumption | (first | k_extra "pl" | k_extra "pa") | assumption | omega)
  k_with "tb_start" => (first | exact List.forall_mem_nil _ | (refine List.forall_mem_cons.mpr ⟨⟨by tb_rel, by tb_rel, by tb_rel⟩, ?_⟩; tb_start) | (refine List.forall_mem_cons.mpr ⟨⟨by tb_rel, by tb_rel, by tb_rel, by tb_rel⟩, ?_⟩; tb_start))
  k_with "call builtin:list.pop" => ((k_here; (try (rename News _ _ _ _ => N9pz9; simp only [List.push_toArray] at N9pz9)); k_dflt ((refine' my_pop0 ?F ?N ?U ?hi ?hne ?hz ?_); (case F => k_asm); (case N => k_asm); (case U => k_upd); (case hi => first | assumption | exact ints_snoc (by assumption)); (case hne => first | assumption | exact of_decide_eq_false (by assumption) | simp); (case hz => (try simp only [List.length_append, List.length_cons, List.length_nil]); omega)); intro t9z9 h9z9 F9z9 N9z9 hi9z9))
  k_with "call builtin:list.append" => ((k_here; (with_reducible show wpAny _ _ (call (Value.builtin _) [Value.ref _, _]) _ _ _); k_dflt (refine' append_K ?k1 ?k2 ?k3 ?_ ?z; (case k1 => k_asm); (case k2 => k_asm); (case k3 => k_upd); (case z => (simp only [List.size_toArray, List.length_tail, sizeLine_eq]; omega)); k_whole); intro hz9 Fz9 Nz9; (try simp only [List.push_toArray] at Nz9); (try k_sweep)))
  k_with "subscriptTail Name Name ref int" => ((k_here; (with_reducible show wpAny _ _ (subscriptTail _ _ (Value.ref _) (Value.int _ _)) _ _ _); k_dflt (first | (refine' my_item ?N ?hm ?h0 ?hhi ?hx ?_; (case N => k_asm); (case hm => k_mem); (case h0 => with_reducible assumption); (case hhi => with_reducible assumption); (case hx => with_reducible assumption)) | (refine' my_item ?N ?hm ?h0 ?hhi ?hx ?_; (case N => k_asm); (case hm => k_mem); (case h0 => decide); (case hhi => decide); (case hx => rfl)))))
  k_with "subscriptTail Attribute" => ((k_here; (with_reducible show wpAny _ _ (subscriptTail _ _ (Value.ref _) (Value.int _ _)) _ _ _); k_dflt (first | (refine' my_item ?N ?hm ?h0 ?hhi ?hx ?_; (case N => k_asm); (case hm => k_mem); (case h0 => with_reducible assumption); (case hhi => with_reducible assumption); (case hx => with_reducible assumption)) | (refine' my_item ?N ?hm ?h0 ?hhi ?hx ?_; (case N => k_asm); (case hm => k_mem); (case h0 => decide); (case hhi => decide); (case hx => rfl)))))
  k_with "subscriptTail Subscript" => ((k_here; (with_reducible show wpAny _ _ (subscriptTail _ _ (Value.ref _) (Value.int _ _)) _ _ _); k_dflt (first | (refine' my_item ?N ?hm ?h0 ?hhi ?hx ?_; (case N => k_asm); (case hm => k_mem); (case h0 => with_reducible assumption); (case hhi => with_reducible assumption); (case hx => with_reducible assumption)) | (refine' my_item ?N ?hm ?h0 ?hhi ?hx ?_; (case N => k_asm); (case hm => k_mem); (case h0 => decide); (case hhi => decide); (case hx => rfl)))))
  exact ⟨rfl, rfl⟩
structure PTok where
  k1 : Int
  u1 : Tok
  k2 : Int
  u2 : Tok
  k3 : Int
  u3 : Tok
  k4 : Int
  u4 : Tok
structure PRow where
  x : Addr
  d : Addr
  c : Addr
  t : PTok
  num : Int
  tn : Tok
  ts : Tok
  nc : Nat
abbrev coDict (t : ChTok) (rw : Addr) (tk : Int) (tt : Tok) : Obj := dictOf [⟨t.k1, .str "row" t.u1, .ref rw⟩, ⟨t.k2, .str "taken" t.u2, .int tk tt⟩] 2
abbrev rtDict (t : OneTok) (ch al : Addr) (here : Value) : Obj := dictOf [⟨t.k1, .str "choices" t.u1, .ref ch⟩, ⟨t.k2, .str "all" t.u2, .ref al⟩, ⟨t.k3, .str "here" t.u3, here⟩] 3
def pickT (many tk : Int) : Int := if many ≤ 1 then tk else tk + 1
def pickV (row : List Int) (many tk : Int) : Int := if many ≤ 1 then 0 else if tk < row.length then Int.fmod (row.getD tk.toNat 0) many else 0
theorem ints_at {vs : List Value} {ns : List Int} (h : IntsAre vs ns) : ∀ {i : Nat}, i < ns.length → ∃ t, vs[i]? = some (.int (ns.getD i 0) t) := by
  induction h with
  | nil => intro i hi; exact absurd hi (Nat.not_lt_zero _)
  | cons n t _ ih =>
    intro i hi
    cases i with
    | zero => exact ⟨t, rfl⟩
    | succ i =>
      obtain ⟨t', e⟩ := ih (i := i) (by simpa using hi)
      exact ⟨t', by simpa using e⟩
set_option maxRecDepth 100000 in
set_option maxHeartbeats 8000000 in
theorem pick_rule {prog : Program} {w : World} {p : Program} {loose : List Str} {mean : ExcName → Option Value} {mg mb : Str → Option Value}
  {dp un : Nat} {gd : Option (List Code)} {cn : Str} {cs : Scope} {a : Addr} {ccd : Value} {cl : List (Str × Addr)} {outer : List Env} {A₀ : Around} {base h₀ : Heap} {L : Addr} {m : Str → Option Value} {s : Shared} {Q E : Value → Shared → Prop}
  {rest : List (Addr × Obj)} {ch cd rw : Addr} {ct : ChTok} {tk : Int} {tt : Tok} {vs : List Value} {row : List Int} {nr : Nat} {many : Int} {tm : Tok}
  (B : Below A₀ base outer h₀) (F : Fr h₀ L s.heap m) (X : (Mine.hd.heap_39 w.params).In h₀) (T : Top p loose mean mg mb h₀) (hk : cs.kind = .function) (hdp : dp + 10 < recursionLimit) (hun : un + 80 < cLine) (N : News h₀ L s.heap ((cd, coDict ct rw tk tt) :: rest)) (off : OwnOff rest [cd])
  (hch : (ch, instObj 183 cd) ∈ rest) (hrw : (rw, listOf vs.toArray nr) ∈ rest) (hi : IntsAre vs row) (hl : row.length = 3) (ht0 : 0 ≤ tk) (ht1 : tk ≤ 4) (hm0 : 1 ≤ many) (hm1 : many ≤ 10)
  (hret : ∀ h' tk' tt' t', Fr h₀ L h' m → News h₀ L h' ((cd, coDict ct rw (pickT many tk) tt') :: rest) → Q (.int (pickV row many tk) t') { s with heap := h', toks := tk' }) :
  wpAny (model prog w) (ktrTop dp un gd cn cs L a ccd cl outer) (call (.ref 180) [.ref ch, .int many tm]) Q E s := by
  have hvl := hi.length
  rcases (by omega : many ≤ 1 ∨ (1 < many ∧ tk < 3) ∨ (1 < many ∧ 3 ≤ tk)) with hc | ⟨hc, hc2⟩ | ⟨hc, hc2⟩
  · have e1 : pickT many tk = tk := if_pos hc
    have e2 : pickV row many tk = 0 := if_pos hc
    rw [e1, e2] at hret
    (refine wpAny_call ?_; k_dflt ktr_enter)
    k_steps
    exact hret _ _ _ _ (by assumption) (by assumption)
  · have e1 : pickT many tk = tk + 1 := if_neg (by omega)
    have e2 : pickV row many tk = Int.fmod (row.getD tk.toNat 0) many := by rw [pickV, if_neg (by omega), if_pos (by omega)]
    rw [e1, e2] at hret
    obtain ⟨tv, hx⟩ := ints_at hi (i := tk.toNat) (by omega)
    have h0 : 0 ≤ tk := ht0
    have hhi : tk < 2 ^ 63 := by omega
    (refine wpAny_call ?_; k_dflt ktr_enter)
    k_steps
    exact hret _ _ _ _ (by assumption) (by assumption)
  · have e1 : pickT many tk = tk + 1 := if_neg (by omega)
    have e2 : pickV row many tk = 0 := by rw [pickV, if_neg (by omega), if_neg (by omega)]
    rw [e1, e2] at hret
    (refine wpAny_call ?_; k_dflt ktr_enter)
    k_steps
    exact hret _ _ _ _ (by assumption) (by assumption)
theorem pick_upd {prog : Program} {w : World} {p : Program} {loose : List Str} {mean : ExcName → Option Value} {mg mb : Str → Option Value}
  {dp un : Nat} {gd : Option (List Code)} {cn : Str} {cs : Scope} {a : Addr} {ccd : Value} {cl : List (Str × Addr)} {outer : List Env} {A₀ : Around} {base h₀ : Heap} {L : Addr} {m : Str → Option Value} {s : Shared} {Q E : Value → Shared → Prop}
  {news : List (Addr × Obj)} {gg : Obj → List (Addr × Obj)} {ch cd rw : Addr} {ct : ChTok} {tk : Int} {tt : Tok} {vs : List Value} {row : List Int} {nr : Nat} {many : Int} {tm : Tok}
  (B : Below A₀ base outer h₀) (F : Fr h₀ L s.heap m) (X : (Mine.hd.heap_39 w.params).In h₀) (T : Top p loose mean mg mb h₀) (hk : cs.kind = .function) (hdp : dp + 10 < recursionLimit) (hun : un + 80 < cLine) (N : News h₀ L s.heap news) (U : UpdF cd (coDict ct rw tk tt) news gg)
  (hch : (ch, instObj 183 cd) ∈ news) (hrw : (rw, listOf vs.toArray nr) ∈ news) (hi : IntsAre vs row) (hl : row.length = 3) (ht0 : 0 ≤ tk) (ht1 : tk ≤ 4) (hm0 : 1 ≤ many) (hm1 : many ≤ 10)
  (hret : ∀ tt' t' h' tk', Fr h₀ L h' m → News h₀ L h' (gg (coDict ct rw (pickT many tk) tt')) → Q (.int (pickV row many tk) t') { s with heap := h', toks := tk' }) :
  wpAny (model prog w) (ktrTop dp un gd cn cs L a ccd cl outer) (call (.ref 180) [.ref ch, .int many tm]) Q E s := by
  obtain ⟨rest, N1, o1, m1, m2, m3⟩ := updF_split N U
  exact pick_rule B F X T hk hdp hun N1 o1 (m1 _ hch (ne_cls rfl rfl (by simp))) (m1 _ hrw (ne_cls rfl rfl (by simp))) hi hl ht0 ht1 hm0 hm1 fun h' tk' tt' t' F' N' => hret tt' t' h' tk' F' fun p hp => N' p (m3 _ p hp)
theorem fill_P26a : Challenge.rw_xm0171_01 = Challenge.rw_xm0171_01 ∧ Mine.hd.heap_39 = Mine.hd.heap_39 := by
  k_fill
  w_top off
  k_with "exec For Name Call cons nil" => (refine Stop.intro ?_)
  k_with "call ref" => ((k_here; k_dflt (refine' call_cls ?k1 ?k2 ?k3 ?k4 ?k5 ?k6 ?_; (case k1 => k_asm); (case k2 => k_asm); (case k3 => k_asm); (case k4 => k_is); (case k5 => k_is); (case k6 => k_is); k_whole; intro xz9 dz9 hz9 Fz9 Nz9 l1z9 l2z9; (try k_lt l1z9); (try k_lt2 l2z9); (try k_sweep); (refine' code_def ?k1 ?k2 ?k3 ?k4 ?k5 ?kA ?kF ?kK ?k6 ?k7 ?k8 ?k9 ?kB ?_ ?c2 ?c3 ?c4 ?c5; (case kA => exact rfl); (case kF => exact rfl); (case kK => first | exact rfl | assumption); (case k1 => k_asm); (case k2 => k_asm); (case k3 => k_asm); (case k4 => k_asm); (case k5 => k_asm); (case k6 => k_is); (case k7 => k_is); (case k8 => ktr_room); (case k9 => exact BindsTo.of_eq rfl); (case c5 => decide); (case kB => exact locs rfl); (case c2 => exact rfl); (case c3 => exact rfl); (case c4 => exact rfl); k_whole; intro gz9 Lz9 hz9 FGz9 Fz9 Nz9 Bz9 Xz9 Tz9; (try dsimp only); (try k_fold)))))
  k_with "CompSrc" => ((k_here; k_dflt (first
  | (refine LCg.CompSrc.ledger (by rfl) (by k_asm) (by k_asm) (by k_mem) (by first | size_fits | exact Nat.le_of_ble_eq_true rfl) ?_; intro gz9; lcg_lit)
  | (refine LCg.CompSrc.range (by rfl) (by k_asm) (by k_asm) (by assumption) (by first | decide | rfl) (by first | rfl | decide) (by first | size_fits | exact Nat.le_of_ble_eq_true rfl) ?_; intro gz9; lcg_lit))))
  k_with "call ref" => ((k_here; (with_reducible show wpAny _ _ (call (Value.ref 63) _) _ _ _); k_dflt (refine wpAny_call ?_; (refine' code_def ?k1 ?k2 ?k3 ?k4 ?k5 ?kA ?kF ?kK ?k6 ?k7 ?k8 ?k9 ?kB ?_ ?c2 ?c3 ?c4 ?c5; (case kA => exact rfl); (case kF => exact rfl); (case kK => first | exact rfl | assumption); (case k1 => k_asm); (case k2 => k_asm); (case k3 => k_asm); (case k4 => k_asm); (case k5 => k_asm); (case k6 => k_is); (case k7 => k_is); (case k8 => ktr_room); (case k9 => exact BindsTo.of_eq rfl); (case c5 => decide); (case kB => exact locs rfl); (case c2 => exact rfl); (case c3 => exact rfl); (case c4 => exact rfl); k_whole; intro gz9 Lz9 hz9 FGz9 Fz9 Nz9 Bz9 Xz9 Tz9; (try dsimp only); (try k_fold)))))
  k_with "lcg_off" => (first | exact True.intro | assumption | (refine And.intro ⟨by lcg_off, by lcg_off, by lcg_off⟩ ?_; lcg_off) | k_ne)
  k_with "CompEnd" => (lcg_end)
  k_with "KdnMade" => ((k_here; k_dflt (refine' kdn_made_str ?F ?N ?U ?d ?k ?n ?_; (case F => k_asm); (case N => k_asm); (case d => k_asm); (case U => k_updF); (case k => rfl); (case n => exact of_decide_eq_true (by first | rfl | kernel_rfl!)); intro hz9 oz9 Fz9 Nz9 hdz9); (try dsimp only at Nz9)))
  k_with "call builtin:len" => ((k_here; (with_reducible show wpAny _ _ (call (Value.builtin "len") [Value.ref _]) _ _ _); k_dflt (refine my_len (by k_asm) (by k_mem) (by first | assumption | omega | (simp only [List.length_map, List.length_append, List.length_cons, List.length_nil]; omega)) ?_); intro t9z9 tk9z9))
  k_with "tb_rel" => (exact allLt_trans (by assumption) (by assumption : _ ∧ _ ∧ AllLt _ _).2.2)
  exact ⟨rfl, rfl⟩
abbrev prefs (prs : List PRow) : List Value := prs.map fun r => .ref r.x
abbrev PRow.dic (r : PRow) : Obj := dictOf [⟨r.t.k1, .str "number" r.t.u1, .int r.num r.tn⟩, ⟨r.t.k2, .str "calls" r.t.u2, .ref r.c⟩, ⟨r.t.k3, .str "state" r.t.u3, .str "ready" r.ts⟩, ⟨r.t.k4, .str "answer" r.t.u4, .none⟩] 4
def PRsIn (prs : List PRow) (news : List (Addr × Obj)) : Prop := ∀ r ∈ prs, (r.x, instObj 244 r.d) ∈ news ∧ (r.d, r.dic) ∈ news
theorem PRsIn.mono {prs : List PRow} {a b : List (Addr × Obj)} (h : PRsIn prs a) (hs : ∀ p ∈ a, p ∈ b) : PRsIn prs b := fun r hr => ⟨hs _ (h r hr).1, hs _ (h r hr).2⟩
theorem new_end {h₀ h : Heap} {L c x d rd al : Addr} {ord : Obj} {k1 k2 k3 k4 num : Int} {u1 u2 u3 u4 tn ts : Tok} {na : Nat} {prs : List PRow} {rest : List (Addr × Obj)}
    (kN : News h₀ L h ((c, listOf #[] 0) :: (x, instObj 244 d) :: (d, dictOf [⟨k1, .str "number" u1, .int num tn⟩, ⟨k2, .str "calls" u2, .ref c⟩, ⟨k3, .str "state" u3, .str "ready" ts⟩, ⟨k4, .str "answer" u4, .none⟩] 4) :: (rd, ord) :: (al, listOf ((prefs prs).toArray.push (.ref x)) na) :: rest))
    (hf : ∀ p ∈ [(c, listOf #[] 0), (x, instObj 244 d), (d, dictOf [⟨k1, .str "number" u1, .int num tn⟩, ⟨k2, .str "calls" u2, .ref c⟩, ⟨k3, .str "state" u3, .str "ready" ts⟩, ⟨k4, .str "answer" u4, .none⟩] 4)], @LT.lt Nat _ rd p.1 ∧ @LT.lt Nat _ al p.1 ∧ AllLt p.1 rest) (hn : num = ((prs.length : Nat) : Int)) :
    ∃ r fresh, r.x = x ∧ r.num = ((prs.length : Nat) : Int) ∧ PRsIn [r] fresh ∧ OwnOff fresh (rd :: al :: rest.map (·.1)) ∧ News h₀ L h ((rd, ord) :: (al, listOf (prefs (prs ++ [r])).toArray na) :: (fresh ++ rest)) := by
  refine ⟨⟨x, d, c, ⟨k1, u1, k2, u2, k3, u3, k4, u4⟩, num, tn, ts, 0⟩, [(c, listOf #[] 0), (x, instObj 244 d), (d, dictOf [⟨k1, .str "number" u1, .int num tn⟩, ⟨k2, .str "calls" u2, .ref c⟩, ⟨k3, .str "state" u3, .str "ready" ts⟩, ⟨k4, .str "answer" u4, .none⟩] 4)], rfl, hn, fun r hr => ?_, fun p hp b hb => ?_, fun p hp => ?_⟩
  · rw [List.mem_singleton] at hr
    subst hr
    exact ⟨.tail _ (.head _), .tail _ (.tail _ (.head _))⟩
  · obtain ⟨g1, g2, g3⟩ := hf p hp
    rcases List.mem_cons.mp hb with rfl | hb
    · exact Nat.ne_of_gt g1
    · rcases List.mem_cons.mp hb with rfl | hb
      · exact Nat.ne_of_gt g2
      · obtain ⟨q, hq, rfl⟩ := List.mem_map.mp hb
        exact Nat.ne_of_gt (AllLt.mem g3 q hq)
  · have e : (prefs prs).toArray.push (.ref x) = (prefs (prs ++ [⟨x, d, c, ⟨k1, u1, k2, u2, k3, u3, k4, u4⟩, num, tn, ts, 0⟩])).toArray := by simp
    rw [e] at kN
    simp only [List.mem_cons, List.mem_append, List.not_mem_nil, or_false] at hp
    rcases hp with h | h | (h | h | h) | h
    · exact kN p (h ▸ .tail _ (.tail _ (.tail _ (.head _))))
    · exact kN p (h ▸ .tail _ (.tail _ (.tail _ (.tail _ (.head _)))))
    · exact kN p (h ▸ .head _)
    · exact kN p (h ▸ .tail _ (.head _))
    · exact kN p (h ▸ .tail _ (.tail _ (.head _)))
    · exact kN p (.tail _ (.tail _ (.tail _ (.tail _ (.tail _ h)))))
def hereOf (here : Value) (x : Addr) : Value := match here with
  | .none => .ref x
  | v => v
set_option maxRecDepth 100000 in
set_option maxHeartbeats 8000000 in
theorem new_rule {prog : Program} {w : World} {p : Program} {loose : List Str} {mean : ExcName → Option Value} {mg mb : Str → Option Value}
  {dp un : Nat} {gd : Option (List Code)} {cn : Str} {cs : Scope} {a : Addr} {ccd : Value} {cl : List (Str × Addr)} {outer : List Env} {A₀ : Around} {base h₀ : Heap} {L : Addr} {m : Str → Option Value} {s : Shared} {Q E : Value → Shared → Prop}
  {rest : List (Addr × Obj)} {rt rd ch al : Addr} {ot : OneTok} {here : Value} {prs : List PRow} {na : Nat}
  (B : Below A₀ base outer h₀) (F : Fr h₀ L s.heap m) (X : (Mine.hd.heap_39 w.params).In h₀) (T : Top p loose mean mg mb h₀) (hk : cs.kind = .function) (hdp : dp + 20 < recursionLimit) (hun : un + 160 < cLine) (N : News h₀ L s.heap ((rd, rtDict ot ch al here) :: (al, listOf (prefs prs).toArray na) :: rest)) (off : OwnOff rest [rd, al]) (hne : @Ne Nat rd al)
  (hrt : (rt, instObj 284 rd) ∈ rest) (hlen : prs.length ≤ 10) (hh : (prs = [] ∧ here = .none) ∨ (∃ x, here = .ref x))
  (hret : ∀ r fresh na' h' tk', r.num = ((prs.length : Nat) : Int) → PRsIn [r] fresh → OwnOff fresh (rd :: al :: rest.map (·.1)) → Fr h₀ L h' m → News h₀ L h' ((rd, rtDict ot ch al (hereOf here r.x)) :: (al, listOf (prefs (prs ++ [r])).toArray na') :: (fresh ++ rest)) → Q (.ref r.x) { s with heap := h', toks := tk' }) :
  wpAny (model prog w) (ktrTop dp un gd cn cs L a ccd cl outer) (call (.ref 269) [.ref rt]) Q E s := by
  rcases hh with ⟨rfl, rfl⟩ | ⟨xh, rfl⟩
  · (refine wpAny_call ?_; k_dflt ktr_enter)
    k_steps
    rename News h₀ L _ _ => kN
    obtain ⟨r, fresh, e1, e2, e3, e4, e5⟩ := new_end (prs := []) kN (by tb_start) (by simp)
    subst e1
    exact hret r fresh _ _ _ e2 e3 e4 (by assumption) e5
  · (refine wpAny_call ?_; k_dflt ktr_enter)
    k_steps
    rename News h₀ L _ _ => kN
    obtain ⟨r, fresh, e1, e2, e3, e4, e5⟩ := new_end kN (by tb_start) (by simp)
    subst e1
    exact hret r fresh _ _ _ e2 e3 e4 (by assumption) e5
theorem fill_P26b : Challenge.rw_xm0171_01 = Challenge.rw_xm0171_01 ∧ Mine.hd.heap_39 = Mine.hd.heap_39 := by
  k_fill
  w_top off
  k_with "call ref" => ((k_here; guard_target =~ wpAny _ _ (call (Value.ref 180) _) _ _ _; k_dflt (refine' pick_upd ?u0 ?u1 ?u2 ?u3 ?u4 ?u5 ?u6 ?u7 ?u8 ?u9 ?u10 ?u11 ?u12 ?u13 ?u14 ?u15 ?u16 ?_; k_extra "gnd"; (case u9 => k_mem); (case u8 => k_updF); (case u10 => k_mem); (case u11 => assumption); (case u12 => assumption); (case u13 => first | assumption | omega); (case u14 => first | assumption | omega); (case u15 => first | omega | (simp only [List.length_map]; omega)); (case u16 => first | omega | (simp only [List.length_map]; omega))); (intro y0 y1 y2 y3 y4 yN; (try dsimp only at yN))))
  exact ⟨rfl, rfl⟩
theorem at_prs {prs : List PRow} {news : List (Addr × Obj)} (h : PRsIn prs news) {j : Int} (h0 : 0 ≤ j) (h1 : j < (prs.length : Int)) : ∃ r, prs[j.toNat]? = some r ∧ (prefs prs)[j.toNat]? = some (.ref r.x) ∧ (r.x, instObj 244 r.d) ∈ news ∧ (r.d, r.dic) ∈ news := by
  have hj : j.toNat < prs.length := by omega
  have e : prs[j.toNat]? = some prs[j.toNat] := List.getElem?_eq_getElem hj
  refine ⟨_, e, ?_, h _ (List.getElem_mem hj)⟩
  rw [List.getElem?_map, e]; rfl
theorem filter_all {prs : List PRow} : prs.filter (fun _ => true) = prs := by simp
theorem pickV_bound {row : List Int} {many tk : Int} (h : 1 ≤ many) : 0 ≤ pickV row many tk ∧ pickV row many tk < many := by
  have h1 : (0 : Int) < many := by omega
  unfold pickV
  split
  · omega
  · split
    · exact ⟨Int.fmod_nonneg_of_pos _ h1, Int.fmod_lt_of_pos _ h1⟩
    · omega
theorem pick_end {h₀ h : Heap} {L l D rd cd : Addr} {ol oD o1 o2 : Obj} {rest : List (Addr × Obj)} (kN : News h₀ L h ((l, ol) :: (D, oD) :: (rd, o1) :: (cd, o2) :: rest)) (h1 : @LT.lt Nat _ D l ∧ @LT.lt Nat _ rd l ∧ @LT.lt Nat _ cd l ∧ AllLt l rest) (h2 : rd ≠ D ∧ cd ≠ D ∧ LCg.Off1 D rest) :
    OwnOff [(l, ol), (D, oD)] (rd :: cd :: rest.map (·.1)) ∧ News h₀ L h ((rd, o1) :: (cd, o2) :: ([(l, ol), (D, oD)] ++ rest)) := by
  refine ⟨fun p hp b hb => ?_, fun p hp => kN p ?_⟩
  · simp only [List.mem_cons, List.mem_map, List.not_mem_nil, or_false] at hp hb
    rcases hp with rfl | rfl
    · rcases hb with rfl | rfl | ⟨q, hq, rfl⟩
      · exact Nat.ne_of_gt h1.2.1
      · exact Nat.ne_of_gt h1.2.2.1
      · exact Nat.ne_of_gt (AllLt.mem h1.2.2.2 q hq)
    · rcases hb with rfl | rfl | ⟨q, hq, rfl⟩
      · exact Ne.symm h2.1
      · exact Ne.symm h2.2.1
      · exact Ne.symm (off1_mem h2.2.2 q hq)
  · simp only [List.mem_cons, List.mem_append, List.not_mem_nil, or_false] at hp ⊢
    rcases hp with h | h | (h | h) | h <;> simp [h]
set_option maxRecDepth 100000 in
set_option maxHeartbeats 8000000 in
theorem pickone_rule {prog : Program} {w : World} {p : Program} {loose : List Str} {mean : ExcName → Option Value} {mg mb : Str → Option Value}
  {dp un : Nat} {gd : Option (List Code)} {cn : Str} {cs : Scope} {a : Addr} {ccd : Value} {cl : List (Str × Addr)} {outer : List Env} {A₀ : Around} {base h₀ : Heap} {L : Addr} {m : Str → Option Value} {s : Shared} {Q E : Value → Shared → Prop}
  {rest : List (Addr × Obj)} {rt rd ch cd al rw : Addr} {ot : OneTok} {ct : ChTok} {here : Value} {prs : List PRow} {na nr : Nat} {ptk : Int} {tt : Tok} {vs : List Value} {row : List Int}
  (B : Below A₀ base outer h₀) (F : Fr h₀ L s.heap m) (X : (Mine.hd.heap_39 w.params).In h₀) (T : Top p loose mean mg mb h₀) (hk : cs.kind = .function) (hdp : dp + 30 < recursionLimit) (hun : un + 300 < cLine) (N : News h₀ L s.heap ((rd, rtDict ot ch al here) :: (cd, coDict ct rw ptk tt) :: rest)) (off : OwnOff rest [rd, cd]) (hne : @Ne Nat rd cd)
  (hrt : (rt, instObj 284 rd) ∈ rest) (hch : (ch, instObj 183 cd) ∈ rest) (hal : (al, listOf (prefs prs).toArray na) ∈ rest) (hp : PRsIn prs rest) (hlen : prs.length ≤ 10) (hlen1 : 1 ≤ prs.length)
  (hrw : (rw, listOf vs.toArray nr) ∈ rest) (hi : IntsAre vs row) (hl : row.length = 3) (ht0 : 0 ≤ ptk) (ht1 : ptk ≤ 4)
  (hret : ∀ r tt' fresh h' tk', prs[(pickV row (prs.length : Int) ptk).toNat]? = some r → OwnOff fresh (rd :: cd :: rest.map (·.1)) → Fr h₀ L h' m → News h₀ L h' ((rd, rtDict ot ch al (.ref r.x)) :: (cd, coDict ct rw (pickT (prs.length : Int) ptk) tt') :: (fresh ++ rest)) → Q (.bool true) { s with heap := h', toks := tk' }) :
  wpAny (model prog w) (ktrTop dp un gd cn cs L a ccd cl outer) (call (.ref 274) [.ref rt]) Q E s := by
  refine wpAny_call ?_
  k_dflt ktr_enter
  k_steps
  k_dflt refine compT_ind (fun r : PRow => Value.ref r.x) prs (fun _ => true) ?turn ?fin
  case turn =>
    intro R ys v I oI C oC D m₂ h tk E' hv hC hx2 F' N' off' ne' hRt hRf
    obtain ⟨hv1, hv2⟩ := hp v hv
    k_steps
    · exact LCg.CompEnd.intro (by assumption) (by assumption) _ (fun p hp => hp) off' (Or.inr ⟨_, List.Mem.tail _ (List.Mem.tail _ hal), rfl, _, rfl⟩) (hRt rfl)
  case fin =>
    rw [filter_all]
    k_steps
    have hpos : (prefs prs).length = prs.length := List.length_map ..
    k_dflt refine SeqAt.eq_list_lengthsAt (items := (prefs prs).toArray) (items2 := #[]) (News.isList (by k_asm) (by k_mem)) (News.isList (by k_asm) (by k_mem)) (bne_iff_ne.mpr (by rw [List.size_toArray, hpos]; show prs.length ≠ 0; omega)) (by ktr_units) ?_
    k_steps
    have eL : (List.map (fun r : PRow => Value.ref r.x) prs).length = prs.length := List.length_map ..
    obtain ⟨b0, b1⟩ := pickV_bound (row := row) (tk := ptk) (many := ((List.map (fun r : PRow => Value.ref r.x) prs).length : Int)) (by rw [eL]; omega)
    obtain ⟨r, g1, g2, g3, g4⟩ := at_prs hp b0 (by rw [eL] at b1; rw [eL]; exact b1)
    k_dflt refine my_item (v := .ref r.x) (by k_asm) (by k_mem) b0 (by omega) g2 ?_
    k_steps
    rename News h₀ L _ _ => kN
    rename (_ ≠ _ ∧ _ ≠ _ ∧ LCg.Off1 _ _) => hoff
    obtain ⟨oo, NN⟩ := pick_end kN (by assumption) hoff
    exact hret r _ _ _ _ (by rw [eL] at g1; exact g1) oo (by assumption) (by rw [eL] at NN; exact NN)
structure Four (rd al cd rdy : Addr) (pool : List (Addr × Obj)) : Prop where
  n1 : @Ne Nat rd al
  n2 : @Ne Nat rd cd
  n3 : @Ne Nat rd rdy
  n4 : @Ne Nat al cd
  n5 : @Ne Nat al rdy
  n6 : @Ne Nat cd rdy
  off : OwnOff pool [rd, al, cd, rdy]
theorem Four.off1 {rd al cd rdy : Addr} {pool : List (Addr × Obj)} (h : Four rd al cd rdy pool) {p : Addr × Obj} (hp : p ∈ pool) : p.1 ≠ rd ∧ p.1 ≠ al ∧ p.1 ≠ cd ∧ p.1 ≠ rdy :=
  ⟨h.off p hp _ (.head _), h.off p hp _ (.tail _ (.head _)), h.off p hp _ (.tail _ (.tail _ (.head _))), h.off p hp _ (.tail _ (.tail _ (.tail _ (.head _))))⟩
theorem Four.of {rd al cd rdy : Addr} {pool pool' : List (Addr × Obj)} (h : Four rd al cd rdy pool) (ho : ∀ p ∈ pool', p.1 ≠ rd ∧ p.1 ≠ al ∧ p.1 ≠ cd ∧ p.1 ≠ rdy) : Four rd al cd rdy pool' :=
  ⟨h.n1, h.n2, h.n3, h.n4, h.n5, h.n6, fun p hp => nb_con (ho p hp).1 (nb_con (ho p hp).2.1 (nb_con (ho p hp).2.2.1 (nb_con (ho p hp).2.2.2 nb_nil)))⟩
theorem Four.app {rd al cd rdy : Addr} {pool fresh : List (Addr × Obj)} (h : Four rd al cd rdy pool) (ho : OwnOff fresh [rd, al, cd, rdy]) : Four rd al cd rdy (fresh ++ pool) := ⟨h.n1, h.n2, h.n3, h.n4, h.n5, h.n6, off_app ho h.off⟩
theorem Four.con {rd al cd rdy I : Addr} {it : Obj} {pool : List (Addr × Obj)} (h : Four rd al cd rdy pool) (ho : ∀ b ∈ [rd, al, cd, rdy], I ≠ b) : Four rd al cd rdy ((I, it) :: pool) := ⟨h.n1, h.n2, h.n3, h.n4, h.n5, h.n6, off_con ho h.off⟩
set_option maxRecDepth 100000 in
set_option maxHeartbeats 8000000 in
theorem new_S {prog : Program} {w : World} {p : Program} {loose : List Str} {mean : ExcName → Option Value} {mg mb : Str → Option Value}
  {dp un : Nat} {gd : Option (List Code)} {cn : Str} {cs : Scope} {a : Addr} {ccd : Value} {cl : List (Str × Addr)} {outer : List Env} {A₀ : Around} {base h₀ : Heap} {L : Addr} {m : Str → Option Value} {s : Shared} {Q E : Value → Shared → Prop}
  {pool : List (Addr × Obj)} {rt rd ch al cd rdy : Addr} {o3 o4 : Obj} {ot : OneTok} {here : Value} {prs : List PRow} {na : Nat}
  (B : Below A₀ base outer h₀) (F : Fr h₀ L s.heap m) (X : (Mine.hd.heap_39 w.params).In h₀) (T : Top p loose mean mg mb h₀) (hk : cs.kind = .function) (hdp : dp + 20 < recursionLimit) (hun : un + 160 < cLine) (N : News h₀ L s.heap ((rd, rtDict ot ch al here) :: (al, listOf (prefs prs).toArray na) :: (cd, o3) :: (rdy, o4) :: pool)) (D : Four rd al cd rdy pool)
  (hrt : (rt, instObj 284 rd) ∈ pool) (hlen : prs.length ≤ 10) (hh : (prs = [] ∧ here = .none) ∨ (∃ x, here = .ref x))
  (hret : ∀ r fresh na' h' tk', r.num = ((prs.length : Nat) : Int) → PRsIn [r] fresh → Four rd al cd rdy (fresh ++ pool) → OwnOff fresh (pool.map (·.1)) → Fr h₀ L h' m → News h₀ L h' ((rd, rtDict ot ch al (hereOf here r.x)) :: (al, listOf (prefs (prs ++ [r])).toArray na') :: (cd, o3) :: (rdy, o4) :: (fresh ++ pool)) → Q (.ref r.x) { s with heap := h', toks := tk' }) :
  wpAny (model prog w) (ktrTop dp un gd cn cs L a ccd cl outer) (call (.ref 269) [.ref rt]) Q E s := by
  exact new_rule B F X T hk hdp hun N (off_con (nb_con (Ne.symm D.n2) (nb_con (Ne.symm D.n4) nb_nil)) (off_con (nb_con (Ne.symm D.n3) (nb_con (Ne.symm D.n5) nb_nil)) (OwnOff.sub D.off (ix_sub [0, 1] rfl)))) D.n1 (.tail _ (.tail _ hrt)) hlen hh fun r fresh na' h' tk' e1 e2 e3 F' N' =>
    hret r fresh na' h' tk' e1 e2 (D.app (OwnOff.sub e3 (ix_sub [0, 1, 2, 3] rfl))) (fun p hp b hb => e3 p hp b (.tail _ (.tail _ (.tail _ (.tail _ hb))))) F' (News.sub N' (ix_subT [0, 1] rfl rfl (sub_D 2 rfl (ap_sub (xs := [(cd, o3), (rdy, o4)]) (ix_sub [0, 1] rfl) (ix_all 2 rfl)))))
set_option maxRecDepth 100000 in
set_option maxHeartbeats 8000000 in
theorem pickone_S {prog : Program} {w : World} {p : Program} {loose : List Str} {mean : ExcName → Option Value} {mg mb : Str → Option Value}
  {dp un : Nat} {gd : Option (List Code)} {cn : Str} {cs : Scope} {a : Addr} {ccd : Value} {cl : List (Str × Addr)} {outer : List Env} {A₀ : Around} {base h₀ : Heap} {L : Addr} {m : Str → Option Value} {s : Shared} {Q E : Value → Shared → Prop}
  {pool : List (Addr × Obj)} {rt rd ch cd al rdy rw : Addr} {o4 : Obj} {ot : OneTok} {ct : ChTok} {here : Value} {prs : List PRow} {na nr : Nat} {ptk : Int} {tt : Tok} {vs : List Value} {row : List Int}
  (B : Below A₀ base outer h₀) (F : Fr h₀ L s.heap m) (X : (Mine.hd.heap_39 w.params).In h₀) (T : Top p loose mean mg mb h₀) (hk : cs.kind = .function) (hdp : dp + 30 < recursionLimit) (hun : un + 300 < cLine) (N : News h₀ L s.heap ((rd, rtDict ot ch al here) :: (al, listOf (prefs prs).toArray na) :: (cd, coDict ct rw ptk tt) :: (rdy, o4) :: pool)) (D : Four rd al cd rdy pool)
  (hrt : (rt, instObj 284 rd) ∈ pool) (hch : (ch, instObj 183 cd) ∈ pool) (hp : PRsIn prs pool) (hlen : prs.length ≤ 10) (hlen1 : 1 ≤ prs.length)
  (hrw : (rw, listOf vs.toArray nr) ∈ pool) (hi : IntsAre vs row) (hl : row.length = 3) (ht0 : 0 ≤ ptk) (ht1 : ptk ≤ 4)
  (hret : ∀ r tt' fresh h' tk', prs[(pickV row (prs.length : Int) ptk).toNat]? = some r → Four rd al cd rdy (fresh ++ pool) → OwnOff fresh (pool.map (·.1)) → Fr h₀ L h' m → News h₀ L h' ((rd, rtDict ot ch al (.ref r.x)) :: (al, listOf (prefs prs).toArray na) :: (cd, coDict ct rw (pickT (prs.length : Int) ptk) tt') :: (rdy, o4) :: (fresh ++ pool)) → Q (.bool true) { s with heap := h', toks := tk' }) :
  wpAny (model prog w) (ktrTop dp un gd cn cs L a ccd cl outer) (call (.ref 274) [.ref rt]) Q E s := by
  have N1 : News h₀ L s.heap ((rd, rtDict ot ch al here) :: (cd, coDict ct rw ptk tt) :: (al, listOf (prefs prs).toArray na) :: (rdy, o4) :: pool) := News.sub N (ix_subT [0, 2, 1, 3] rfl rfl (ix_all 4 rfl))
  exact pickone_rule B F X T hk hdp hun N1 (off_con (nb_con (Ne.symm D.n1) (nb_con D.n4 nb_nil)) (off_con (nb_con (Ne.symm D.n3) (nb_con (Ne.symm D.n6) nb_nil)) (OwnOff.sub D.off (ix_sub [0, 2] rfl)))) D.n2 (.tail _ (.tail _ hrt)) (.tail _ (.tail _ hch)) (.head _) (hp.mono fun p hp => .tail _ (.tail _ hp)) hlen hlen1 (.tail _ (.tail _ hrw)) hi hl ht0 ht1 fun r tt' fresh h' tk' e1 e3 F' N' =>
    hret r tt' fresh h' tk' e1 (D.app (OwnOff.sub e3 (ix_sub [0, 2, 1, 3] rfl))) (fun p hp b hb => e3 p hp b (.tail _ (.tail _ (.tail _ (.tail _ hb))))) F'
      (News.sub N' (sub_cons (.head _) (sub_cons (.tail _ (.tail _ (List.mem_append_right _ (.head _)))) (sub_cons (ix_mem 1 rfl) (sub_cons (.tail _ (.tail _ (List.mem_append_right _ (.tail _ (.head _))))) (sub_D 2 rfl (sub_app (sub_L sub_rfl) (sub_R (ix_all 2 rfl)))))))))
def upTo (i : Nat) : List Int := (List.range i).map fun (j : Nat) => (j : Int)
theorem upTo_succ {i : Nat} : upTo (i + 1) = upTo i ++ [(i : Int)] := by simp [upTo, List.range_succ]
theorem upTo_at {i j : Nat} (h : j < i) : (upTo i).getD j 0 = (j : Int) := by simp [upTo, List.getD, h]
theorem upTo_len {i : Nat} : (upTo i).length = i := by simp [upTo]
def HereOk (prs : List PRow) (here : Value) : Prop := (prs = [] ∧ here = .none) ∨ (∃ r, prs[0]? = some r ∧ here = .ref r.x)
def Nums (prs : List PRow) : Prop := ∀ (j : Nat) r, prs[j]? = some r → r.num = (j : Int)
theorem Nums.snoc {prs : List PRow} {r : PRow} (h : Nums prs) (hr : r.num = ((prs.length : Nat) : Int)) : Nums (prs ++ [r]) := fun j q e => by
  by_cases hj : j < prs.length
  · rw [List.getElem?_append_left hj] at e; exact h j q e
  · rw [List.getElem?_append_right (by omega)] at e
    have h0 : j - prs.length = 0 := by
      cases hk : j - prs.length with
      | zero => rfl
      | succ k => rw [hk] at e; simp at e
    rw [h0] at e
    have : q = r := by simpa using e.symm
    rw [this, hr, show j = prs.length by omega]
theorem HereOk.snoc {prs : List PRow} {r : PRow} {here : Value} (h : HereOk prs here) : HereOk (prs ++ [r]) (hereOf here r.x) := by
  rcases h with ⟨rfl, rfl⟩ | ⟨q, e, rfl⟩
  · exact .inr ⟨r, rfl, rfl⟩
  · refine .inr ⟨q, ?_, rfl⟩
    rw [List.getElem?_append_left (List.getElem?_eq_some_iff.mp e).1]; exact e
theorem PRsIn.app {prs qrs : List PRow} {a : List (Addr × Obj)} (h : PRsIn prs a) (h' : PRsIn qrs a) : PRsIn (prs ++ qrs) a := fun r hr => (List.mem_append.mp hr).elim (h r) (h' r)
theorem PRsIn.drop {prs : List PRow} {pool pool' : List (Addr × Obj)} (h : PRsIn prs pool) (hp : ∀ p ∈ pool, p.2.cls ≠ .type "range_iterator" → p ∈ pool') : PRsIn prs pool' := fun r hr => ⟨hp _ (h r hr).1 (by intro e; cases e), hp _ (h r hr).2 (by intro e; simp at e)⟩
def RtJ (rd al cd rdy ch : Addr) (ot : OneTok) (o3 : Obj) (keep : List (Addr × Obj)) (m₀ : Str → Option Value) (x : Str) (I : Addr) (i : Nat) (m : Str → Option Value) (news : List (Addr × Obj)) : Prop :=
  ∃ v here prs vs na nd pool, m = (fun y => if y = x then v else m₀ y) ∧ news = (rd, rtDict ot ch al here) :: (al, listOf (prefs prs).toArray na) :: (cd, o3) :: (rdy, listOf vs.toArray nd) :: pool ∧ Four rd al cd rdy pool ∧ (∀ p ∈ news, p.1 ≠ I) ∧
    prs.length = i ∧ Nums prs ∧ PRsIn prs pool ∧ IntsAre vs (upTo i) ∧ HereOk prs here ∧ (∀ p ∈ keep, p ∈ pool)
theorem RtJ.elim {rd al cd rdy ch : Addr} {ot : OneTok} {o3 : Obj} {keep : List (Addr × Obj)} {m₀ : Str → Option Value} {x : Str} {I : Addr} {i : Nat} {m : Str → Option Value} {news : List (Addr × Obj)} {P : (Str → Option Value) → List (Addr × Obj) → Prop} (h : RtJ rd al cd rdy ch ot o3 keep m₀ x I i m news)
    (k : ∀ v here prs vs na nd pool, Four rd al cd rdy pool → (∀ p ∈ (rd, rtDict ot ch al here) :: (al, listOf (prefs prs).toArray na) :: (cd, o3) :: (rdy, listOf vs.toArray nd) :: pool, p.1 ≠ I) → prs.length = i → Nums prs → PRsIn prs pool → IntsAre vs (upTo i) → HereOk prs here → (∀ p ∈ keep, p ∈ pool) →
      P (fun y => if y = x then v else m₀ y) ((rd, rtDict ot ch al here) :: (al, listOf (prefs prs).toArray na) :: (cd, o3) :: (rdy, listOf vs.toArray nd) :: pool)) : P m news := by
  obtain ⟨v, here, prs, vs, na, nd, pool, rfl, rfl, D, c1, e1, hn, hp, hv, hH, hk⟩ := h
  exact k v here prs vs na nd pool D c1 e1 hn hp hv hH hk
section
variable {prog : Program} {w : World} {A : Around} {E : Value → Shared → Prop} {s : Shared} {env : Env} {h₀ : Heap} {x : Str} {body : List Stmt} {Q : Flow → Shared → Prop}
theorem rt_loop {r rd al cd rdy ch : Addr} {ot : OneTok} {o3 : Obj} {keep : List (Addr × Obj)} {b₀ : Int} {t₀ u₀ v₀ : Tok} {m₀ : Str → Option Value} {n1 n2 : Nat}
    (hh : A.handled = none) (hr : IsRange s.heap r 0 b₀ 1 t₀ u₀ v₀) (hb0 : 1 ≤ b₀) (hb1 : b₀ ≤ 4) (F : Fr h₀ env.locals s.heap m₀) (N : News h₀ env.locals s.heap ((rd, rtDict ot ch al .none) :: (al, listOf (prefs []).toArray n1) :: (cd, o3) :: (rdy, listOf ([] : List Value).toArray n2) :: keep))
    (D : Four rd al cd rdy keep)
    (turn : ∀ I i t it here prs vs na nd pool h tk, i < 4 → it.cls = .type "range_iterator" → (I, it) ∈ pool → (∀ p ∈ keep, p.1 ≠ I) → Four rd al cd rdy pool → prs.length = i → Nums prs → PRsIn prs pool → IntsAre vs (upTo i) → HereOk prs here → (∀ p ∈ keep, p ∈ pool) →
      Fr h₀ env.locals h (fun y => if y = x then some (.int (0 + (i : Int)) t) else m₀ y) → News h₀ env.locals h ((rd, rtDict ot ch al here) :: (al, listOf (prefs prs).toArray na) :: (cd, o3) :: (rdy, listOf vs.toArray nd) :: pool) →
      wpAny (model prog w) A (execs body env) (UnrPost h₀ env.locals { s with heap := h, toks := tk } I it (RtJ rd al cd rdy ch ot o3 keep m₀ x I (i + 1)) Q) E { s with heap := h, toks := tk })
    (done : ∀ v here prs vs na nd pool h tk, 1 ≤ prs.length → prs.length ≤ 4 → Four rd al cd rdy pool → Nums prs → PRsIn prs pool → IntsAre vs (upTo prs.length) → HereOk prs here → (∀ p ∈ keep, p ∈ pool) →
      Fr h₀ env.locals h (fun y => if y = x then v else m₀ y) → News h₀ env.locals h ((rd, rtDict ot ch al here) :: (al, listOf (prefs prs).toArray na) :: (cd, o3) :: (rdy, listOf vs.toArray nd) :: pool) → Q .next { s with heap := h, toks := tk }) :
    wpAny (model prog w) A (pyIter (.ref r)) (fun it s₂ => LoopAtV prog w A h₀ env x body Q E it s₂) E s := by
  refine iter_rangeJ (fun I i m news => RtJ rd al cd rdy ch ot o3 keep m₀ x I i m news ∧ ∀ p ∈ keep, p.1 ≠ I) hh hr (small_one (by omega) (by omega) (by omega) (by omega)) (rangeSize_nat _ _) F N (fun I hI =>
    ⟨⟨m₀ x, .none, [], [], n1, n2, keep, put_self, rfl, D, fun p hp => Nat.ne_of_lt (hI p hp), rfl, fun j r e => (nomatch e), fun r hr => (nomatch hr), .nil, .inl ⟨rfl, rfl⟩, fun p hp => hp⟩, fun p hp => Nat.ne_of_lt (hI p (.tail _ (.tail _ (.tail _ (.tail _ hp)))))⟩) ?_ ?_
  · intro I i m₁ news₁ t h tk hi hj
    refine RtJ.elim (P := fun m₁ news₁ => Fr h₀ env.locals h (fun y => if y = x then some (.int (0 + (i : Int)) t) else m₁ y) → News h₀ env.locals h ((I, itR (0 + ((i + 1 : Nat) : Int)) ((((b₀ - 0).toNat : Nat) : Int) - ((i + 1 : Nat) : Int))) :: news₁) → _) hj.1 ?_
    intro v here prs vs na nd pool D c1 e1 hn hp hv hH hk F' N'
    exact wpAny_mono (turn I i t (itR (0 + ((i + 1 : Nat) : Int)) ((((b₀ - 0).toNat : Nat) : Int) - ((i + 1 : Nat) : Int))) here prs vs na nd _ h tk (by omega) rfl (.head _) hj.2 (D.con (nb_con (Ne.symm (c1 _ (.head _))) (nb_con (Ne.symm (c1 _ (ix_mem 1 rfl))) (nb_con (Ne.symm (c1 _ (ix_mem 2 rfl))) (nb_con (Ne.symm (c1 _ (ix_mem 3 rfl))) nb_nil)))))
      e1 hn (hp.mono fun p hp => .tail _ hp) hv hH (fun p hp => .tail _ (hk p hp)) (fr_put2 F') (News.sub N' (ix_subT [1, 2, 3, 4, 0] rfl rfl (ix_all 5 rfl)))) (unrPost_imp fun _ _ j => ⟨j, hj.2⟩) fun _ _ e => e
  · intro I m₁ news₁ h tk hj
    refine RtJ.elim (P := fun m₁ news₁ => Fr h₀ env.locals h m₁ → News h₀ env.locals h news₁ → _) hj.1 ?_
    intro v here prs vs na nd pool D c1 e1 hn hp hv hH hk F' N'
    exact done v here prs vs na nd pool h tk (by omega) (by omega) D hn hp (e1.symm ▸ hv) hH hk F' N'
end
theorem rt_end {h₀ h' : Heap} {L I rd al cd rdy ch : Addr} {ot : OneTok} {o3 it : Obj} {keep pool : List (Addr × Obj)} {m₀ : Str → Option Value} {x : Str} {v : Option Value} {here : Value} {prs : List PRow} {vs : List Value} {na nd i : Nat} {s₁ : Shared} {tk : Nat} {all : List (Addr × Obj)}
    (F : Fr h₀ L h' (fun y => if y = x then v else m₀ y)) (N : News h₀ L h' all) (C : ∀ p ∈ (rd, rtDict ot ch al here) :: (al, listOf (prefs prs).toArray na) :: (cd, o3) :: (rdy, listOf vs.toArray nd) :: pool, p ∈ all) (hI : (I, it) ∈ pool) (hit : it.cls = .type "range_iterator") (hkI : ∀ p ∈ keep, p.1 ≠ I)
    (D : Four rd al cd rdy pool) (e1 : prs.length = i) (hn : Nums prs) (hp : PRsIn prs pool) (hv : IntsAre vs (upTo i)) (hH : HereOk prs here) (hk : ∀ p ∈ keep, p ∈ pool) : UnrEnd h₀ L s₁ I it (RtJ rd al cd rdy ch ot o3 keep m₀ x I i) { s₁ with heap := h', toks := tk } := by
  have N1 : News h₀ L h' ((rd, rtDict ot ch al here) :: (al, listOf (prefs prs).toArray na) :: (cd, o3) :: (rdy, listOf vs.toArray nd) :: pool) := fun p hp => N p (C p hp)
  have N2 : News h₀ L h' pool := fun p hp => N1 p (.tail _ (.tail _ (.tail _ (.tail _ hp))))
  have kp := drop_it N2 hI hit
  have sub : ∀ p ∈ pool.filter fun p => p.1 != I, p ∈ pool := fun p hp => (List.mem_filter.mp hp).1
  have offp : ∀ p ∈ pool.filter fun p => p.1 != I, p.1 ≠ I := fun p hp => by simpa using (List.mem_filter.mp hp).2
  have hd := D.off1 hI
  have offn : ∀ p ∈ (rd, rtDict ot ch al here) :: (al, listOf (prefs prs).toArray na) :: (cd, o3) :: (rdy, listOf vs.toArray nd) :: (pool.filter fun p => p.1 != I), p.1 ≠ I := sub_cons' (Ne.symm hd.1) (sub_cons' (Ne.symm hd.2.1) (sub_cons' (Ne.symm hd.2.2.1) (sub_cons' (Ne.symm hd.2.2.2) offp)))
  exact ⟨h', tk, _, (rd, rtDict ot ch al here) :: (al, listOf (prefs prs).toArray na) :: (cd, o3) :: (rdy, listOf vs.toArray nd) :: (pool.filter fun p => p.1 != I), rfl, F, News.sub N1 (sub_cons (ix_tl 4 rfl hI) (ix_subT [0, 1, 2, 3] rfl rfl (sub_D 4 rfl sub))), offn,
    v, here, prs, vs, na, nd, pool.filter fun p => p.1 != I, rfl, rfl, D.of fun p hp => D.off1 (sub p hp), offn, e1, hn, hp.drop kp, hv, hH, fun p hp => List.mem_filter.mpr ⟨hk p hp, by simpa using hkI p hp⟩⟩
def RuJ (rd al cd rdy ch rw : Addr) (ot : OneTok) (ct : ChTok) (oal ordy : Obj) (prs : List PRow) (keep : List (Addr × Obj)) (m₀ : Str → Option Value) (x xp xt : Str) (I : Addr) (i : Nat) (m : Str → Option Value) (news : List (Addr × Obj)) : Prop :=
  ∃ v v2 tkn tkt here tt pool, m = (fun y => if y = x then v else if y = xp then v2 else if y = xt then some (Value.int tkn tkt) else m₀ y) ∧ news = (rd, rtDict ot ch al here) :: (al, oal) :: (cd, coDict ct rw tkn tt) :: (rdy, ordy) :: pool ∧ Four rd al cd rdy pool ∧ (∀ p ∈ news, p.1 ≠ I) ∧
    0 ≤ tkn ∧ tkn ≤ (i : Int) ∧ (∃ r ∈ prs, here = .ref r.x) ∧ PRsIn prs pool ∧ (∀ p ∈ keep, p ∈ pool)
theorem RuJ.elim {rd al cd rdy ch rw : Addr} {ot : OneTok} {ct : ChTok} {oal ordy : Obj} {prs : List PRow} {keep : List (Addr × Obj)} {m₀ : Str → Option Value} {x xp xt : Str} {I : Addr} {i : Nat} {m : Str → Option Value} {news : List (Addr × Obj)} {P : (Str → Option Value) → List (Addr × Obj) → Prop} (h : RuJ rd al cd rdy ch rw ot ct oal ordy prs keep m₀ x xp xt I i m news)
    (k : ∀ v v2 tkn tkt here tt pool, Four rd al cd rdy pool → (∀ p ∈ (rd, rtDict ot ch al here) :: (al, oal) :: (cd, coDict ct rw tkn tt) :: (rdy, ordy) :: pool, p.1 ≠ I) → 0 ≤ tkn → tkn ≤ (i : Int) → (∃ r ∈ prs, here = .ref r.x) → PRsIn prs pool → (∀ p ∈ keep, p ∈ pool) →
      P (fun y => if y = x then v else if y = xp then v2 else if y = xt then some (Value.int tkn tkt) else m₀ y) ((rd, rtDict ot ch al here) :: (al, oal) :: (cd, coDict ct rw tkn tt) :: (rdy, ordy) :: pool)) : P m news := by
  obtain ⟨v, v2, tkn, tkt, here, tt, pool, rfl, rfl, D, c1, g0, g1, hH, hP, hk⟩ := h
  exact k v v2 tkn tkt here tt pool D c1 g0 g1 hH hP hk
theorem ru_end {h₀ h' : Heap} {L I rd al cd rdy ch rw : Addr} {ot : OneTok} {ct : ChTok} {oal ordy it : Obj} {prs : List PRow} {keep pool : List (Addr × Obj)} {m₀ m' : Str → Option Value} {x xp xt : Str} {v v2 : Option Value} {tkn : Int} {tkt tt : Tok} {here : Value} {i : Nat} {s₁ : Shared} {tk : Nat} {all : List (Addr × Obj)}
    (F : Fr h₀ L h' m') (em : m' = (fun y => if y = x then v else if y = xp then v2 else if y = xt then some (Value.int tkn tkt) else m₀ y)) (N : News h₀ L h' all) (C : ∀ p ∈ (rd, rtDict ot ch al here) :: (al, oal) :: (cd, coDict ct rw tkn tt) :: (rdy, ordy) :: pool, p ∈ all) (hI : (I, it) ∈ pool) (hit : it.cls = .type "range_iterator") (hkI : ∀ p ∈ keep, p.1 ≠ I)
    (D : Four rd al cd rdy pool) (g0 : 0 ≤ tkn) (g1 : tkn ≤ (i : Int)) (hH : ∃ r ∈ prs, here = .ref r.x) (hP : PRsIn prs pool) (hk : ∀ p ∈ keep, p ∈ pool) : UnrEnd h₀ L s₁ I it (RuJ rd al cd rdy ch rw ot ct oal ordy prs keep m₀ x xp xt I i) { s₁ with heap := h', toks := tk } := by
  subst em
  have N1 : News h₀ L h' ((rd, rtDict ot ch al here) :: (al, oal) :: (cd, coDict ct rw tkn tt) :: (rdy, ordy) :: pool) := fun p hp => N p (C p hp)
  have N2 : News h₀ L h' pool := fun p hp => N1 p (.tail _ (.tail _ (.tail _ (.tail _ hp))))
  have kp := drop_it N2 hI hit
  have sub : ∀ p ∈ pool.filter fun p => p.1 != I, p ∈ pool := fun p hp => (List.mem_filter.mp hp).1
  have offp : ∀ p ∈ pool.filter fun p => p.1 != I, p.1 ≠ I := fun p hp => by simpa using (List.mem_filter.mp hp).2
  have hd := D.off1 hI
  have offn : ∀ p ∈ (rd, rtDict ot ch al here) :: (al, oal) :: (cd, coDict ct rw tkn tt) :: (rdy, ordy) :: (pool.filter fun p => p.1 != I), p.1 ≠ I := sub_cons' (Ne.symm hd.1) (sub_cons' (Ne.symm hd.2.1) (sub_cons' (Ne.symm hd.2.2.1) (sub_cons' (Ne.symm hd.2.2.2) offp)))
  exact ⟨h', tk, _, (rd, rtDict ot ch al here) :: (al, oal) :: (cd, coDict ct rw tkn tt) :: (rdy, ordy) :: (pool.filter fun p => p.1 != I), rfl, F, News.sub N1 (sub_cons (ix_tl 4 rfl hI) (ix_subT [0, 1, 2, 3] rfl rfl (sub_D 4 rfl sub))), offn,
    v, v2, tkn, tkt, here, tt, pool.filter fun p => p.1 != I, rfl, rfl, D.of fun p hp => D.off1 (sub p hp), offn, g0, g1, hH, hP.drop kp, fun p hp => List.mem_filter.mpr ⟨hk p hp, by simpa using hkI p hp⟩⟩
theorem rt_start {h₀ h : Heap} {L al rt rd ch cd z rdy rw ce pot : Nat} {oz oce opot : Obj} {ka kb kc kd ke : Int} {ua ub uc ud ue tt ta tb tc : Tok} {a b c : Int}
    (N : News h₀ L h [(al, listOf #[] 0), (rt, instObj 284 rd), (rd, dictOf [⟨ka, .str "choices" ua, .ref ch⟩, ⟨kb, .str "all" ub, .ref al⟩, ⟨kc, .str "here" uc, .none⟩] 3), (ch, instObj 183 cd), (cd, dictOf [⟨kd, .str "row" ud, .ref rw⟩, ⟨ke, .str "taken" ue, .int 0 tt⟩] 2),
      (z, oz), (rdy, listOf #[] 0), (rw, LCg.lst [Value.int a ta, Value.int b tb, Value.int c tc]), (ce, oce), (pot, opot)])
    (D : Falls [al, rt, rd, ch, cd, rdy, rw]) (d1 : ce < rdy) (d2 : pot < rdy) :
    ∃ ot ct tt n1 n2 n3 vs pool, News h₀ L h ((rd, rtDict ot ch al .none) :: (al, listOf (prefs []).toArray n1) :: (cd, coDict ct rw 0 tt) :: (rdy, listOf ([] : List Value).toArray n2) :: pool) ∧ Four rd al cd rdy pool ∧ (rt, instObj 284 rd) ∈ pool ∧ (ch, instObj 183 cd) ∈ pool ∧
      (rw, listOf vs.toArray n3) ∈ pool ∧ IntsAre vs [a, b, c] ∧ (ce, oce) ∈ pool ∧ (pot, opot) ∈ pool := by
  refine ⟨⟨ka, ua, kb, ub, kc, uc⟩, ⟨kd, ud, ke, ue⟩, tt, 0, 0, _, _, [(rt, instObj 284 rd), (ch, instObj 183 cd), (rw, LCg.lst [Value.int a ta, Value.int b tb, Value.int c tc]), (ce, oce), (pot, opot)], News.sub N (ix_sub [2, 0, 4, 6, 1, 3, 7, 8, 9] rfl),
    ⟨D.ne 2 0 rfl rfl rfl, D.ne 2 4 rfl rfl rfl, D.ne 2 5 rfl rfl rfl, D.ne 0 4 rfl rfl rfl, D.ne 0 5 rfl rfl rfl, D.ne 4 5 rfl rfl rfl,
      off_con (D.nb 1 [2, 0, 4, 5] rfl rfl rfl) (off_con (D.nb 3 [2, 0, 4, 5] rfl rfl rfl) (off_con (D.nb 6 [2, 0, 4, 5] rfl rfl rfl) (off_con (D.low 5 [2, 0, 4, 5] d1 rfl rfl rfl) (off_con (D.low 5 [2, 0, 4, 5] d2 rfl rfl rfl) off_nil))))⟩,
    ix_mem 0 rfl, ix_mem 1 rfl, ix_mem 2 rfl, .cons a ta (.cons b tb (.cons c tc .nil)), ix_mem 3 rfl, ix_mem 4 rfl⟩
theorem new_next {prs : List PRow} {r : PRow} {here : Value} {fresh pool : List (Addr × Obj)} (hH : HereOk prs here) (hn : Nums prs) (hp : PRsIn prs pool) (hpr : PRsIn [r] fresh) (er : r.num = ((prs.length : Nat) : Int)) :
    ∃ r0 : PRow, hereOf here r.x = .ref r0.x ∧ r0.num = 0 ∧ (r0.x, instObj 244 r0.d) ∈ fresh ++ pool ∧ (r0.d, r0.dic) ∈ fresh ++ pool ∧ HereOk (prs ++ [r]) (.ref r0.x) ∧ Nums (prs ++ [r]) ∧ PRsIn (prs ++ [r]) (fresh ++ pool) := by
  have h1 := hn.snoc er
  have h2 : PRsIn (prs ++ [r]) (fresh ++ pool) := (hp.mono fun p hp => List.mem_append_right _ hp).app (hpr.mono fun p hp => List.mem_append_left _ hp)
  rcases (HereOk.snoc hH : HereOk (prs ++ [r]) (hereOf here r.x)) with ⟨e, _⟩ | ⟨r0, e, e2⟩
  · exact absurd e (by simp)
  · have hm := List.mem_of_getElem? e
    exact ⟨r0, e2, by have := h1 0 r0 e; simpa using this, (h2 r0 hm).1, (h2 r0 hm).2, .inr ⟨r0, e, rfl⟩, h1, h2⟩
theorem ints_up {vs : List Value} {i : Nat} {t : Tok} (h : IntsAre vs (upTo i)) : IntsAre (vs ++ [.int (0 + (i : Int)) t]) (upTo (i + 1)) := by
  have := ints_snoc (v := 0 + (i : Int)) (t := t) h
  rw [upTo_succ]; rw [Int.zero_add] at this ⊢; exact this
theorem ne_int_eq {prog : Program} {w : World} {A : Around} {E : Value → Shared → Prop} {s : Shared} {a b : Int} {t u : Tok} {Q : Value → Shared → Prop} (e : a = b) (h : Q (.bool false) s) : wpAny (model prog w) A (compareOp .NotEq (.int a t) (.int b u)) Q E s := by
  refine PyProof.Rows.ne_int ?_
  subst e
  simpa using h
theorem append_S {prog : Program} {w : World} {A : Around} {E : Value → Shared → Prop} {s : Shared} {h₀ : Heap} {L : Addr} {m : Str → Option Value} {rd al cd rdy : Addr} {o1 o2 o3 : Obj} {vs : List Value} {nd : Nat} {v : Value} {pool : List (Addr × Obj)} {Q : Value → Shared → Prop}
    (F : Fr h₀ L s.heap m) (N : News h₀ L s.heap ((rd, o1) :: (al, o2) :: (cd, o3) :: (rdy, listOf vs.toArray nd) :: pool)) (D : Four rd al cd rdy pool) (hz : vs.length ≤ 1000)
    (h : ∀ h', Fr h₀ L h' m → News h₀ L h' ((rd, o1) :: (al, o2) :: (cd, o3) :: (rdy, listOf (vs ++ [v]).toArray (nd + 1)) :: pool) → Q .none { s with heap := h' }) :
    wpAny (model prog w) A (call (.builtin "list.append") [.ref rdy, v]) Q E s := by
  refine append_K F N (.tail D.n3 (.tail D.n5 (.tail D.n6 (.head fun p hp => (D.off1 hp).2.2.2)))) (fun h' F' N' => h h' F' ?_) (by rw [List.size_toArray, sizeLine_eq]; omega)
  rw [List.push_toArray] at N'
  exact N'
section
variable {prog : Program} {w : World} {A : Around} {E : Value → Shared → Prop} {s : Shared} {a b : Int} {t u : Tok} {Q : Value → Shared → Prop}
theorem gt_T (e : b < a) (h : Q (.bool true) s) : wpAny (model prog w) A (compareOp .Gt (.int a t) (.int b u)) Q E s := PyProof.Rows.gt_int (by rw [decide_eq_true e]; exact h)
theorem gt_F (e : a ≤ b) (h : Q (.bool false) s) : wpAny (model prog w) A (compareOp .Gt (.int a t) (.int b u)) Q E s := PyProof.Rows.gt_int (by rw [decide_eq_false (by omega)]; exact h)
theorem lt_T (e : a < b) (h : Q (.bool true) s) : wpAny (model prog w) A (compareOp .Lt (.int a t) (.int b u)) Q E s := PyProof.Rows.lt_int (by rw [decide_eq_true e]; exact h)
theorem lt_F (e : b ≤ a) (h : Q (.bool false) s) : wpAny (model prog w) A (compareOp .Lt (.int a t) (.int b u)) Q E s := PyProof.Rows.lt_int (by rw [decide_eq_false (by omega)]; exact h)
end
theorem item_up {vs : List Value} {n : Nat} (h : IntsAre vs (upTo n)) {j : Int} (h0 : 0 ≤ j) (h1 : j < (n : Int)) : ∃ t, vs[j.toNat]? = some (.int j t) := by
  obtain ⟨t, e⟩ := ints_at h (i := j.toNat) (by rw [upTo_len]; omega)
  refine ⟨t, ?_⟩
  rw [upTo_at (by omega)] at e
  rw [e, Int.toNat_of_nonneg h0]
abbrev excObj (C : Addr) (d : Option Addr) (t : Addr) : Obj := { cls := .ref C, dict := d, data := .fields #[.ref t, .none, .none, .none, .bool false, .none] }
def exIn (K : Frag) (C : Addr) (bm : List Value) : Bool := match K.lookup C with
  | some ⟨.type "type", _, .cls cd, sl⟩ => (match cd.mro, sl.toList with
    | .ref C' :: bm', [_, _, _, _, some (.builtin n), _] => C' == C && n == "Exception.__new__" && !cd.hasDel && bm' == bm
    | _, _ => false)
  | _ => false
theorem ex_obj {K : Frag} {h : Heap} {C : Addr} {bm : List Value} (X : K.In h) (e : exIn K C bm = true) :
    ∃ nm q N bs hdct sn sub ab col dd k0 k1 k2 k3 k5, h.get? C = some (excClassObj nm q C N bs bm hdct sn sub ab col dd k0 k1 k2 k3 k5 "Exception.__new__") := by
  unfold exIn at e
  split at e
  · rename_i dd cd sl ho
    split at e
    · rename_i C' bm' k0 k1 k2 k3 n k5 hm hs
      simp only [Bool.and_eq_true, beq_iff_eq, Bool.not_eq_true'] at e
      obtain ⟨⟨⟨rfl, rfl⟩, hdel⟩, rfl⟩ := e
      obtain ⟨nm, bs, mro, ns, qn, hd, sn, sub, ab, col, del⟩ := cd
      dsimp only at hm hdel
      subst hm hdel
      have hsl : sl = #[k0, k1, k2, k3, some (.builtin "Exception.__new__"), k5] := by
        obtain ⟨l⟩ := sl
        simp only at hs
        rw [hs]
      subst hsl
      exact ⟨nm, qn, ns, bs, hd, sn, sub, ab, col, dd, k0, k1, k2, k3, k5, X _ _ ho⟩
    · cases e
  · cases e
section
variable {prog : Program} {w : World} {A : Around} {E : Value → Shared → Prop} {R : Result → Shared → Prop} {h : Heap} {g : Array GenState} {d : Drawn} {t : Nat} {os : OsState}
  {nm q : Str} {C N : Addr} {bs bm : List Value} {hdct : Bool} {sn : List Str} {sub : List Value} {ab : Bool} {col : Option Bool} {dd : Option Addr} {k0 k1 k2 k3 k5 : Option Value}
theorem exc_check_new (hB : bm.contains (.type "Exception") = true) {rest : List Value} {Q : Unit → Shared → Prop} (hC : h.get? C = some (excClassObj nm q C N bs bm hdct sn sub ab col dd k0 k1 k2 k3 k5 "Exception.__new__"))
    (hq : Q () ⟨h, g, d, t, os⟩) : wpAny (model prog w) A (checkBuiltinCall "Exception.__new__" ⟨.ref C :: rest, []⟩) Q E ⟨h, g, d, t, os⟩ := by
  have F := PySem.F.excBase_Exception
  have hcont : (Value.ref C :: bm).contains (.type "Exception") = true := by rw [List.contains_cons, hB, Bool.or_true]
  have hstar := F.noStar
  simp only [checkBuiltinCall, F.newKind, F.newSplit, F.newRow]
  repeat (first | refine wpAny_loadPart_at hC ?_ | (refine wpAny_isSubtype_exc hC ?_; rw [hcont]) | refine wpAny_staticBase_exc hC ?_ | refine wpAny_madeBy_exc hC ?_ | simp only [bne_self_eq_false, Bool.false_eq_true, if_false] | wp_step)
  exact hq
theorem exc_new (hB : bm.contains (.type "Exception") = true) (hA : bm.contains (.type "AttributeError") = false) (hN : bm.contains (.type "NameError") = false) {rest : List Value} (hC : h.get? C = some (excClassObj nm q C N bs bm hdct sn sub ab col dd k0 k1 k2 k3 k5 "Exception.__new__"))
    (hq : R (.ok (.ret (.ref (h.objs.size + 1)))) ⟨(h.push { cls := .type "tuple", data := .seq rest.toArray }).push (excObj C none h.objs.size), g, d, t, os⟩) (hrest : rest.length ≤ sizeLine) :
    codeAny (model prog w) A (.builtin "Exception.__new__" ⟨.ref C :: rest, []⟩) R ⟨h, g, d, t, os⟩ := by
  have F := PySem.F.excBase_Exception
  have hends := F.ends
  have hcB : (Value.ref C :: bm).contains (.type "Exception") = true := by rw [List.contains_cons, hB, Bool.or_true]
  have hcA : (Value.ref C :: bm).contains (.type "AttributeError") = false := by rw [List.contains_cons, hA]; rfl
  have hcN : (Value.ref C :: bm).contains (.type "NameError") = false := by rw [List.contains_cons, hN]; rfl
  refine codeAny_builtinAt F.entry ?_
  unfold Builtin.«BaseException.__new__»
  refine PySem.wpAt_bind ?_
  show PySem.wpAt _ _ _ (stack >>= _) _ _ _
  refine PySem.wpAt_bind (PySem.wpAt_stack fun p below => PySem.wpAt_of_wpAny ?_)
  wp_walk
  refine PySem.wpAt_of_wpAny ?_
  rw [F.owner]
  repeat (first | with_reducible refine wpAny_madeHere_exc F.canon hC ?_ | with_reducible refine wpAny_loadPart_at hC ?_ | (with_reducible refine wpAny_isSubtype_exc hC ?_; first | rw [hcB] | rw [hcA] | rw [hcN]) | wp_step)
  show R _ _
  rw [Heap.size_push]
  exact hq
end
theorem exc_make0 {prog : Program} {w : World} {A : Around} {K : Frag} {C : Addr} {hh : Heap} {g : Array GenState} {d : Drawn} {tk : Nat} {os : OsState} {h₀ : Heap} {L : Addr} {m : Str → Option Value} {news : List (Addr × Obj)} {R : Result → Shared → Prop} {rest bm : List Value} {fI : Addr}
    (F : Fr h₀ L hh m) (N : News h₀ L hh news) (X : K.In hh) (hx : exIn K C bm = true) (hB : bm.contains (.type "Exception") = true) (hA : bm.contains (.type "AttributeError") = false) (hNm : bm.contains (.type "NameError") = false)
    (hcall : specialIn K (.ref C) "__call__" = some (some (.builtin "type.__call__"))) (htyp : instIn K (.ref C) (.type "type") = some true) (hi : findIn K (.ref C) "__init__" = some (some (.ref fI))) (hf : typeIn K (.ref fI) = some (.type "function")) (hrest : rest.length ≤ sizeLine)
    (h : ∀ e t h', Fr h₀ L h' m → News h₀ L h' ((e, excObj C none t) :: (t, { cls := .type "tuple", data := .seq rest.toArray }) :: news) → (∀ p ∈ news, p.1 < t) → t < e →
      codeAny (model prog w) (A.under (.builtin "type.__call__" ⟨.ref C :: rest, []⟩)) (.call (.ref fI) ⟨.ref e :: rest, []⟩) (InitBack e R) ⟨h', g, d, tk, os⟩) :
    codeAny (model prog w) A (.call (.ref C) ⟨rest, []⟩) R ⟨hh, g, d, tk, os⟩ := by
  obtain ⟨nm, q, N', bs, hdct, sn, sub, ab, col, dd, k0, k1, k2, k3, k5, hC⟩ := ex_obj X hx
  have call := looks_specialIn (M := model prog w) X hcall
  have typ := looks_instIn (M := model prog w) X htyp
  have hcC : (Value.ref C :: bm).contains (.ref C) = true := by simp
  have made : Looks (model prog w) hh (Bind.madeBy (.ref C)) (some "Exception.__new__") := fun A Q E s k q => wpAny_madeBy_exc (k _ _ hC) q
  have self : Looks (model prog w) hh (isSubtype (.ref C) (.ref C)) true := fun A Q E s k q => wpAny_isSubtype_exc (k _ _ hC) (by rw [hcC]; exact q)
  refine codeAny_of_tree ?_
  show wpAny _ _ (callAny (.ref C) _) _ _ _
  refine nd_load hC ?_
  show wpAny _ _ (callAny.viaDunder (.ref C) _) _ _ _
  unfold callAny.viaDunder
  refine wpAny_bind (call.at ?_)
  dsimp only
  rw [tc_bind]
  refine wpAny_bind (wpAny_pure (wpAny_bind (wpAny_pure ?_)))
  refine wpAny_pure (a := Fin.again (.call (.builtin "type.__call__") ⟨.ref C :: rest, []⟩)) (And.intro rfl ?_)
  refine codeAny_call_builtin_at (Code.quiet_builtin _ (by decide +kernel)) entry_typeCall (check_slot tc_kind tc_split typ (tc_args _ _ _) ?_)
  unfold Builtin.«type.__call__»
  repeat (first | with_reducible refine wpAny_call ?_ | lk | with_reducible refine wpAny_loadPart_at hC ?_ | with_reducible refine wpAny_madeBy_exc hC ?_ | wp_step)
  refine codeAny_call_builtin_code (Code.quiet_builtin _ PySem.F.excBase_Exception.quiet) (exc_check_new hB hC ?_)
  refine exc_new hB hA hNm hC ?_ hrest
  have k : ∀ b o, hh.get? b = some o → ((hh.push { cls := .type "tuple", data := .seq rest.toArray }).push (excObj C none hh.objs.size)).get? b = some o := fun b o e => Heap.get?_push_of_some _ (Heap.get?_push_of_some _ e)
  have hxo : ((hh.push { cls := .type "tuple", data := .seq rest.toArray }).push (excObj C none hh.objs.size)).get? (hh.objs.size + 1) = some (excObj C none hh.objs.size) := by heap_get
  have t1 : Looks (model prog w) ((hh.push { cls := .type "tuple", data := .seq rest.toArray }).push (excObj C none hh.objs.size)) (typeOf (.ref (hh.objs.size + 1))) (.ref C) := (Looks.ld hxo).andThen .now
  have s1 := self.keeps k
  have i1 := (looks_findIn (M := model prog w) X hi).keeps k
  have b1 := (bind_fn (M := model prog w) X (.ref (hh.objs.size + 1)) hf).keeps k
  have N2 := (N.push F { cls := .type "tuple", data := .seq rest.toArray }).push (F.push _) (excObj C none hh.objs.size)
  rw [Heap.size_push] at N2
  have hq := h (hh.objs.size + 1) hh.objs.size _ ((F.push _).push _) N2 (fun p hp => Heap.lt_size (N p hp).1) (Nat.lt_succ_self _)
  dsimp only
  unfold isInstance callSpecial? specialOf
  repeat (first | with_reducible refine wpAny_call ?_ | lk)
  refine codeAny_mono hq fun r s' z => ?_
  rcases r with e | (v | _ | _ | _) <;> first | exact z | exact z.elim | skip
  obtain ⟨rfl, z⟩ := z
  exact wpAny_pure (wpAny_pure z)
theorem exc_make {prog : Program} {w : World} {A : Around} {K : Frag} {C : Addr} {s : Shared} {h₀ : Heap} {L : Addr} {m : Str → Option Value} {news : List (Addr × Obj)} {R : Result → Shared → Prop} {rest bm : List Value} {fI : Addr}
    (F : Fr h₀ L s.heap m) (N : News h₀ L s.heap news) (X : K.In s.heap) (hx : exIn K C bm = true) (hB : bm.contains (.type "Exception") = true) (hA : bm.contains (.type "AttributeError") = false) (hNm : bm.contains (.type "NameError") = false)
    (hcall : specialIn K (.ref C) "__call__" = some (some (.builtin "type.__call__"))) (htyp : instIn K (.ref C) (.type "type") = some true) (hi : findIn K (.ref C) "__init__" = some (some (.ref fI))) (hf : typeIn K (.ref fI) = some (.type "function")) (hrest : rest.length ≤ sizeLine)
    (h : ∀ e t h', Fr h₀ L h' m → News h₀ L h' ((e, excObj C none t) :: (t, { cls := .type "tuple", data := .seq rest.toArray }) :: news) → (∀ p ∈ news, p.1 < t) → t < e →
      codeAny (model prog w) (A.under (.builtin "type.__call__" ⟨.ref C :: rest, []⟩)) (.call (.ref fI) ⟨.ref e :: rest, []⟩) (InitBack e R) { s with heap := h' }) :
    codeAny (model prog w) A (.call (.ref C) ⟨rest, []⟩) R s :=
  exc_make0 F N X hx hB hA hNm hcall htyp hi hf hrest h
section
open Builtin Builtin.ObjectAttr Builtin.Getset_descriptor
variable {prog : Program} {w : World} {A : Around} {E : Value → Shared → Prop} {R : Result → Shared → Prop} {K : Frag} {C x L : Addr} {s : Shared} {h₀ : Heap} {m : Str → Option Value} {news : List (Addr × Obj)} {ox : Obj} {od : Option Obj} {name : Str} {tk : Tok} {v : Value} {cd : ClassData}
theorem exc_open (X : K.In s.heap) (I : InstAt s.heap x ox C od) (hc : clsIn K C = some cd) (hpass : refuseLoop (.ref x) "__setattr__" cd.mro = pure ()) (hobj : mroIn K C (.type "object") = some true) (ht : findIn K (.ref C) name = some none)
    (h : wpAny (model prog w) A.in1 (storeInOwnDict (.ref x) (.ref C) (.str name tk) name v false)
      (fun fin s' => match fin with | .done f => R (.ok f) s' | .again c' => c'.quiet = true ∧ codeAny (model prog w) A c' R s') (fun e s' => R (.error e) s') s) :
    codeAny (model prog w) A (.call (.builtin "object.__setattr__") ⟨[.ref x, .str name tk, v], []⟩) R s := by
  have SF := PySem.F.store_object
  have sub : Looks (model prog w) s.heap (isInstance (.ref x) (.type "object")) true := I.type.andThen (looks_mroIn X hobj)
  refine codeAny_call_builtin SF.slot.plain SF.entry (@check_slot (model prog w) _ _ s "object.__setattr__" "object" "__setattr__" (.ref x) [.str name tk, v] [] _ SF.kind SF.split sub (SF.args (.ref x) (.str name tk) v) ?_)
  have hm : Looks (model prog w) s.heap (mroOf (.ref C)) cd.mro := (looks_clsIn X hc).andThen .now
  have L3 : Looks (model prog w) s.heap (storeTaker? none) none := .now
  rw [osa_eq, refuse_eq]
  refine wpAny_bind (wpAny_bind (I.type.here (wpAny_bind (hm.here ?_))))
  rw [hpass]
  refine wpAny_pure (wpAny_bind (I.type.here (wpAny_bind ((looks_findIn X ht).here (wpAny_bind (L3.here ?_))))))
  exact h
theorem exc_inDict {Q : Fin → Shared → Prop} {dx : Addr} {o o' : Obj} {pre post : List (Addr × Obj)} {es : List DictEntry} {n : Nat} (F : Fr h₀ L s.heap m) (N : News h₀ L s.heap (pre ++ (dx, o) :: post)) (hl : (lookIn name o).isSome = true) (h1 : ∀ p ∈ pre, p.1 ≠ dx) (h2 : ∀ p ∈ post, p.1 ≠ dx)
    (e : Obj.putName name (PyData.keyHash w.params name) (.str name s.toks) v o = o') (e' : o'.data = .dict es.toArray n) (hz : es.length ≤ 1000)
    (h : ∀ h', Fr h₀ L h' m → News h₀ L h' (pre ++ (dx, o') :: post) → Q (.done (.ret .none)) { s with heap := h', toks := s.toks + 1 }) :
    wpAny (model prog w) A (storeInDict dx (.str name tk) name v) Q E s := by
  obtain ⟨U1, U2⟩ := news_upd (f := Obj.putName name (PyData.keyHash w.params name) (.str name s.toks) v) F N h1 h2 e (by obtain ⟨_, _, dd, _⟩ := o'; cases e'; rfl)
  have D := (N (dx, o) (by simp)).1
  have D' := (U2 (dx, o') (by simp)).1
  refine wpAny_bind (wpAny_pure (wpAny_bind ?_))
  unfold nsSet
  refine wpAny_bind (wpAny_bind (wpAny_askSetting (wpAny_pure (wpAny_bind (wpAny_mkText (wpAny_bind (wpAny_loadPart D ?_)))))))
  unfold lookIn at hl
  split at hl
  · rename_i es₀ n₀ q
    rw [q]
    dsimp only
    have c : (!es₀.any (·.key.isStr name) && es₀.any (·.refKey)) = false := by
      rw [← Array.any_toList, ← Array.any_toList]
      split at hl
      · rename_i en he
        rw [List.any_eq_true.mpr ⟨en, List.mem_of_find?_eq_some he, List.find?_some he⟩]; rfl
      · split at hl
        · cases hl
        · rename_i z; rw [Bool.not_eq_true] at z; rw [z, Bool.and_false]
    rw [aRefKeyMayBeTheName_at, c]
    refine wpAny_updatePart D ?_
    refine wpAny_bind (wpAny_lookBehind D' (by rw [e']; exact pastItsLine_dict (by rw [List.size_toArray, sizeLine_eq]; omega)) ?_)
    exact wpAny_pure (h _ U1 U2)
  · cases hl
theorem exc_osa {dx t : Addr} {es es' : List DictEntry} {n n' : Nat} {rest : List (Addr × Obj)} (F : Fr h₀ L s.heap m) (X : K.In s.heap) (N : News h₀ L s.heap ((x, excObj C (some dx) t) :: (dx, dictOf es n) :: rest)) (off : OwnOff rest [dx]) (hne : @Ne Nat x dx)
    (hc : clsIn K C = some cd) (hcd : cd.hasDict = true) (hpass : refuseLoop (.ref x) "__setattr__" cd.mro = pure ()) (hobj : mroIn K C (.type "object") = some true) (ht : findIn K (.ref C) name = some none)
    (hl : (getL name es).isSome = true) (e : (putL name (PyData.keyHash w.params name) (.str name s.toks) v es, putN name es n) = (es', n')) (hz : es'.length ≤ 1000)
    (h : ∀ h', Fr h₀ L h' m → News h₀ L h' ((x, excObj C (some dx) t) :: (dx, dictOf es' n') :: rest) → R (.ok (.ret .none)) { s with heap := h', toks := s.toks + 1 }) :
    codeAny (model prog w) A (.call (.builtin "object.__setattr__") ⟨[.ref x, .str name tk, v], []⟩) R s := by
  have I : InstAt s.heap x (excObj C (some dx) t) C (some (dictOf es n)) := ⟨(N _ (.head _)).1, rfl, rfl, (N _ (.tail _ (.head _))).1⟩
  obtain ⟨e1, e2⟩ := Prod.mk.inj e
  have hx := (N _ (.head _)).1
  refine exc_open X I hc hpass hobj ht ?_
  refine wpAny_bind (wpAny_pure (wpAny_bind (wpAny_bind (wpAny_loadPart hx (wpAny_bind ((looks_clsIn X hc).here ?_))))))
  rw [hcd]
  refine wpAny_pure (a := some dx) ?_
  exact exc_inDict (pre := [(x, excObj C (some dx) t)]) F N (by show (lookIn name (dictOf es n)).isSome = true; rw [lookIn_dict]; exact hl) (fun p hp => by rw [List.mem_singleton.mp hp]; exact hne) (fun p hp => off p hp _ (.head _)) (by rw [putName_dict, e1, e2]) rfl hz fun h' F' N' => h h' F' N'
/-- a store into an exception whose dict stands -/
theorem exc_set {Q : Unit → Shared → Prop} {dx t : Addr} {es es' : List DictEntry} {n n' : Nat} {rest : List (Addr × Obj)} (F : Fr h₀ L s.heap m) (X₀ : K.In h₀) (N : News h₀ L s.heap ((x, excObj C (some dx) t) :: (dx, dictOf es n) :: rest)) (off : OwnOff rest [dx]) (hne : @Ne Nat x dx)
    (hs : findIn K (.ref C) "__setattr__" = some (some (.builtin "object.__setattr__"))) (hc : clsIn K C = some cd) (hcd : cd.hasDict = true) (hpass : refuseLoop (.ref x) "__setattr__" cd.mro = pure ()) (hobj : mroIn K C (.type "object") = some true) (ht : findIn K (.ref C) name = some none)
    (hl : (getL name es).isSome = true) (e : (putL name (PyData.keyHash w.params name) (.str name (s.toks + 1)) v es, putN name es n) = (es', n')) (hz : es'.length ≤ 1000)
    (h : ∀ h', Fr h₀ L h' m → News h₀ L h' ((x, excObj C (some dx) t) :: (dx, dictOf es' n') :: rest) → Q () { s with heap := h', toks := s.toks + 2 }) :
    wpAny (model prog w) A (setAttr (.ref x) name v) Q E s := by
  have I : InstAt s.heap x (excObj C (some dx) t) C (some (dictOf es n)) := ⟨(N _ (.head _)).1, rfl, rfl, (N _ (.tail _ (.head _))).1⟩
  have X := X₀.keeps F.keep
  exact set_plain X I hs (exc_osa (s := { s with toks := s.toks + 1 }) F X N off hne hc hcd hpass hobj ht hl e hz fun h' F' N' => h h' F' N')
/-- the first store: the dict is laid -/
theorem exc_osa0 {t : Addr} {es' : List DictEntry} {n' : Nat} {rest : List (Addr × Obj)} (F : Fr h₀ L s.heap m) (X : K.In s.heap) (N : News h₀ L s.heap ((x, excObj C none t) :: rest)) (off : OwnOff rest [x])
    (hc : clsIn K C = some cd) (hcd : cd.hasDict = true) (hpass : refuseLoop (.ref x) "__setattr__" cd.mro = pure ()) (hobj : mroIn K C (.type "object") = some true) (ht : findIn K (.ref C) name = some none)
    (e : (putL name (PyData.keyHash w.params name) (.str name s.toks) v [], putN name [] 0) = (es', n')) (hz : es'.length ≤ 1000)
    (h : ∀ dx h', Fr h₀ L h' m → News h₀ L h' ((x, excObj C (some dx) t) :: (dx, dictOf es' n') :: rest) → (∀ p ∈ rest, p.1 < dx) → x < dx → R (.ok (.ret .none)) { s with heap := h', toks := s.toks + 1 }) :
    codeAny (model prog w) A (.call (.builtin "object.__setattr__") ⟨[.ref x, .str name tk, v], []⟩) R s := by
  have I : InstAt s.heap x (excObj C none t) C none := ⟨(N _ (.head _)).1, rfl, rfl, trivial⟩
  obtain ⟨e1, e2⟩ := Prod.mk.inj e
  have hx := (N _ (.head _)).1
  have lt : ∀ p ∈ rest, p.1 < s.heap.objs.size := fun p hp => Heap.lt_size (N p (.tail _ hp)).1
  have ltx : x < s.heap.objs.size := Heap.lt_size hx
  have N1 : News h₀ L (s.heap.push emptyDict) ([] ++ (x, excObj C none t) :: ((s.heap.objs.size, emptyDict) :: rest)) := fun p hp => by
    have := N.push F emptyDict
    exact this p (by simp only [List.mem_cons, List.nil_append] at hp ⊢; rcases hp with h | h | h <;> simp [h])
  obtain ⟨U1, U2⟩ := news_upd (f := fun o => { o with dict := some s.heap.objs.size }) (o' := excObj C (some s.heap.objs.size) t) (F.push _) N1 (fun _ hp => nomatch hp) (fun p hp => by
    rcases List.mem_cons.mp hp with rfl | hp
    · exact Nat.ne_of_gt ltx
    · exact off p hp _ (.head _)) rfl rfl
  refine exc_open X I hc hpass hobj ht ?_
  refine wpAny_bind (wpAny_pure (wpAny_bind (wpAny_bind (wpAny_loadPart hx (wpAny_bind ((looks_clsIn X hc).here ?_))))))
  rw [hcd]
  refine wpAny_bind (wpAny_alloc (wpAny_bind (wpAny_update (Heap.get?_push_of_some _ hx) ?_)))
  refine wpAny_pure (a := some s.heap.objs.size) ?_
  exact exc_inDict (s := { s with heap := (s.heap.push emptyDict).update x fun o => { o with dict := some s.heap.objs.size } }) (pre := [(x, excObj C (some s.heap.objs.size) t)]) (o := dictOf [] 0) U1 U2 (by show (lookIn name (dictOf [] 0)).isSome = true; rw [lookIn_dict]; rfl) (fun p hp => by rw [List.mem_singleton.mp hp]; exact Nat.ne_of_lt ltx) (fun p hp => Nat.ne_of_lt (lt p hp)) (by rw [putName_dict, e1, e2]) rfl hz fun h' F' N' => h _ h' F' N' lt ltx
end
section
open Builtin Builtin.ObjectAttr Builtin.Getset_descriptor
variable {prog : Program} {w : World} {A : Around} {E : Value → Shared → Prop} {R : Result → Shared → Prop} {K : Frag} {C x L : Addr} {s : Shared} {h₀ : Heap} {m : Str → Option Value} {news : List (Addr × Obj)} {name : Str} {tk : Tok} {v : Value} {cd : ClassData} {bm : List Value}
theorem exc_set0 {Q : Unit → Shared → Prop} {t : Addr} {es' : List DictEntry} {n' : Nat} {rest : List (Addr × Obj)} (F : Fr h₀ L s.heap m) (X₀ : K.In h₀) (N : News h₀ L s.heap ((x, excObj C none t) :: rest)) (off : OwnOff rest [x])
    (hs : findIn K (.ref C) "__setattr__" = some (some (.builtin "object.__setattr__"))) (hc : clsIn K C = some cd) (hcd : cd.hasDict = true) (hpass : refuseLoop (.ref x) "__setattr__" cd.mro = pure ()) (hobj : mroIn K C (.type "object") = some true) (ht : findIn K (.ref C) name = some none)
    (e : (putL name (PyData.keyHash w.params name) (.str name (s.toks + 1)) v [], putN name [] 0) = (es', n')) (hz : es'.length ≤ 1000)
    (h : ∀ dx h', Fr h₀ L h' m → News h₀ L h' ((x, excObj C (some dx) t) :: (dx, dictOf es' n') :: rest) → (∀ p ∈ rest, p.1 < dx) → x < dx → Q () { s with heap := h', toks := s.toks + 2 }) :
    wpAny (model prog w) A (setAttr (.ref x) name v) Q E s := by
  have I : InstAt s.heap x (excObj C none t) C none := ⟨(N _ (.head _)).1, rfl, rfl, trivial⟩
  have X := X₀.keeps F.keep
  exact set_plain X I hs (exc_osa0 (s := { s with toks := s.toks + 1 }) F X N off hc hcd hpass hobj ht e hz fun dx h' F' N' l1 l2 => h dx h' F' N' l1 l2)
theorem exc_check_init {h : Heap} {g : Array GenState} {d : Drawn} {t : Nat} {os : OsState} {nm q : Str} {N : Addr} {bs : List Value} {hdct : Bool} {sn : List Str} {sub : List Value} {ab : Bool} {col : Option Bool} {dd : Option Addr} {k0 k1 k2 k3 k5 : Option Value} (hB : bm.contains (.type "Exception") = true) {e : Addr} {oe : Obj} {rest : List Value} {Q : Unit → Shared → Prop}
    (hC : h.get? C = some (excClassObj nm q C N bs bm hdct sn sub ab col dd k0 k1 k2 k3 k5 "Exception.__new__")) (he : h.get? e = some oe) (hcls : oe.cls = .ref C) (hq : Q () ⟨h, g, d, t, os⟩) :
    wpAny (model prog w) A (checkBuiltinCall "Exception.__init__" ⟨.ref e :: rest, []⟩) Q E ⟨h, g, d, t, os⟩ := by
  have F := PySem.F.excBase_Exception
  have hcB : (Value.ref C :: bm).contains (.type "Exception") = true := by rw [List.contains_cons, hB, Bool.or_true]
  have hshort := F.noStar
  simp only [checkBuiltinCall, F.initKind, F.initSplit, F.initRow]
  repeat (first | (with_reducible refine wpAny_loadPart_at he ?_; rw [hcls]) | with_reducible refine wpAny_loadPart_at hC ?_ | (with_reducible refine wpAny_isSubtype_exc hC ?_; rw [hcB]) | wp_step)
  refine wpAny_onRaise ?_
  rw [show ∀ (a b : String) (n : Nat), Bind.check ⟨.positional, "*", "Exception", .self, [⟨"args", .varPos, false⟩]⟩ a b n (List.map (fun x => x.fst) ({ pos := Value.ref e :: rest } : Args).kw) = pure () from
    fun a b n => check_star_args _ _ _ _ _ _]
  exact wpAny_pure hq
theorem exc_init0 {hh : Heap} {g : Array GenState} {d : Drawn} {tk : Nat} {os : OsState} {Q : Value → Shared → Prop} {t : Addr} {args : List Value} {rest : List (Addr × Obj)} (F : Fr h₀ L hh m) (X₀ : K.In h₀) (N : News h₀ L hh ((x, excObj C none t) :: rest)) (off : OwnOff rest [x]) (hx : exIn K C bm = true) (hB : bm.contains (.type "Exception") = true) (hz : args.length ≤ sizeLine)
    (h : ∀ t' h', Fr h₀ L h' m → News h₀ L h' ((x, excObj C none t') :: (t', { cls := .type "tuple", data := .seq args.toArray }) :: rest) → (∀ p ∈ rest, p.1 < t') → x < t' → Q .none ⟨h', g, d, tk, os⟩) :
    wpAny (model prog w) A (call (.builtin "Exception.__init__") (.ref x :: args)) Q E ⟨hh, g, d, tk, os⟩ := by
  have X := X₀.keeps F.keep
  obtain ⟨nm, q, N', bs, hdct, sn, sub, ab, col, dd, k0, k1, k2, k3, k5, hC⟩ := ex_obj X hx
  have he := (N _ (.head _)).1
  have lt : ∀ p ∈ rest, p.1 < hh.objs.size := fun p hp => Heap.lt_size (N p (.tail _ hp)).1
  have ltx : x < hh.objs.size := Heap.lt_size he
  have N1 : News h₀ L (hh.push { cls := .type "tuple", data := .seq args.toArray }) ([] ++ (x, excObj C none t) :: ((hh.objs.size, { cls := .type "tuple", data := .seq args.toArray }) :: rest)) := fun p hp => by
    have := N.push F { cls := .type "tuple", data := .seq args.toArray }
    exact this p (by simp only [List.mem_cons, List.nil_append] at hp ⊢; rcases hp with h | h | h <;> simp [h])
  obtain ⟨U1, U2⟩ := news_upd (f := Obj.mapFields (·.setIfInBounds 0 (Value.ref hh.objs.size))) (o' := excObj C none hh.objs.size) (F.push _) N1 (fun _ hp => nomatch hp) (fun p hp => by
    rcases List.mem_cons.mp hp with rfl | hp
    · exact Nat.ne_of_gt ltx
    · exact off p hp _ (.head _)) rfl rfl
  have fin := h _ _ U1 U2 lt ltx
  have FB := PySem.F.excBase_Exception
  refine wpAny_call (codeAny_call_builtin FB.init.plain FB.initEntry (exc_check_init hB hC he rfl ?_))
  have hget := he
  wp_walk
  exact fin
theorem exc_init {Q : Value → Shared → Prop} {t : Addr} {args : List Value} {rest : List (Addr × Obj)} (F : Fr h₀ L s.heap m) (X₀ : K.In h₀) (N : News h₀ L s.heap ((x, excObj C none t) :: rest)) (off : OwnOff rest [x]) (hx : exIn K C bm = true) (hB : bm.contains (.type "Exception") = true) (hz : args.length ≤ sizeLine)
    (h : ∀ t' h', Fr h₀ L h' m → News h₀ L h' ((x, excObj C none t') :: (t', { cls := .type "tuple", data := .seq args.toArray }) :: rest) → (∀ p ∈ rest, p.1 < t') → x < t' → Q .none { s with heap := h' }) :
    wpAny (model prog w) A (call (.builtin "Exception.__init__") (.ref x :: args)) Q E s :=
  exc_init0 F X₀ N off hx hB hz h
end
/-- every object keeps its dict's address -/
def DK (h h' : Heap) : Prop := ∀ b o, h.get? b = some o → ∃ o', h'.get? b = some o' ∧ o'.dict = o.dict
theorem DK.refl {h : Heap} : DK h h := fun _ o e => ⟨o, e, rfl⟩
theorem DK.trans {h₁ h₂ h₃ : Heap} (x : DK h₁ h₂) (y : DK h₂ h₃) : DK h₁ h₃ := fun b o e => by
  obtain ⟨o', e', d'⟩ := x b o e
  obtain ⟨o'', e'', d''⟩ := y b o' e'
  exact ⟨o'', e'', d''.trans d'⟩
def DKf (f : Obj → Obj) : Prop := ∀ o, (f o).dict = o.dict ∧ (o.isFreed = false → (f o).isFreed = false)
theorem DK.update {h : Heap} {a : Addr} {f : Obj → Obj} (hf : DKf f) : DK h (h.update a f) := fun b o e => by
  by_cases q : a = b
  · subst q
    exact ⟨f o, Heap.get?_update_self f e ((hf o).2 (Heap.get?_some_iff.mp e).2), (hf o).1⟩
  · exact ⟨o, by rw [Heap.get?_update_other _ _ q]; exact e, rfl⟩
theorem DK.push {h : Heap} {o : Obj} : DK h (h.push o) := fun b o' e => ⟨o', Heap.get?_push_of_some o e, rfl⟩
/-- trees that call nothing and whose writes leave the dicts' addresses alone -/
def DP {α : Type} : Sem α → Prop
  | .pure _ => True
  | .raise _ => True
  | .unsupported _ => True
  | .finish _ => True
  | .rule _ k => DP (k ())
  | .at _ k => DP (k ())
  | .load _ _ k => ∀ o, DP (k o)
  | .update _ _ f k => DKf f ∧ DP (k ())
  | .alloc _ k => ∀ a, DP (k a)
  | .loadIfAlive _ k => ∀ o, DP (k o)
  | .point _ k => DP (k ())
  | .register _ _ => True
  | .fresh k => ∀ t, DP (k t)
  | .ask k => ∀ x, DP (k x)
  | .choose _ _ k => ∀ n, DP (k n)
  | .os _ _ k => ∀ r, DP (k r)
  | .call _ _ _ _ _ => False
  | .handled _ k => ∀ v, DP (k v)
  | .newGen _ k => ∀ g, DP (k g)
  | .genState _ k => ∀ x, DP (k x)
  | .resume _ _ _ _ => False
  | .yield _ _ _ _ => True
  | .stack k => ∀ l, DP (k l)
  | .fork _ _ => True
  | .thread k => ∀ n, DP (k n)
  | .await _ _ _ _ _ => True
theorem dp_bind {α β : Type} {f : α → Sem β} (hf : ∀ a, DP (f a)) : ∀ {t : Sem α}, DP t → DP (t.bind f) := by
  intro t
  induction t with
  | pure a => intro _; exact hf a
  | raise e => intro _; trivial
  | unsupported w => intro _; trivial
  | finish e => intro _; trivial
  | rule t k ih => intro h; exact ih () h
  | «at» p k ih => intro h; exact ih () h
  | load a p k ih => intro h o; exact ih o (h o)
  | update a p g k ih => intro h; exact ⟨h.1, ih () h.2⟩
  | alloc o k ih => intro h a; exact ih a (h a)
  | loadIfAlive a k ih => intro h o; exact ih o (h o)
  | point l k ih => intro h; exact ih () h
  | register a k ih => intro _; trivial
  | fresh k ih => intro h t; exact ih t (h t)
  | ask k ih => intro h t; exact ih t (h t)
  | choose s n k ih => intro h t; exact ih t (h t)
  | os r l k ih => intro h t; exact ih t (h t)
  | call c h g l k ih => intro h; exact h.elim
  | handled o k ih => intro h t; exact ih t (h t)
  | newGen c k ih => intro h t; exact ih t (h t)
  | genState g k ih => intro h t; exact ih t (h t)
  | resume g r l k ih => intro h; exact h.elim
  | yield v g l k ih => intro _; trivial
  | stack k ih => intro h t; exact ih t (h t)
  | fork c k ih => intro _; trivial
  | thread k ih => intro h t; exact ih t (h t)
  | await a f d l k ih => intro _; trivial
theorem dp_bind' {α β : Type} {t : Sem α} {f : α → Sem β} (ht : DP t) (hf : ∀ a, DP (f a)) : DP (t >>= f) := dp_bind hf ht
theorem wp_dp {α : Type} (M : Model) (Γ : PySem.Ctx) (E : Value → Pos → Shared → Prop) : ∀ (t : Sem α) (Q : α → Pos → Shared → Prop) (p : Pos) (s : Shared), DP t → Sem.wp M Γ t Q E p s → Sem.wp M Γ t (fun a p' s' => Q a p' s' ∧ DK s.heap s'.heap) E p s := by
  intro t
  induction t with
  | pure a => intro Q p s _ h; exact ⟨h, DK.refl⟩
  | raise e => intro Q p s _ h; exact h
  | unsupported w => intro Q p s _ h; exact h
  | finish e => intro Q p s _ h; exact h
  | rule t k ih => intro Q p s d h; exact ih () Q p s d h
  | «at» p' k ih => intro Q p s d h; exact ih () Q p' s d h
  | load a pt k ih => intro Q p s d h; obtain ⟨o, e, h⟩ := h; exact ⟨o, e, ih o Q p s (d o) h⟩
  | update a pt g k ih =>
    intro Q p s d h
    refine ⟨h.1, ?_⟩
    exact Sem.wp_mono M Γ _ (fun _ _ _ z => ⟨z.1, (DK.update d.1).trans z.2⟩) (fun _ _ _ z => z) p _ (ih () Q p _ d.2 h.2)
  | alloc o k ih =>
    intro Q p s d h
    exact Sem.wp_mono M Γ _ (fun _ _ _ z => ⟨z.1, DK.push.trans z.2⟩) (fun _ _ _ z => z) p _ (ih _ Q p _ (d _) h)
  | loadIfAlive a k ih => intro Q p s d h; exact ih _ Q p s (d _) h
  | point l k ih => intro Q p s d h; exact ih () Q p s d h
  | register a k ih => intro Q p s _ h; exact h
  | fresh k ih => intro Q p s d h; exact ih _ Q p _ (d _) h
  | ask k ih => intro Q p s d h; exact ih _ Q p s (d _) h
  | choose sr n k ih => intro Q p s d h; exact ⟨h.1, ih _ Q p _ (d _) h.2⟩
  | os r l k ih => intro Q p s d h; exact ih _ Q p _ (d _) h
  | call c h g l k ih => intro Q p s d h; exact d.elim
  | handled o k ih => intro Q p s d h; exact ih _ Q p s (d _) h
  | newGen c k ih => intro Q p s d h; exact ih _ Q p _ (d _) h
  | genState g k ih => intro Q p s d h; obtain ⟨st, e, h⟩ := h; exact ⟨st, e, ih _ Q p s (d _) h⟩
  | resume g r l k ih => intro Q p s d h; exact d.elim
  | yield v g l k ih => intro Q p s _ h; exact h
  | stack k ih => intro Q p s d h; exact ih _ Q p s (d _) h
  | fork c k ih => intro Q p s _ h; exact h
  | thread k ih => intro Q p s d h; exact ih _ Q p s (d _) h
  | await a f dd l k ih => intro Q p s _ h; exact h
theorem wpAny_dp {α : Type} {M : Model} {A : Around} {t : Sem α} {Q : α → Shared → Prop} {E : Value → Shared → Prop} {s : Shared} (d : DP t) (h : wpAny M A t Q E s) : wpAny M A t (fun a s' => Q a s' ∧ DK s.heap s'.heap) E s :=
  fun Γ p hΓ => wp_dp M Γ _ t _ p s d (h Γ p hΓ)
theorem dkf_fields {f : Array Value → Array Value} : DKf (Obj.mapFields f) := fun o => by
  obtain ⟨c, d, dt, sl⟩ := o
  cases dt <;> exact ⟨rfl, fun h => h⟩
theorem dp_load {a : Addr} : DP (load a) := fun _ => True.intro
theorem dp_update {a : Addr} {f : Obj → Obj} (h : DKf f) : DP (update a f) := ⟨h, True.intro⟩
theorem dp_fieldsOf {v : Value} : DP (fieldsOf v) := by
  unfold fieldsOf
  split
  · exact dp_bind' dp_load fun o => by split <;> exact True.intro
  · exact True.intro
theorem dp_field {v : Value} {i : Nat} : DP (field v i) := by
  unfold field
  exact dp_bind' dp_fieldsOf fun o => by split <;> exact True.intro
theorem dp_updateField {a : Addr} {i : Nat} {v : Value} : DP (updateField a i v) := by
  unfold updateField
  refine dp_bind' dp_load fun o => ?_
  split
  · split
    · exact ⟨dkf_fields, True.intro⟩
    · exact True.intro
  · exact True.intro
theorem dp_setField {v x : Value} {i : Nat} : DP (setField v i x) := by
  unfold setField
  split
  · exact dp_updateField
  · exact True.intro
theorem dp_setFlight {e : Value} {f : Option Addr} : DP (setFlight e f) := by
  unfold setFlight
  refine dp_bind' dp_field fun tb => ?_
  split
  · exact dp_setField
  · exact True.intro
theorem dp_newEntry {a b c d e : Value} {l : List Value} : DP (EntryCells.newEntry a b c d e l) := by
  unfold EntryCells.newEntry newFields newObj newObjAsIs
  dsimp only
  split <;> split <;> first | exact True.intro | exact fun _ => True.intro
theorem dp_frameEnvs : DP frameEnvs := fun _ => True.intro
theorem dp_behind {env : Env} {outer : List Env} : DP (behindIsImport env outer) := by
  unfold behindIsImport
  split
  · exact True.intro
  · split
    · exact True.intro
    · exact dp_bind' dp_field fun _ => True.intro
theorem dp_keptBack {env : Env} {i : Bool} {outer : List Env} : DP (keptBack env i outer) := by
  unfold keptBack
  split
  · split
    · exact True.intro
    · unfold underTheClaimsCaller
      exact fun _ => True.intro
  · exact True.intro
theorem dp_ready : ∀ {l : List Env}, DP (readyFrames l)
  | [] => by unfold readyFrames; exact True.intro
  | env :: outer => by
    unfold readyFrames
    split
    · refine dp_bind' dp_load fun o => ?_
      split
      · exact True.intro
      · refine dp_bind' dp_behind fun i => dp_bind' dp_keptBack fun b => ?_
        exact dp_bind' (dp_update fun o => ⟨rfl, fun h => by obtain ⟨c, d, dt, sl⟩ := o; cases dt <;> exact h⟩) fun _ => dp_ready
    · exact True.intro
theorem dp_frameObject {l : List Env} : DP (frameObject l) := by
  unfold frameObject
  split
  · exact True.intro
  · exact dp_bind' dp_ready fun _ => True.intro
theorem dp_frameOf {env : Env} : DP (PySem.frameOf env) := by
  unfold PySem.frameOf
  exact dp_bind' dp_frameEnvs fun l => dp_bind' dp_frameObject fun r => by split <;> exact True.intro
theorem dp_entryPlaceOf {f : Addr} {b : Bool} : DP (entryPlaceOf f b) := by
  unfold entryPlaceOf
  refine dp_bind' (fun _ => True.intro : DP stack) fun l => ?_
  split <;> exact True.intro
theorem dp_noteFrame {e : Value} {env : Env} : DP (noteFrame e env) := by
  unfold noteFrame
  split
  · refine dp_bind' dp_field fun head => ?_
    split
    · refine dp_bind' dp_field fun v => ?_
      split
      · exact True.intro
      · exact dp_bind' dp_setField fun _ => dp_bind' dp_frameOf fun _ => dp_bind' dp_entryPlaceOf fun _ => dp_bind' dp_newEntry fun _ => dp_setField
    · exact dp_bind' dp_frameOf fun _ => dp_bind' dp_entryPlaceOf fun _ => dp_bind' dp_newEntry fun _ => dp_setField
  · exact True.intro
theorem dp_leaving {e : Value} {env : Env} : DP (leaving env e) := by
  unfold leaving
  exact dp_bind' dp_noteFrame fun _ => dp_setFlight
section
variable {M : Model} {A : Around} {E : Value → Shared → Prop} {s : Shared} {base : Heap} {env : Env} {outer : List Env} {L e : Addr} {cls a0 : Value} {Q : Unit → Shared → Prop}
theorem looks_D (hfr : A.frames = some (env :: outer)) (hf : env.frame = some L) (hfl : Heap.FlyingW base (env :: outer) e cls a0 s.heap)
    (hQ : ∀ h', Heap.HeldW base (env :: outer) e cls a0 L h' → s.heap.UpToSlots h' → DK s.heap h' → Q () { s with heap := h' }) : wpAny M A (noteFrame (.ref e) env) Q E s :=
  wpAny_mono (wpAny_dp dp_noteFrame (wpAny_looks_onW (Q := fun _ s' => ∃ h', s' = { s with heap := h' } ∧ Heap.HeldW base (env :: outer) e cls a0 L h' ∧ s.heap.UpToSlots h') hfr hf hfl fun h' a b => ⟨h', rfl, a, b⟩))
    (fun _ s' ⟨⟨h', q, a, b⟩, d⟩ => by subst q; exact hQ h' a b d) fun _ _ z => z
theorem lands_D {l : List Env} (hh : Heap.HeldW base l e cls a0 L s.heap) (hQ : ∀ h', Heap.FlyingW base l e cls a0 h' → s.heap.UpToSlots h' → DK s.heap h' → Q () { s with heap := h' }) : wpAny M A (setFlight (.ref e) none) Q E s :=
  wpAny_mono (wpAny_dp dp_setFlight (wpAny_landsW (Q := fun _ s' => ∃ h', s' = { s with heap := h' } ∧ Heap.FlyingW base l e cls a0 h' ∧ s.heap.UpToSlots h') hh fun h' a b => ⟨h', rfl, a, b⟩))
    (fun _ s' ⟨⟨h', q, a, b⟩, d⟩ => by subst q; exact hQ h' a b d) fun _ _ z => z
theorem again_D {l : List Env} (hh : Heap.FlyingW base l e cls a0 s.heap) (hQ : ∀ h', Heap.FlyingW base l e cls a0 h' → s.heap.UpToSlots h' → DK s.heap h' → Q () { s with heap := h' }) : wpAny M A (setFlight (.ref e) none) Q E s :=
  wpAny_mono (wpAny_dp dp_setFlight (lands_againW (Q := fun _ s' => ∃ h', s' = { s with heap := h' } ∧ Heap.FlyingW base l e cls a0 h' ∧ s.heap.UpToSlots h') hh fun h' a b => ⟨h', rfl, a, b⟩))
    (fun _ s' ⟨⟨h', q, a, b⟩, d⟩ => by subst q; exact hQ h' a b d) fun _ _ z => z
end
section
variable {M : Model} {A : Around} {E : Value → Shared → Prop} {s' : Shared} {base g : Heap} {outer : List Env} {L a e t d C : Addr} {m : Str → Option Value} {name : Str} {scope : Scope} {cd : Value} {vs : List Value} {Q : Unit → Shared → Prop} {news : List (Addr × Obj)}
/-- an exception with a dict leaves the frame that raised it -/
theorem exc_leave (K : Below A base outer g) (F : Fr g L s'.heap m) (N : News g L s'.heap ((e, excObj C (some d) t) :: (t, { cls := .type "tuple", data := .seq vs.toArray }) :: news)) (off : ∀ q ∈ news, q.1 ≠ e ∧ q.1 ≠ t)
    (hQ : ∀ h', RaisedS base g outer e (.ref C) t vs news h' → (∃ oe, h'.get? e = some oe ∧ oe.dict = some d) → g.UpToSlots h' → Q () { s' with heap := h' }) (hk : scope.kind = .function := by rfl) :
    wpAny M (A.deeper (envOf name scope L a cd)) (leaving (envOf name scope L a cd) (.ref e)) Q E s' := by
  have K' := K.push (name := name) (a := a) (cd := cd) F hk
  have he := N _ (.head _)
  have ht := N _ (.tail _ (.head _))
  have hin : ∀ env ∈ (envOf name scope L a cd :: outer), ∀ b, env.frame = some b → b ∈ e :: t :: (envOf name scope L a cd :: outer).filterMap (·.frame) := fun env hn b hb => .tail _ (.tail _ (List.mem_filterMap.mpr ⟨env, hn, hb⟩))
  have gne : ∀ b o, g.get? b = some o → b ≠ e ∧ b ≠ t := fun b o q => ⟨fun z => (by rw [z, he.2.2] at q; cases q), fun z => (by rw [z, ht.2.2] at q; cases q)⟩
  have st : base.StaysIn (hideAll s'.heap (e :: t :: (envOf name scope L a cd :: outer).filterMap (·.frame))) := fun b o q => hideAll_get _ (K'.stays b o q) fun hm => by
    have z := gne b o (K.stays b o q)
    rcases List.mem_cons.mp hm with y | hm
    · exact z.1 y
    · rcases List.mem_cons.mp hm with y | hm
      · exact z.2 y
      · rw [(K'.frames.mem hm).1] at q; cases q
  have sg : ∀ b o, g.get? b = some o → b ∉ outer.filterMap (·.frame) → (hideAll s'.heap (e :: t :: (envOf name scope L a cd :: outer).filterMap (·.frame))).get? b = some o := fun b o q nm => hideAll_get _ (F.keep b o q) fun hm => by
    have z := gne b o q
    rcases List.mem_cons.mp hm with y | hm
    · exact z.1 y
    · rcases List.mem_cons.mp hm with y | hm
      · exact z.2 y
      · rcases kts_mem hm with z | z
        · rw [z, kts_self F] at q
          cases q
        · exact nm z
  have hl : ∀ q ∈ news, (hideAll s'.heap (e :: t :: (envOf name scope L a cd :: outer).filterMap (·.frame))).get? q.1 = some q.2 ∧ g.get? q.1 = none ∧ base.get? q.1 = none := fun q hq => by
    have Nq := N q (.tail _ (.tail _ hq))
    refine ⟨hideAll_get _ Nq.1 fun hm => ?_, Nq.2.2, fresh_of_stays K.stays Nq.2.2⟩
    rcases List.mem_cons.mp hm with y | hm
    · exact (off q hq).1 y
    · rcases List.mem_cons.mp hm with y | hm
      · exact (off q hq).2 y
      · obtain ⟨env, hn, hf⟩ := List.mem_filterMap.mp hm
        rcases List.mem_cons.mp hn with rfl | hn
        · exact Nq.2.1 (Option.some.inj hf).symm
        · obtain ⟨o, ho, _⟩ := (K.frames.mem (List.mem_filterMap.mpr ⟨env, hn, hf⟩)).2
          rw [Nq.2.2] at ho; cases ho
  have be : (hideAll s'.heap (e :: t :: (envOf name scope L a cd :: outer).filterMap (·.frame))).get? e = none := hideAll_none _ (.head _)
  have bt : (hideAll s'.heap (e :: t :: (envOf name scope L a cd :: outer).filterMap (·.frame))).get? t = none := hideAll_none _ (.tail _ (.head _))
  refine wpAny_mono (wpAny_dp dp_leaving (wpAny_leaving_firstW (a0 := .ref t) (Q := fun _ s₁ => ∃ h', s₁ = { s' with heap := h' } ∧ Heap.LeftW (hideAll s'.heap (e :: t :: (envOf name scope L a cd :: outer).filterMap (·.frame))) (envOf name scope L a cd :: outer) e (.ref C) (.ref t) s'.heap h')
    K'.stack (funFrames_hide K'.frames hin) rfl he.1 (fun b o q => of_hideAll _ q) be rfl rfl rfl fun h' hL => ⟨h', rfl, hL⟩)) (fun _ s₁ ⟨⟨h', q, hL⟩, dk⟩ => ?_) fun _ _ z => z
  subst q
  obtain ⟨k1, ⟨_, _, k2⟩, k3, k4⟩ := hL
  obtain ⟨oe, e1, e2⟩ := dk _ _ he.1
  exact hQ h' ⟨⟨_, st, sg, hl, ⟨k1, be, k2, k3⟩, bt⟩, Heap.TupAt.of_slots ⟨_, _, ht.1, rfl, rfl⟩ k4⟩ ⟨oe, e1, e2⟩ ((Heap.UpToSlots.of_keeps F.keep).trans k4)
end
section
variable {prog : Program} {w : World} {A₀ : Around} {E : Value → Shared → Prop} {s' : Shared} {base g g₀ G : Heap} {outer : List Env} {L a e t d C : Addr} {m : Str → Option Value} {name : Str} {scope : Scope} {cd : Value}
  {vs : List Value} {n : Str} {b₀ : Stmt} {suite : List Stmt} {pos np : Pos} {rest : List ExceptHandler} {Q : Flow → Shared → Prop} {news : List (Addr × Obj)} {KF : Frag}
  {p : Program} {loose : List Str} {mean : ExcName → Option Value} {mg mb : Str → Option Value} {x : Str}
/-- an exception of an own class is caught by its class's name; its dict is still its dict -/
theorem exc_caught (R : RaisedS base G (envOf name scope L a cd :: outer) e (.ref C) t vs news s'.heap) (hdict : ∃ oe, s'.heap.get? e = some oe ∧ oe.dict = some d) (F : Fr g L G m) (K : Below A₀ base outer g) (hsm : G.UpToSlots s'.heap) (XB : KF.In base) (TB : Top p loose mean mg mb base)
    (D : KtsDicts (outer.filterMap (·.frame)) g) (T0 : KtsTurn (outer.filterMap (·.frame)) g₀ g)
    (ex : nsIn KF mainGlobals x = some (some (.ref C))) (q : ktsIn KF C "BaseException" = true)
    (k : ∀ h' g' oe tk, KtsTurn (outer.filterMap (·.frame)) g₀ g' → Fr g' L h' (fun y => if y = n then some (.ref e) else m y) → News g' L h' ((e, oe) :: news) → oe.cls = .ref C → oe.dict = some d → (∃ ws, oe.data = .fields ws) → Below A₀ base outer g' → KF.In g' → Top p loose mean mg mb g' → KtsDicts (outer.filterMap (·.frame)) g' →
      wpAny (model prog w) ((A₀.deeper (envOf name scope L a cd)).mark (some (.ref e))) (execs (b₀ :: suite) (envOf name scope L a cd))
        (fun f s₄ => wpAny (model prog w) (A₀.deeper (envOf name scope L a cd)) (do bindName (envOf name scope L a cd) n .none; unbindBehindTheSuite (envOf name scope L a cd) n pos) (fun _ s₅ => Q f s₅) E s₄)
        (AsSuiteRaised (model prog w) ((A₀.deeper (envOf name scope L a cd)).mark (some (.ref e))) (envOf name scope L a cd) n pos (notedBy (model prog w) ((A₀.deeper (envOf name scope L a cd)).mark (some (.ref e))) (envOf name scope L a cd) (cameBackBy (model prog w) (A₀.deeper (envOf name scope L a cd)) (envOf name scope L a cd) E)))
        { s' with heap := h', toks := tk })
    (hk : scope.kind = .function := by rfl) (hlo : (envOf name scope L a cd).kindOf n = some .local := by rfl) (hx : (envOf name scope L a cd).kindOf x = some .globalImplicit := by rfl) (hd : (x == ("__debug__" : Str)) = false := by decide) :
    wpAny (model prog w) (A₀.deeper (envOf name scope L a cd)) (noteFrame (.ref e) (envOf name scope L a cd))
      (fun _ s₂ => wpAny (model prog w) (A₀.deeper (envOf name scope L a cd)) (setFlight (.ref e) none) (fun _ s₃ =>
        wpAny (model prog w) (A₀.deeper (envOf name scope L a cd)) (handleBy (.ref e) (envOf name scope L a cd) (.ExceptHandler (some (.Name x np)) (some n) (b₀ :: suite) pos :: rest)) Q E s₃) E s₂) E s' := by
  obtain ⟨⟨B, hB, hBG, hl, hfl, hnew⟩, htup⟩ := R
  have hL : B.get? L = none := by
    obtain ⟨_, ⟨L', _, hf, hn', _⟩, _⟩ := hfl.2.2.1
    obtain rfl : L = L' := Option.some.inj hf
    exact hn'
  refine looks_D (Around.frames_deeper K.stack) rfl hfl fun h₄ hheld₄ hsm₄ dk₄ => ?_
  refine lands_D hheld₄ fun h₅ hheld hsm₅' dk₅ => ?_
  have hsm₅ := hsm₄.trans hsm₅'
  obtain ⟨g₅, T₅, F₅, K₅⟩ := kts_ground K F hBG hheld.1 (hsm.trans hsm₅)
  have X₅ : KF.In g₅ := XB.keeps K₅.stays
  have P₅ : TopRead p loose mg mb g₅ := topRead_of (TB.keeps K₅.stays)
  obtain ⟨ob, hob, hobc⟩ := hheld.there
  obtain ⟨nm, q', N, bs, bm, hdct, sn, sub, ab, col, dd, k0, k1, k2, k3, k5, newId, hC, hbase, hbT⟩ := kts_cls X₅ q
  have hC₅ := F₅.keep _ _ hC
  refine wpAny_handleBy_cons (codeAny_handlers_test (name_K F₅ X₅ P₅ ex ?_ hk hx hd)) (by intro q; cases q)
  refine wpAny_excMatches_sub_self hC₅ hob hobc hbase (codeAny_handlers_suite_as ?_)
  refine again_D hheld fun h₆ hfl₆ hsm₆ dk₆ => ?_
  obtain ⟨g₆, T₆, F₆, K₆⟩ := kts_ground K F hBG hfl₆.1 ((hsm.trans hsm₅).trans hsm₆)
  obtain ⟨oe, ws, hoe, hoec, hoed, hoe0⟩ := hfl₆.first
  have hde : oe.dict = some d := by
    obtain ⟨o0, e0, d0⟩ := hdict
    obtain ⟨o1, e1, d1⟩ := ((dk₄.trans dk₅).trans dk₆) _ _ e0
    rw [hoe] at e1
    rw [Option.some.inj e1, d1, d0]
  have ne₆ : g₆.get? e = none := T₆.none_ _ (kts_fresh F hBG hfl₆.2.1 fun o ho m => by
    obtain ⟨_, o', ho', hd⟩ := K.frames.mem m
    rw [ho] at ho'
    cases ho'
    obtain ⟨sl, hs⟩ := ((hsm.trans hsm₅).trans hsm₆) _ _ (F.keep _ _ ho) hd
    rw [hoe] at hs
    cases hs
    exact hd _ hoed)
  have N₆ := News.more F₆ (News.nil (h₀ := g₆) (L := L) (h := h₆)) hoe (fun es n q => by rw [hoed] at q; cases q) ne₆
  have Nl : News g₆ L h₆ news := fun q hq => ⟨hfl₆.1 _ _ (hl q hq).1, (fun z => by have := (hl q hq).1; rw [z, hL] at this; cases this), T₆.none_ _ (kts_none F.keep (hl q hq).2.1)⟩
  have X₆ : KF.In g₆ := XB.keeps K₆.stays
  have P₆ : Top p loose mean mg mb g₆ := TB.keeps K₆.stays
  have D₆ : KtsDicts (outer.filterMap (·.frame)) g₆ := D.turn T₆
  refine stN F₆ (news := (e, oe) :: news) (fun q hq => (List.mem_cons.mp hq).elim (fun z => z ▸ N₆ _ (.head _)) (Nl q)) (fun h₇ F₇ N₇ => ?_) hk hlo
  exact k h₇ g₆ oe _ (T0.trans T₆) F₇ N₇ hoec hde ⟨ws, hoed⟩ K₆ X₆ P₆ D₆
end
section
open Builtin Builtin.ObjectAttr Builtin.Getset_descriptor
variable {prog : Program} {w : World} {A : Around} {E : Value → Shared → Prop} {s : Shared} {K : Frag} {x C : Addr} {ox : Obj} {od : Option Obj} {name : Str} {expr : Bool} {Q : Value → Shared → Prop}
theorem exc_get0 {hh' : Heap} {g : Array GenState} {d : Drawn} {t : Nat} {os : OsState} {v : Value} (X : K.In hh') (I : InstAt hh' x ox C od) (hga : findIn K (.ref C) "__getattribute__" = some (some (.builtin "BaseException.__getattribute__"))) (hk : findIn K (.ref C) "__getattr__" = some none) (hB : mroIn K C (.type "BaseException") = some true)
    (hf : findObj K C od name = some (.value v)) (hh : handedIn v = true) (h : Q v ⟨hh', g, d, t + 1, os⟩) : wpAny (model prog w) A (getAttr (.ref x) name expr) Q E ⟨hh', g, d, t, os⟩ := by
  have L0 := I.type (M := model prog w)
  have L1 := looks_findIn (M := model prog w) X hga
  have L2 := looks_find (M := model prog w) X I hf
  have Lk : Looks (model prog w) hh' (hookBefore (.ref C)) none := looks_hook X (by exact hk)
  have Ls : Looks (model prog w) hh' (isInstance (.ref x) (.type "BaseException")) true := L0.andThen (looks_mroIn X hB)
  have f3 := PySem.F.attr_Exception.ga.bind (.ref x)
  have hx0 : (expr && onTheHeap (Value.builtin "BaseException.__getattribute__")) = false := by cases expr <;> rfl
  have hx2 : (Value.builtin "BaseException.__getattribute__" == Value.builtin "object.__getattribute__") = false := by decide +kernel
  have hx1 : (onTheHeap (Value.ref C) && Value.builtin "BaseException.__getattribute__" == Value.builtin "object.__getattribute__") = false := by rw [hx2]; rfl
  unfold getAttr getAttrBy
  refine wpAny_bind (wpAny_mkText (wpAny_holding (wpAny_bind (L0.at (wpAny_bind (L1.at ?_))))))
  dsimp only
  rw [if_neg (by rw [hx1]; decide)]
  unfold getAttrByItsOwn
  refine wpAny_bind (Lk.at ?_)
  unfold callGetattribute
  rw [if_neg (by rw [hx0]; decide)]
  unfold boundAndCalled
  rw [f3]
  refine wpAny_bind (wpAny_attempt (wpAny_holding (wpAny_bind (wpAny_pure (wpAny_call ?_)))))
  refine codeAny_call_builtin PySem.F.attr_Exception.ga.plain PySem.F.entry_bexc_ga (@check_slot (model prog w) _ _ ⟨hh', g, d, t + 1, os⟩ "BaseException.__getattribute__" "BaseException" "__getattribute__" (.ref x) [.str name t] [] _ (by decide +kernel) (by decide +kernel) Ls (PySem.F.args_bexc_ga (.ref x) (.str name t)) ?_)
  unfold Builtin.«object.__getattribute__»
  repeat (first | lk | wp_step)
  show wpAny _ _ (handedOut v) _ _ _
  rw [handedOut_of hh]
  exact wpAny_pure h
theorem exc_get {v : Value} (X : K.In s.heap) (I : InstAt s.heap x ox C od) (hga : findIn K (.ref C) "__getattribute__" = some (some (.builtin "BaseException.__getattribute__"))) (hk : findIn K (.ref C) "__getattr__" = some none) (hB : mroIn K C (.type "BaseException") = some true)
    (hf : findObj K C od name = some (.value v)) (hh : handedIn v = true) (h : Q v { s with toks := s.toks + 1 }) : wpAny (model prog w) A (getAttr (.ref x) name expr) Q E s :=
  exc_get0 X I hga hk hB hf hh h
end
section
variable {prog : Program} {w : World} {A₀ A : Around} {s : Shared} {base h₀ : Heap} {outer : List Env} {L : Addr} {m : Str → Option Value} {env : Env} {news : List (Addr × Obj)} {K : Frag} {p : Program} {loose : List Str} {mean : ExcName → Option Value} {mg mb : Str → Option Value}
  {R : Result → Shared → Prop} {name qual : Str} {params : Arguments} {body : List Stmt} {scope : Scope} {dV kV doc pm cdv ct oc : Value} {an od : Option Addr} {osl : Array (Option Value)} {f : Addr} {args : Args} {binds : List (Str × Value)}
/-- a def with cells is entered; of its end its value alone is asked -/
theorem code_freeC (B : Below A₀ base outer h₀) (F : Fr h₀ L s.heap m) (X₀ : K.In h₀) (N : News h₀ L s.heap news) (T : Top p loose mean mg mb h₀) (hA : A.frames = some (env :: outer)) (hf : env.frame = some L) (hke : env.scope.kind = .function)
    (ho : K.lookup f = some ⟨oc, od, .func (fnOf name qual params body scope dV kV doc pm an cdv ct), osl⟩) (hcd : codeIn K cdv qual = true) (hroom : A.depth < recursionLimit)
    (hbind : BindsTo s (fnOf name qual params body scope dV kV doc pm an cdv ct) args binds) (hkind : (binds.all fun y => scope.names.lookup y.1 == some .local || scope.names.lookup y.1 == some .cell) = true)
    (hnd : ((cellsFrom 0 scope.names []).map (·.1)).Nodup)
    (h : ∀ g L' h₁ tk cells, Fr h₀ L g m → Fr g L' h₁ (bindL (envOfC qual scope L' f cdv).kindOf binds fun _ => none) → News g L' h₁ (cells ++ news) →
      CellsAre (bindC (envOfC qual scope L' f cdv).kindOf binds fun _ => none) (cellsFrom (L' + 1) scope.names []) cells → Below A base (env :: outer) g → K.In g → Top p loose mean mg mb g → (∀ p ∈ news, p.1 < L') →
      wpAny (model prog w) (A.deeper (envOfC qual scope L' f cdv)) (execs body (envOfC qual scope L' f cdv))
        (fun fl s' => R (.ok (.ret (match fl with | .ret v => v | _ => .none))) s')
        (fun e s' => wpAny (model prog w) (A.deeper (envOfC qual scope L' f cdv)) (leaving (envOfC qual scope L' f cdv) e) (fun _ s'' => R (.error e) s'') (fun e' s'' => R (.error e') s'') s')
        { s with heap := h₁, toks := tk })
    (hco : scope.isCoroutine = false) (hgen : scope.isGenerator = false) (hk : scope.kind = .function) : codeAny (model prog w) A (.call (.ref f) args) R s := by
  obtain ⟨FG, BG, st, _⟩ := groundX (R := R) B F N hA hf hke
  refine codeAny_call_function hroom ((X₀.keeps F.keep) _ _ ho) rfl hco hgen rfl (codeRec_of (X₀.keeps F.keep) hcd) (hbind _ _ _ _ ?_)
  refine wpAny_newFunctionEnv_cells hk (kindsX hkind _) fun env' he s' x => ?_
  subst he
  refine ⟨(T.nolimit.keeps F.keep).keeps x.toInCall.keep, codeAny_func ?_⟩
  obtain ⟨h₁, tk, rfl, _⟩ := x.done
  have hk₁ := x.toInCall.keep
  obtain ⟨cells, NC, Y⟩ := Cl.news (h₀ := s.heap) (Nat.le_refl _) fun n c hm => ⟨x.cell n c (lookup_of_mem_nodup (cellsFrom_names scope.names 0 (s.heap.objs.size + 1) [] [] rfl ▸ hnd) hm), x.above n c hm⟩
  refine h _ s.heap.objs.size h₁ tk cells FG ⟨x.toInCall.ns, fun b o e => hk₁ b o (of_hideAll _ e), Nat.le_of_eq (hideAll_size _ _)⟩ (fun p hp => ?_) Y BG (X₀.keeps st) (T.keeps st) fun p hp => Heap.lt_size (N p hp).1
  rcases List.mem_append.mp hp with hp | hp
  · refine ⟨(NC p hp).1, (NC p hp).2.1, ?_⟩
    cases q : (hideAll s.heap (news.map (·.1))).get? p.1 with
    | none => rfl
    | some o => have := of_hideAll _ q; rw [(NC p hp).2.2] at this; cases this
  · exact ⟨hk₁ _ _ (N p hp).1, Nat.ne_of_lt (Heap.lt_size (N p hp).1), hideAll_none _ (List.mem_map_of_mem hp)⟩
theorem fr_dict {h : Heap} (F : Fr h₀ L h m) : ∃ o es n, h.get? L = some o ∧ o.data = .dict es n := by
  obtain ⟨o, es, n, ho, hd, _⟩ := F.ns
  exact ⟨o, es, n, ho, hd⟩
theorem dicts_in {env : Env} (D : KtsDicts (outer.filterMap (·.frame)) h₀) (hf : env.frame = some L) {g : Heap} (F : Fr h₀ L g m) : KtsDicts ((env :: outer).filterMap (·.frame)) g := fun b hb => by
  obtain ⟨e, he, hfe⟩ := List.mem_filterMap.mp hb
  rcases List.mem_cons.mp he with rfl | he
  · rw [hf] at hfe
    cases hfe
    exact fr_dict F
  · obtain ⟨o, es, n, ho, hd⟩ := D b (List.mem_filterMap.mpr ⟨e, he, hfe⟩)
    exact ⟨o, es, n, F.keep _ _ ho, hd⟩
theorem below_turn {g g' : Heap} (B : Below A₀ base outer g) (T : KtsTurn (outer.filterMap (·.frame)) g g') : Below A₀ base outer g' :=
  ⟨B.stack, fun b o e => T.other b o (B.stays b o e) (fun hm => by rw [(B.frames.mem hm).1] at e; cases e), B.frames.of_keeps fun b o e _ => by
    obtain ⟨sl, hs⟩ := T.up e
    exact ⟨_, hs, rfl⟩⟩
/-- what a frame knows behind a call whose exception was caught: all but the slots of the frames behind it -/
def Back (A₀ : Around) (base : Heap) (outer : List Env) (K : Frag) (p : Program) (loose : List Str) (mean : ExcName → Option Value) (mg mb : Str → Option Value) (h₀ : Heap) (L : Addr) (m : Str → Option Value) (news : List (Addr × Obj)) (h' : Heap) : Prop :=
  ∃ h₀', KtsTurn (outer.filterMap (·.frame)) h₀ h₀' ∧ Fr h₀' L h' m ∧ News h₀' L h' news ∧ Below A₀ base outer h₀' ∧ K.In h₀' ∧ Top p loose mean mg mb h₀' ∧ KtsDicts (outer.filterMap (·.frame)) h₀'
/-- a def is entered whose try catches -/
theorem code_turn (B : Below A₀ base outer h₀) (F : Fr h₀ L s.heap m) (X₀ : K.In h₀) (N : News h₀ L s.heap news) (T : Top p loose mean mg mb h₀) (XB : K.In base) (TB : Top p loose mean mg mb base) (D : KtsDicts (outer.filterMap (·.frame)) h₀) (hA : A.frames = some (env :: outer)) (hf : env.frame = some L) (hke : env.scope.kind = .function)
    (ho : K.lookup f = some ⟨oc, od, .func (fnOf name qual params body scope dV kV doc pm an cdv ct), osl⟩) (hcd : codeIn K cdv qual = true) (hroom : A.depth < recursionLimit)
    (hbind : BindsTo s (fnOf name qual params body scope dV kV doc pm an cdv ct) args binds) (hloc : ∀ y ∈ binds, scope.names.lookup y.1 = some .local)
    (h : ∀ g L' h₁, Fr g L' h₁ (fun y => binds.reverse.lookup y) → News g L' h₁ news → Below A base (env :: outer) g → K.In g → Top p loose mean mg mb g → KtsDicts ((env :: outer).filterMap (·.frame)) g →
      (∀ (s' : Shared) (g' : Heap) (L'' : Addr) (m' : Str → Option Value), KtsTurn ((env :: outer).filterMap (·.frame)) g g' → Fr g' L'' s'.heap m' → News g' L'' s'.heap news → Back A₀ base outer K p loose mean mg mb h₀ L m news s'.heap) →
      wpAny (model prog w) (A.deeper (envOf qual scope L' f cdv)) (execs body (envOf qual scope L' f cdv))
        (fun fl s' => R (.ok (.ret (match fl with | .ret v => v | _ => .none))) s')
        (fun e s' => wpAny (model prog w) (A.deeper (envOf qual scope L' f cdv)) (leaving (envOf qual scope L' f cdv) e) (fun _ s'' => R (.error e) s'') (fun e' s'' => R (.error e') s'') s')
        { s with heap := h₁, toks := s.toks + binds.length })
    (hco : scope.isCoroutine = false) (hgen : scope.isGenerator = false) (hk : scope.kind = .function)
    (hcell : ∀ x ∈ scope.names, x.2 ≠ .cell) : codeAny (model prog w) A (.call (.ref f) args) R s := by
  have X := X₀.keeps F.keep
  obtain ⟨FG, BG, st, _⟩ := groundX (R := R) B F N hA hf hke
  have DG : KtsDicts ((env :: outer).filterMap (·.frame)) (hideAll s.heap (news.map (·.1))) := dicts_in D hf FG
  have nL₀ : h₀.get? L = none := kts_self F
  obtain ⟨oL, es, ep, hLg, hLd, hLk, hLf⟩ := FG.ns
  refine codeAny_call_def (fd := fnOf name qual params body scope dV kV doc pm an cdv ct) (body := body) (binds := binds) hroom (X _ _ ho) rfl (T.nolimit.keeps F.keep) (codeRec_of X hcd) rfl hbind hcell hloc (fun h₁ hns hk₁ => ?_) hco hgen hk
  refine h _ s.heap.objs.size h₁ ⟨hns, fun b o e => hk₁ b o (of_hideAll _ e), Nat.le_of_eq (hideAll_size _ _)⟩
    (fun p hp => ⟨hk₁ _ _ (N p hp).1, Nat.ne_of_lt (Heap.lt_size (N p hp).1), hideAll_none _ (List.mem_map_of_mem hp)⟩) BG (X₀.keeps st) (T.keeps st) DG (fun s' g' L'' m' T' F' N' => ?_)
  obtain ⟨sl, hs⟩ := T'.up hLg
  have nmem : ∀ b o, h₀.get? b = some o → b ∉ outer.filterMap (·.frame) → b ∉ (env :: outer).filterMap (·.frame) := fun b o e nm q => by
    obtain ⟨v, hv, hfv⟩ := List.mem_filterMap.mp q
    rcases List.mem_cons.mp hv with rfl | hv
    · rw [hf] at hfv
      cases hfv
      rw [nL₀] at e
      cases e
    · exact nm (List.mem_filterMap.mpr ⟨v, hv, hfv⟩)
  obtain ⟨T₁, S₁⟩ := kts_turn_at (h := s'.heap) (fs := outer.filterMap (·.frame)) (g := h₀)
    (fun b hb => by
      obtain ⟨_, o, ho', _⟩ := B.frames.mem hb
      exact ⟨o, ho'⟩)
    (fun b o e nm => F'.keep b o (T'.other b o (st b o e) (nmem b o e nm)))
    (fun b o e hm => by
      obtain ⟨sl', hs'⟩ := T'.up (st b o e)
      exact ⟨sl', F'.keep _ _ hs'⟩)
  have B₃ := below_turn B T₁
  refine ⟨_, T₁, ⟨⟨_, es, ep, F'.keep _ _ hs, hLd, hLk, hLf⟩, S₁, by rw [T₁.size]; exact F.above⟩, fun p hp => ⟨(N' p hp).1, fun q => ?_, ?_⟩, B₃, XB.keeps B₃.stays, TB.keeps B₃.stays, D.turn T₁⟩
  · have := (N' p hp).2.2; rw [q, hs] at this; cases this
  · refine T₁.none_ _ ?_
    cases q : h₀.get? p.1 with
    | none => rfl
    | some o =>
      obtain ⟨sl', hs'⟩ := T'.up (st _ _ q)
      have := (N' p hp).2.2
      rw [hs'] at this
      cases this
end
theorem fill_P27h : Challenge.rw_xm0171_01 = Challenge.rw_xm0171_01 ∧ Mine.hd.heap_39 = Mine.hd.heap_39 := by
  k_fill
  w_top off
  k_with_none
  k_with "gnd" => ((case u0 => k_asm); (case u1 => k_asm); (case u2 => k_asm); (case u3 => k_asm); (case u4 => first | exact rfl | assumption); (case u5 => ktr_room); (case u6 => ktr_units); (case u7 => k_asm))
  k_with "kln_le" => (first | exact ne_c rfl | exact lt_c rfl | exact ne_a rfl | exact ne_b rfl | exact ne_d (by assumption) rfl | exact ne_e (by assumption) rfl | exact lt_a (by assumption) rfl | exact ne_f (by assumption) | exact ne_f (Ne.symm (by assumption)) | exact ne_g (by assumption) rfl | exact ne_two (by assumption) (by assumption) (by assumption) | exact or5 (by assumption) (by kln_le) (by kln_le) (by kln_le) (by kln_le) (by kln_le) | omega)
  k_with "pl" => (with_reducible first | exact pl1 (by assumption) | exact pl2 (by assumption) | exact pl3 (by assumption) | exact pl4 (by assumption) | exact pl5 (by assumption) | exact pl6 (by assumption) | exact pl7 (by assumption) | exact pl8 (by assumption) | exact pl9 (by assumption) | exact pl10 (by assumption) | exact pl11 (by assumption) | exact pl12 (by assumption) | exact pl13 (by assumption) | exact pl14 (by assumption) | exact pl15 (by assumption) | exact pl16 (by assumption) | exact pl17 (by assumption) | exact pl18 (by assumption) | exact pl19 (by assumption) | exact pl20 (by assumption) | exact pl21 (by assumption) | exact pl22 (by assumption) | exact pl23 (by assumption) | exact pl24 (by assumption) | exact pl25 (by assumption) | exact pl26 (by assumption) | exact pl27 (by assumption) | exact pl28 (by assumption) | exact pl29 (by assumption) | exact pl30 (by assumption))
  k_with "pa" => (with_reducible first | exact pa1 (by assumption) | exact pa2 (by assumption) | exact pa3 (by assumption) | exact pa4 (by assumption) | exact pa5 (by assumption) | exact pa6 (by assumption) | exact pa7 (by assumption) | exact pa8 (by assumption) | exact pa9 (by assumption) | exact pa10 (by assumption) | exact pa11 (by assumption) | exact pa12 (by assumption) | exact pa13 (by assumption) | exact pa14 (by assumption) | exact pa15 (by assumption) | exact pa16 (by assumption) | exact pa17 (by assumption) | exact pa18 (by assumption) | exact pa19 (by assumption) | exact pa20 (by assumption) | exact pa21 (by assumption) | exact pa22 (by assumption) | exact pa23 (by assumption) | exact pa24 (by assumption) | exact pa25 (by assumption) | exact pa26 (by assumption) | exact pa27 (by assumption) | exact pa28 (by assumption) | exact pa29 (by assumption) | exact pa30 (by assumption))
  k_with "execs cons" => ((k_here; with_reducible first | (refine seq_start (s₀ := s) ?_; intro tkz9 qz9) | (refine seq_startS ?_; intro qz9; (try k_gentoks))))
  k_with "Seq" => ((k_here; with_reducible first | (refine seq_go (s₀ := s) ?_; intro tkz9 qz9) | (refine seq_goS ?_; intro qz9; (try k_gentoks)) | refine seq_end ?_ | refine seq_ret ?_ | refine seq_brk ?_ | refine seq_cont ?_))
  k_with "k_fold" => ((refine name_in ?_; intro e9z9 B9z9 M9z9 q9z9 x9z9))
  k_with "k_steps" => (repeat' (first | walk1 | (k_end; wrow_close) | (dsimp only; walk1) | (leave1; walk_say "STEP leave1"; try dsimp only) | (k_unfold; (try dsimp only)) | fail "no step"))
  k_with "storeName" => ((k_here; k_dflt (refine' storeLet ?F ?N ?_ ?a ?b; (case a => first | assumption | rfl); (case b => rfl); (case F => k_asm); (case N => k_asm); k_whole); intro hz9 mz9 Fz9 Nz9; (try k_sweep)))
  k_with "subscriptTail Name Constant ref int" => ((k_here; k_dflt (refine' item_tupleT ?t ?a ?b ?c ?d ?_; (case t => exact News.isTup (by k_asm) (rowsAt (by assumption) (by ktr_rel))); (case a => decide); (case b => decide); (case c => rfl); (case d => rfl))))
  k_with "kby_size" => (first | (rename ((_ ≠ _ ∧ _ ≠ _ ∧ _ ≠ _) ∧ _) => q9z9; with_reducible first | exact q9z9.1.1 | exact Ne.symm q9z9.1.1 | exact q9z9.1.2.1 | exact Ne.symm q9z9.1.2.1 | exact q9z9.1.2.2 | exact Ne.symm q9z9.1.2.2 | (replace q9z9 := q9z9.2; kby_size)) | (rename (_ ≠ _ ∧ _ ≠ _ ∧ _ ≠ _) => q9z9; with_reducible first | exact q9z9.1 | exact Ne.symm q9z9.1 | exact q9z9.2.1 | exact Ne.symm q9z9.2.1 | exact q9z9.2.2 | exact Ne.symm q9z9.2.2))
  k_with "k_ne" => (first | kby_size | (refine neN ?_; (try dsimp only); omega (config := { splitDisjunctions := false })))
  k_with "k_ne" => (first | kby_size | (refine neN (Nat.ne_of_gt ?_); k_extra "pl") | (refine neN (Nat.ne_of_lt ?_); k_extra "pl"))
  k_with "ktr_room" => (first | exact rm2 (by assumption) rfl | exact rm1 (by assumption) rfl | exact rm0 (by assumption) | exact rm3 (by assumption) rfl)
  k_with "ktr_units" => (first | exact rm2 (by assumption) rfl | exact rm1 (by assumption) rfl | exact rm0 (by assumption) | exact rm3 (by assumption) rfl)
  k_with "k_mem" => (first | assumption | exact RowsIn.at (by assumption) (by assumption))
  k_with "subscriptTail" => ((k_here; (with_reducible show wpAny _ _ (subscriptTail _ _ (Value.ref _) (Value.str _ _)) _ _ _); k_dflt (refine' kda_item (knd := PySem.strKind _ _) ?N ?hp ?hd (strKind_is _ _ _ _) ?hl ?_; (case N => k_asm); (case hp => k_mem); (case hd => k_asm); (case hl => rfl)); (try dsimp only)))
  k_with "exec For Name Subscript cons nil" => ((k_here; (rename Fr _ _ _ _ => lFz9); (with_unfolding_all refine' For_invVF lFz9 ?k1 ?k2 ?_; (case k1 => exact rfl); (case k2 => exact rfl); k_whole)))
  k_with "eval ListComp" => ((k_here; (with_reducible show wpAny _ _ (eval (Expr.ListComp _ [Comprehension.mk (Expr.Name _ _) _ [_] _] _ _) _) _ _ _); k_dflt (refine LCt.ListComp_T (F₀ := by k_asm) (by with_unfolding_all rfl) (by decide) (by rfl) (by decide) (by rfl) ?_)))
  k_with "CompSrcT" => ((k_here; k_dflt (refine LCt.CompSrcT.ledger (by rfl) (by k_asm) (by k_asm) (by k_mem) (by first | size_fits | (simp only [List.size_toArray, List.length_map, sizeLine_eq]; omega)) ?_); intro gz9))
  k_with "setItem ref str" => ((k_here; k_dflt (refine' kda_set (knd := PySem.strKind _ _) ?F ?N ?U ?d (strKind_is _ _ _ _) ?z ?_; (case F => k_asm); (case N => k_asm); (case U => k_updF); (case d => k_asm); (case z => rw [sizeLine_eq]; exact Nat.le_of_ble_eq_true (by with_unfolding_all rfl))); intro hz9 oz9 Fz9 Nz9 hdz9; (try dsimp only at Nz9)))
  k_with "is_list" => (exact News.isList (by k_asm) (by k_mem))
  k_with "ke_room" => (ktr_units)
  k_with "k_units" => (ktr_units)
  k_with "subscriptTail" => ((k_here; (with_reducible show wpAny _ _ (subscriptTail _ _ (Value.ref _) (Value.int _ _)) _ _ _); k_dflt (refine' my_item ?N ?hm ?h0 ?hhi ?hx ?_; (case N => k_asm); (case hm => k_mem); (case h0 => with_reducible assumption); (case hhi => with_reducible assumption); (case hx => with_reducible assumption))))
  k_with "ktr_rel" => (first | assumption | exact RowsIn.filter (by assumption) | (refine RowsIn.cons ?_; ktr_rel))
  k_with "ktr_unf" => (assumption)
  k_with "tb_rel" => (first | with_reducible assumption | (first | k_extra "pl" | k_extra "pa") | assumption | omega)
  k_with "tb_start" => (first | exact List.forall_mem_nil _ | (refine List.forall_mem_cons.mpr ⟨⟨by tb_rel, by tb_rel, by tb_rel⟩, ?_⟩; tb_start) | (refine List.forall_mem_cons.mpr ⟨⟨by tb_rel, by tb_rel, by tb_rel, by tb_rel⟩, ?_⟩; tb_start))
  k_with "call builtin:list.pop" => ((k_here; (try (rename News _ _ _ _ => N9pz9; simp only [List.push_toArray] at N9pz9)); k_dflt ((refine' my_pop0 ?F ?N ?U ?hi ?hne ?hz ?_); (case F => k_asm); (case N => k_asm); (case U => k_upd); (case hi => first | assumption | exact ints_snoc (by assumption)); (case hne => first | assumption | exact of_decide_eq_false (by assumption) | simp); (case hz => (try simp only [List.length_append, List.length_cons, List.length_nil]); omega)); intro t9z9 h9z9 F9z9 N9z9 hi9z9))
  k_with "call builtin:list.append" => ((k_here; (with_reducible show wpAny _ _ (call (Value.builtin _) [Value.ref _, _]) _ _ _); k_dflt (refine' append_K ?k1 ?k2 ?k3 ?_ ?z; (case k1 => k_asm); (case k2 => k_asm); (case k3 => k_upd); (case z => (simp only [List.size_toArray, List.length_tail, sizeLine_eq]; omega)); k_whole); intro hz9 Fz9 Nz9; (try simp only [List.push_toArray] at Nz9); (try k_sweep)))
  k_with "subscriptTail Name Name ref int" => ((k_here; (with_reducible show wpAny _ _ (subscriptTail _ _ (Value.ref _) (Value.int _ _)) _ _ _); k_dflt (first | (refine' my_item ?N ?hm ?h0 ?hhi ?hx ?_; (case N => k_asm); (case hm => k_mem); (case h0 => with_reducible assumption); (case hhi => with_reducible assumption); (case hx => with_reducible assumption)) | (refine' my_item ?N ?hm ?h0 ?hhi ?hx ?_; (case N => k_asm); (case hm => k_mem); (case h0 => decide); (case hhi => decide); (case hx => rfl)))))
  k_with "subscriptTail Attribute" => ((k_here; (with_reducible show wpAny _ _ (subscriptTail _ _ (Value.ref _) (Value.int _ _)) _ _ _); k_dflt (first | (refine' my_item ?N ?hm ?h0 ?hhi ?hx ?_; (case N => k_asm); (case hm => k_mem); (case h0 => with_reducible assumption); (case hhi => with_reducible assumption); (case hx => with_reducible assumption)) | (refine' my_item ?N ?hm ?h0 ?hhi ?hx ?_; (case N => k_asm); (case hm => k_mem); (case h0 => decide); (case hhi => decide); (case hx => rfl)))))
  k_with "subscriptTail Subscript" => ((k_here; (with_reducible show wpAny _ _ (subscriptTail _ _ (Value.ref _) (Value.int _ _)) _ _ _); k_dflt (first | (refine' my_item ?N ?hm ?h0 ?hhi ?hx ?_; (case N => k_asm); (case hm => k_mem); (case h0 => with_reducible assumption); (case hhi => with_reducible assumption); (case hx => with_reducible assumption)) | (refine' my_item ?N ?hm ?h0 ?hhi ?hx ?_; (case N => k_asm); (case hm => k_mem); (case h0 => decide); (case hhi => decide); (case hx => rfl)))))
  k_with "exec For Name Call cons nil" => (refine Stop.intro ?_)
  k_with "call ref" => ((k_here; k_dflt (refine' call_cls ?k1 ?k2 ?k3 ?k4 ?k5 ?k6 ?_; (case k1 => k_asm); (case k2 => k_asm); (case k3 => k_asm); (case k4 => k_is); (case k5 => k_is); (case k6 => k_is); k_whole; intro xz9 dz9 hz9 Fz9 Nz9 l1z9 l2z9; (try k_lt l1z9); (try k_lt2 l2z9); (try k_sweep); (refine' code_def ?k1 ?k2 ?k3 ?k4 ?k5 ?kA ?kF ?kK ?k6 ?k7 ?k8 ?k9 ?kB ?_ ?c2 ?c3 ?c4 ?c5; (case kA => exact rfl); (case kF => exact rfl); (case kK => first | exact rfl | assumption); (case k1 => k_asm); (case k2 => k_asm); (case k3 => k_asm); (case k4 => k_asm); (case k5 => k_asm); (case k6 => k_is); (case k7 => k_is); (case k8 => ktr_room); (case k9 => exact BindsTo.of_eq rfl); (case c5 => decide); (case kB => exact locs rfl); (case c2 => exact rfl); (case c3 => exact rfl); (case c4 => exact rfl); k_whole; intro gz9 Lz9 hz9 FGz9 Fz9 Nz9 Bz9 Xz9 Tz9; (try dsimp only); (try k_fold)))))
  k_with "CompSrc" => ((k_here; k_dflt (first
  | (refine LCg.CompSrc.ledger (by rfl) (by k_asm) (by k_asm) (by k_mem) (by first | size_fits | exact Nat.le_of_ble_eq_true rfl) ?_; intro gz9; lcg_lit)
  | (refine LCg.CompSrc.range (by rfl) (by k_asm) (by k_asm) (by assumption) (by first | decide | rfl) (by first | rfl | decide) (by first | size_fits | exact Nat.le_of_ble_eq_true rfl) ?_; intro gz9; lcg_lit))))
  k_with "call ref" => ((k_here; (with_reducible show wpAny _ _ (call (Value.ref 63) _) _ _ _); k_dflt (refine wpAny_call ?_; (refine' code_def ?k1 ?k2 ?k3 ?k4 ?k5 ?kA ?kF ?kK ?k6 ?k7 ?k8 ?k9 ?kB ?_ ?c2 ?c3 ?c4 ?c5; (case kA => exact rfl); (case kF => exact rfl); (case kK => first | exact rfl | assumption); (case k1 => k_asm); (case k2 => k_asm); (case k3 => k_asm); (case k4 => k_asm); (case k5 => k_asm); (case k6 => k_is); (case k7 => k_is); (case k8 => ktr_room); (case k9 => exact BindsTo.of_eq rfl); (case c5 => decide); (case kB => exact locs rfl); (case c2 => exact rfl); (case c3 => exact rfl); (case c4 => exact rfl); k_whole; intro gz9 Lz9 hz9 FGz9 Fz9 Nz9 Bz9 Xz9 Tz9; (try dsimp only); (try k_fold)))))
  k_with "lcg_off" => (first | exact True.intro | assumption | (refine And.intro ⟨by lcg_off, by lcg_off, by lcg_off⟩ ?_; lcg_off) | k_ne)
  k_with "CompEnd" => (lcg_end)
  k_with "KdnMade" => ((k_here; k_dflt (refine' kdn_made_str ?F ?N ?U ?d ?k ?n ?_; (case F => k_asm); (case N => k_asm); (case d => k_asm); (case U => k_updF); (case k => rfl); (case n => exact of_decide_eq_true (by first | rfl | kernel_rfl!)); intro hz9 oz9 Fz9 Nz9 hdz9); (try dsimp only at Nz9)))
  k_with "call builtin:len" => ((k_here; (with_reducible show wpAny _ _ (call (Value.builtin "len") [Value.ref _]) _ _ _); k_dflt (refine my_len (by k_asm) (by k_mem) (by first | assumption | omega | (simp only [List.length_map, List.length_append, List.length_cons, List.length_nil]; omega)) ?_); intro t9z9 tk9z9))
  k_with "tb_rel" => (exact allLt_trans (by assumption) (by assumption : _ ∧ _ ∧ AllLt _ _).2.2)
  k_with "call ref" => ((k_here; (with_reducible show wpAny _ _ (call (Value.ref 202) _) _ _ _); k_dflt (refine wpAny_call ?_; (refine' code_def ?k1 ?k2 ?k3 ?k4 ?k5 ?kA ?kF ?kK ?k6 ?k7 ?k8 ?k9 ?kB ?_ ?c2 ?c3 ?c4 ?c5; (case kA => exact rfl); (case kF => exact rfl); (case kK => first | exact rfl | assumption); (case k1 => k_asm); (case k2 => k_asm); (case k3 => k_asm); (case k4 => k_asm); (case k5 => k_asm); (case k6 => k_is); (case k7 => k_is); (case k8 => ktr_room); (case k9 => first | exact BindsTo.of_eq rfl | exact binds_K (by k_in) rfl (by k_is) rfl rfl rfl); (case c5 => decide); (case kB => exact locs rfl); (case c2 => exact rfl); (case c3 => exact rfl); (case c4 => exact rfl); k_whole; intro gz9 Lz9 hz9 FGz9 Fz9 Nz9 Bz9 Xz9 Tz9; (try dsimp only); (try k_fold)))))
  k_with "getMethod type:Exception" => ((k_here; refine' method_type ?F ?X ?m (by decide +kernel) ?e ?h ?_; (case F => k_asm); (case X => k_asm); (case m => kernel_rfl); (case e => k_dflt k_is); (case h => k_handed)))
  k_with "call builtin:Exception.__init__" => (refine Stop.intro ?_)
  k_with "setAttr ref" => (refine Stop.intro ?_)
  exact ⟨rfl, rfl⟩
def faultMro : List Value := [.ref 205, .type "Exception", .type "BaseException", .type "object"]
set_option maxRecDepth 100000 in
theorem fault_in {w : World} : exIn (Mine.hd.heap_39 w.params) 225 faultMro = true := by kernel_rfl
def cdIn (K : Frag) (C : Addr) (bm : List Value) : Bool := match clsIn K C with
  | some cd => cd.hasDict && (cd.mro == .ref C :: bm)
  | none => false
set_option maxRecDepth 100000 in
theorem fault_cdIn {w : World} : cdIn (Mine.hd.heap_39 w.params) 225 faultMro = true := by kernel_rfl
theorem fault_cd {w : World} : ∃ cd, clsIn (Mine.hd.heap_39 w.params) 225 = some cd ∧ cd.hasDict = true ∧ ∀ x, refuseLoop (.ref x) "__setattr__" cd.mro = pure () := by
  have h := fault_cdIn (w := w)
  unfold cdIn at h
  split at h
  · rename_i cd e
    simp only [Bool.and_eq_true, beq_iff_eq] at h
    refine ⟨cd, e, h.1, fun x => ?_⟩
    rw [h.2, refuseLoop_ref]
    unfold faultMro
    rw [refuseLoop_ref]
    exact PySem.F.store_Exception.passes (.ref x)
  · cases h
theorem own_e {e t : Addr} {o : Obj} {l : List (Addr × Obj)} (h : t < e) (hl : ∀ p ∈ l, p.1 < t) : OwnOff ((t, o) :: l) [e] := fun p hp b hb => by
  rw [List.mem_singleton.mp hb]
  rcases List.mem_cons.mp hp with rfl | hp
  · exact Nat.ne_of_lt h
  · exact Nat.ne_of_lt (Nat.lt_trans (hl p hp) h)
theorem own_u {e t t' : Addr} {o o' : Obj} {l : List (Addr × Obj)} (h : t < e) (hl : ∀ p ∈ l, p.1 < t) (h' : e < t') : OwnOff ((t', o') :: (t, o) :: l) [e] := fun p hp b hb => by
  rcases List.mem_cons.mp hp with rfl | hp
  · rw [List.mem_singleton.mp hb]; exact Nat.ne_of_gt h'
  · exact own_e h hl p hp b hb
theorem own_d {d : Addr} {l : List (Addr × Obj)} (h : ∀ p ∈ l, p.1 < d) : OwnOff l [d] := fun p hp b hb => by
  rw [List.mem_singleton.mp hb]; exact Nat.ne_of_lt (h p hp)
theorem fault_end {h₀ h : Heap} {L e d t' t : Addr} {oe od ot' ot : Obj} {news : List (Addr × Obj)} (kN : News h₀ L h ((e, oe) :: (d, od) :: (t', ot') :: (t, ot) :: news)) (l1 : ∀ p ∈ news, p.1 < t) (l2 : t < e) (l3 : ∀ p ∈ (t, ot) :: news, p.1 < t') (l4 : e < t') (l5 : ∀ p ∈ (t', ot') :: (t, ot) :: news, p.1 < d) (l6 : e < d) :
    News h₀ L h ((e, oe) :: (t', ot') :: (d, od) :: ([(t, ot)] ++ news)) ∧ ∀ q ∈ (d, od) :: ([(t, ot)] ++ news), q.1 ≠ e ∧ q.1 ≠ t' := by
  refine ⟨fun p hp => kN p ?_, fun q hq => ?_⟩
  · simp only [List.mem_cons, List.mem_append, List.not_mem_nil, or_false] at hp ⊢
    rcases hp with h | h | h | h | h <;> simp [h]
  · simp only [List.mem_cons, List.mem_append, List.not_mem_nil, or_false] at hq
    rcases hq with rfl | rfl | hq
    · exact ⟨Nat.ne_of_gt l6, Nat.ne_of_gt (l5 _ (.head _))⟩
    · exact ⟨Nat.ne_of_lt l2, Nat.ne_of_lt (l3 _ (.head _))⟩
    · exact ⟨Nat.ne_of_lt (Nat.lt_trans (l1 q hq) l2), Nat.ne_of_lt (l3 _ (.tail _ hq))⟩
set_option maxRecDepth 100000 in
set_option maxHeartbeats 8000000 in
theorem fault_rule {prog : Program} {w : World} {p : Program} {loose : List Str} {mean : ExcName → Option Value} {mg mb : Str → Option Value}
  {dp un : Nat} {gd : Option (List Code)} {cn : Str} {cs : Scope} {a : Addr} {ccd : Value} {cl : List (Str × Addr)} {outer : List Env} {A₀ : Around} {base h₀ : Heap} {L : Addr} {m : Str → Option Value} {s : Shared} {Q E : Value → Shared → Prop}
  {news : List (Addr × Obj)} {kd ms : Str} {tkd tms : Tok}
  (B : Below A₀ base outer h₀) (F : Fr h₀ L s.heap m) (X : (Mine.hd.heap_39 w.params).In h₀) (T : Top p loose mean mg mb h₀) (hk : cs.kind = .function) (hdp : dp + 20 < recursionLimit) (hun : un + 100 < cLine) (N : News h₀ L s.heap news)
  (hret : ∀ e d t ents n fresh h' tk', Fr h₀ L h' m → News h₀ L h' ((e, excObj 225 (some d) t) :: (t, { cls := .type "tuple", data := .seq [Value.str ms tms].toArray }) :: (d, dictOf ents n) :: (fresh ++ news)) → getL (Str.ofString "kind") ents = some (some (.str kd tkd)) →
    (∀ q ∈ (d, dictOf ents n) :: (fresh ++ news), q.1 ≠ e ∧ q.1 ≠ t) → Q (.ref e) { s with heap := h', toks := tk' }) :
  wpAny (model prog w) (ktrTop dp un gd cn cs L a ccd cl outer) (call (.ref 225) [.str kd tkd, .str ms tms]) Q E s := by
  obtain ⟨cd, hcd1, hcd2, hcd3⟩ := fault_cd (w := w)
  refine wpAny_call ?_
  k_dflt refine exc_make (K := Mine.hd.heap_39 w.params) (bm := faultMro) (fI := 222) F N (X.keeps F.keep) fault_in (by decide) (by decide) (by decide) (by k_is) (by k_is) (by k_is) (by k_is) (Nat.le_of_ble_eq_true rfl) ?_
  intro e t h' F' N' l1 l2
  (refine' code_def ?k1 ?k2 ?k3 ?k4 ?k5 ?kA ?kF ?kK ?k6 ?k7 ?k8 ?k9 ?kB ?_ ?c2 ?c3 ?c4 ?c5; (case kA => exact rfl); (case kF => exact rfl); (case kK => first | exact rfl | assumption); (case k1 => k_asm); (case k2 => k_asm); (case k3 => k_asm); (case k4 => k_asm); (case k5 => k_asm); (case k6 => k_is); (case k7 => k_is); (case k8 => ktr_room); (case k9 => exact BindsTo.of_eq rfl); (case c5 => decide); (case kB => exact locs rfl); (case c2 => exact rfl); (case c3 => exact rfl); (case c4 => exact rfl); k_whole; intro g' L' h' FG' F' N' B' X' T'; (try dsimp only); (try k_fold))
  k_steps
  with_reducible refine Stop.out ?_
  rename News _ _ _ _ => qN
  k_dflt refine exc_init (K := Mine.hd.heap_39 w.params) (bm := faultMro) (by k_asm) (by k_asm) qN (own_e l2 l1) fault_in (by decide) (Nat.le_of_ble_eq_true rfl) ?_
  intro t' h2 F2 N2 l3 l4
  k_steps
  with_reducible refine Stop.out ?_
  k_dflt refine exc_set0 (K := Mine.hd.heap_39 w.params) (by k_asm) (by k_asm) N2 (own_u l2 l1 l4) (by k_is) hcd1 hcd2 (hcd3 e) (by first | k_is | kernel_rfl) (by k_is) (by k_put) (Nat.le_of_ble_eq_true rfl) ?_
  intro d h3 F3 N3 l5 l6
  k_steps
  with_reducible refine Stop.out ?_
  k_dflt refine exc_set (K := Mine.hd.heap_39 w.params) (by k_asm) (by k_asm) N3 (own_d l5) (Nat.ne_of_lt l6) (by k_is) hcd1 hcd2 (hcd3 e) (by first | k_is | kernel_rfl) (by k_is) rfl (by k_put) (Nat.le_of_ble_eq_true rfl) ?_
  intro h4 F4 N4
  k_steps
  with_reducible refine Stop.out ?_
  rename News _ _ _ _ => qN5
  k_dflt refine exc_set (K := Mine.hd.heap_39 w.params) (by k_asm) (by k_asm) qN5 (own_d l5) (Nat.ne_of_lt l6) (by k_is) hcd1 hcd2 (hcd3 e) (by first | k_is | kernel_rfl) (by k_is) rfl (by k_put) (Nat.le_of_ble_eq_true rfl) ?_
  intro h5 F5 N5
  k_steps
  rename News h₀ L _ _ => kN
  obtain ⟨NN, oo⟩ := fault_end kN l1 l2 l3 l4 l5 l6
  exact hret _ _ _ _ _ _ _ _ (by assumption) NN rfl oo
section
variable {prog : Program} {w : World} {A : Around} {E : Value → Shared → Prop} {s : Shared} {env : Env} {K : Frag} {C : Addr} {bm : List Value} {Q : Flow → Shared → Prop}
theorem exc_raiseStmt {x : Sem Value} (hx : exIn K C bm = true) (hbase : bm.contains (.type "BaseException") = true) (hh : A.handled = none)
    (h : wpAny (model prog w) A x (fun v s₁ => ∃ e d t, v = .ref e ∧ K.In s₁.heap ∧ s₁.heap.get? e = some (excObj C d t) ∧ E (.ref e) s₁) E s) : wpAny (model prog w) A (raiseStmt env (some x) none) Q E s := by
  have hcB : (Value.ref C :: bm).contains (.type "BaseException") = true := by rw [List.contains_cons, hbase, Bool.or_true]
  unfold raiseStmt
  refine wpAny_bind (wpAny_mono h (fun v s₁ h₁ => ?_) fun _ _ x => x)
  obtain ⟨e, d, t, rfl, X, he, hE⟩ := h₁
  obtain ⟨nm, q, N', bs, hdct, sn, sub, ab, col, dd, k0, k1, k2, k3, k5, hC⟩ := ex_obj X hx
  obtain ⟨hp, g, dr, tk, os⟩ := s₁
  repeat (first | with_reducible refine wpAny_loadPart_at he ?_ | with_reducible refine wpAny_loadPart_at hC ?_ | (with_reducible refine wpAny_isSubtype_exc hC ?_; rw [hcB]) | wp_step)
  exact wpAny_raiseNew_none hh hE
theorem exc_Raise {xe : Expr} {pos : Pos} (hx : exIn K C bm = true) (hbase : bm.contains (.type "BaseException") = true) (hh : A.handled = none)
    (h : wpAny (model prog w) A (eval xe env) (fun v s₁ => ∃ e d t, v = .ref e ∧ K.In s₁.heap ∧ s₁.heap.get? e = some (excObj C d t) ∧ E (.ref e) s₁) E s) : wpAny (model prog w) A (exec (.Raise (some xe) none pos) env) Q E s := by
  rw [arm_exec_Raise]
  simp only [evalOpt, Option.map]
  refine wpAny_bind (wpAny_standAt (exc_raiseStmt hx hbase hh ?_))
  exact wpAny_bind (wpAny_mono h (fun v s₃ h₃ => wpAny_bind (wpAny_standAt (wpAny_pure h₃))) fun _ _ x => x)
end
theorem fill_P27 : Challenge.rw_xm0171_01 = Challenge.rw_xm0171_01 ∧ Mine.hd.heap_39 = Mine.hd.heap_39 := by
  k_fill
  w_top off
  k_with "call ref" => ((k_here; (with_reducible show wpAny _ _ (call (Value.ref 281) _) _ _ _); k_dflt (refine wpAny_call ?_; (refine' code_def ?k1 ?k2 ?k3 ?k4 ?k5 ?kA ?kF ?kK ?k6 ?k7 ?k8 ?k9 ?kB ?_ ?c2 ?c3 ?c4 ?c5; (case kA => exact rfl); (case kF => exact rfl); (case kK => first | exact rfl | assumption); (case k1 => k_asm); (case k2 => k_asm); (case k3 => k_asm); (case k4 => k_asm); (case k5 => k_asm); (case k6 => k_is); (case k7 => k_is); (case k8 => ktr_room); (case k9 => first | exact BindsTo.of_eq rfl | exact binds_K (by k_in) rfl (by k_is) rfl rfl rfl); (case c5 => decide); (case kB => exact locs rfl); (case c2 => exact rfl); (case c3 => exact rfl); (case c4 => exact rfl); k_whole; intro gz9 Lz9 hz9 FGz9 Fz9 Nz9 Bz9 Xz9 Tz9; (try dsimp only); (try k_fold)))))
  k_with "call ref" => ((k_here; (with_reducible show wpAny _ _ (call (Value.ref 225) _) _ _ _); refine Stop.intro ?_))
  k_with "exec Raise some none" => (refine Stop.intro ?_)
  k_with "noteFrame ref" => (refine Stop.intro ?_)
  k_with "leaving ref" => (refine Stop.intro ?_)
  k_with "getAttr ref" => (((have hmm9z9 : Mark := (by assumption)); refine Stop.intro ?_))
  exact ⟨rfl, rfl⟩
set_option maxRecDepth 100000 in
set_option maxHeartbeats 8000000 in
theorem refused_rule {prog : Program} {w : World} {p : Program} {loose : List Str} {mean : ExcName → Option Value} {mg mb : Str → Option Value}
  {dp un : Nat} {gd : Option (List Code)} {cn : Str} {cs : Scope} {a : Addr} {ccd : Value} {cl : List (Str × Addr)} {outer : List Env} {A₀ : Around} {base h₀ : Heap} {L : Addr} {m : Str → Option Value} {s : Shared} {Q E : Value → Shared → Prop}
  {news : List (Addr × Obj)} {rt rd ch al : Addr} {ot : OneTok} {here : Value} {prs : List PRow} {na : Nat} {k : Int} {tkk : Tok}
  (B : Below A₀ base outer h₀) (F : Fr h₀ L s.heap m) (X : (Mine.hd.heap_39 w.params).In h₀) (T : Top p loose mean mg mb h₀) (hk : cs.kind = .function) (hdp : dp + 40 < recursionLimit) (hun : un + 400 < cLine) (XB : (Mine.hd.heap_39 w.params).In base) (TB : Top p loose mean mg mb base) (DD : KtsDicts (outer.filterMap (·.frame)) h₀) (N : News h₀ L s.heap news) (hrt : (rt, instObj 284 rd) ∈ news) (hrd : (rd, rtDict ot ch al here) ∈ news) (hal : (al, listOf (prefs prs).toArray na) ∈ news) (hp : PRsIn prs news) (k0 : 0 ≤ k) (k1 : k < (prs.length : Int)) (hlen : prs.length ≤ 10)
  (hret : ∀ h' tk', Back A₀ base outer (Mine.hd.heap_39 w.params) p loose mean mg mb h₀ L m news h' → Q (.bool true) { s with heap := h', toks := tk' }) :
  wpAny (model prog w) (ktrTop dp un gd cn cs L a ccd cl outer) (call (.ref 361) [.ref rt, .int k tkk]) Q E s := by
  obtain ⟨r, g1, g2, g3, g4⟩ := at_prs hp k0 k1
  have khi : k < 2 ^ 63 := by omega
  refine wpAny_call ?_
  k_dflt (refine' code_turn ?k1 ?k2 ?k3 ?k4 ?k5 ?x1 ?x2 ?x3 ?kA ?kF ?kK ?k6 ?k7 ?k8 ?k9 ?kB ?_ ?c2 ?c3 ?c4 ?c5; (case kA => exact rfl); (case kF => exact rfl); (case kK => assumption); (case k1 => k_asm); (case k2 => k_asm); (case k3 => k_asm); (case k4 => k_asm); (case k5 => k_asm); (case x1 => exact XB); (case x2 => exact TB); (case x3 => exact DD); (case k6 => k_is); (case k7 => k_is); (case k8 => ktr_room); (case k9 => exact BindsTo.of_eq rfl); (case kB => exact locs rfl); (case c2 => exact rfl); (case c3 => exact rfl); (case c4 => exact rfl); (case c5 => decide); k_whole; intro g' L' h' F' N' B' X' T' D' back; (try dsimp only); (try k_fold))
  k_steps
  with_reducible refine Stop.out ?_
  k_dflt refine exc_Raise (K := Mine.hd.heap_39 w.params) (C := 225) (bm := faultMro) fault_in (by decide) rfl ?_
  k_steps
  with_reducible refine Stop.out ?_
  rename News _ _ _ _ => qN
  rename Fr _ _ _ _ => qF
  k_dflt refine fault_rule (by k_asm) qF (by k_asm) (by k_asm) (by first | exact rfl | assumption) (by ktr_room) (by ktr_units) qN ?_
  intro e d t ents n fresh h tk F2 N2 gk oo
  rename Frag.In _ _ => qX
  refine ⟨e, some d, t, rfl, qX.keeps F2.keep, (N2 _ (.head _)).1, ?_⟩
  k_steps
  with_reducible refine Stop.out ?_
  rename Below _ _ _ _ => qB
  rename Fr g' L' _ _ => qFG
  refine exc_leave (C := 225) qB F2 N2 oo (fun h₃ R₃ hd₃ up₃ => ?_)
  refine exc_caught (KF := Mine.hd.heap_39 w.params) (C := 225) (g₀ := g') R₃ hd₃ qFG B' up₃ XB TB D' KtsTurn.refl ?ex ?qq ?_
  case ex => k_is
  case qq => first | k_is | kernel_rfl
  intro h₉ g₉ oe tk₉ T₉ F₉ N₉ c1 c2 c3 K₉ X₉ P₉ D₉
  obtain ⟨ws, c3⟩ := c3
  have hMark : Mark := Mark.intro
  clear qFG F2 N2 oo qB qX qN qF R₃
  k_steps
  with_reducible refine Stop.out ?_
  k_dflt refine exc_get (K := Mine.hd.heap_39 w.params) (C := 225) (ox := oe) (od := some (dictOf ents n)) (X₉.keeps F₉.keep) ⟨(N₉ _ (.head _)).1, c1, (by unfold notCls; rw [c3]), (by rw [c2]; exact (N₉ _ (.tail _ (.head _))).1)⟩ (by first | k_is | kernel_rfl) (by first | k_is | kernel_rfl) (by first | k_is | kernel_rfl) (findObj_own (attr := none) (by first | k_is | kernel_rfl) (by first | k_is | kernel_rfl) rfl (by rw [lookIn_dict, gk])) rfl ?_
  clear hMark
  k_steps
  rename News _ _ _ _ => qN
  rename Fr _ _ _ _ => qF
  have hrd : (Str.ofString "reader" == Str.ofString "reader") = true := by decide
  rw [hrd]
  refine hret _ _ (back { s with heap := _ } _ _ _ T₉ qF ?_)
  exact News.sub qN (fun p hp => by simp only [List.mem_cons, List.mem_append]; first | exact .inr (.inr (.inr hp)) | exact .inr (.inr (.inr (.inr hp))))
/-- the objects of the frames behind, as the ground has them -/
def fobjs (fs : List Addr) (g : Heap) : List (Addr × Obj) := fs.filterMap fun b => (g.get? b).map fun o => (b, o)
theorem mem_fobjs {fs : List Addr} {g : Heap} {b : Addr} {o : Obj} (hb : b ∈ fs) (e : g.get? b = some o) : (b, o) ∈ fobjs fs g := List.mem_filterMap.mpr ⟨b, hb, by rw [e]; rfl⟩
theorem of_fobjs {fs : List Addr} {g : Heap} {p : Addr × Obj} (hp : p ∈ fobjs fs g) : p.1 ∈ fs ∧ g.get? p.1 = some p.2 := by
  obtain ⟨b, hb, e⟩ := List.mem_filterMap.mp hp
  cases q : g.get? b with
  | none => rw [q] at e; cases e
  | some o => rw [q] at e; cases e; exact ⟨hb, q⟩
section
variable {fs : List Addr} {g g₂ h : Heap} {L : Addr} {m : Str → Option Value} {core : List (Addr × Obj)}
theorem core_none (T : KtsTurn fs g g₂) (N : News g₂ L h core) : ∀ p ∈ core, g.get? p.1 = none := fun p hp => by
  cases q : g.get? p.1 with
  | none => rfl
  | some o =>
    obtain ⟨sl, e⟩ := T.up q
    have := (N p hp).2.2
    rw [e] at this
    cases this
theorem weak_in (T : KtsTurn fs g g₂) (F : Fr g₂ L h m) (N : News g₂ L h core) : Fr (hideAll g fs) L h m ∧ News (hideAll g fs) L h (core ++ fobjs fs g₂) := by
  refine ⟨⟨F.ns, fun b o e => ?_, ?_⟩, fun p hp => ?_⟩
  · exact F.keep b o (T.other b o (of_hideAll _ e) fun hm => by rw [hideAll_none _ hm] at e; cases e)
  · rw [hideAll_size, ← T.size]; exact F.above
  · rcases List.mem_append.mp hp with hp | hp
    · refine ⟨(N p hp).1, (N p hp).2.1, ?_⟩
      cases q : (hideAll g fs).get? p.1 with
      | none => rfl
      | some o => have := core_none T N p hp; rw [of_hideAll _ q] at this; cases this
    · obtain ⟨h1, h2⟩ := of_fobjs hp
      exact ⟨F.keep _ _ h2, (fun e => by rw [e, kts_self F] at h2; cases h2), hideAll_none _ h1⟩
theorem weak_out (T : KtsTurn fs g g₂) (F : Fr (hideAll g fs) L h m) (N : News (hideAll g fs) L h (core ++ fobjs fs g₂)) (c : ∀ p ∈ core, g.get? p.1 = none) : Fr g₂ L h m ∧ News g₂ L h core := by
  refine ⟨⟨F.ns, fun b o e => ?_, ?_⟩, fun p hp => ?_⟩
  · by_cases hb : b ∈ fs
    · exact (N _ (List.mem_append_right _ (mem_fobjs hb e))).1
    · cases q : g.get? b with
      | none => rw [T.none_ _ q] at e; cases e
      | some o' =>
        have e' := T.other b o' q hb
        rw [e] at e'
        cases e'
        exact F.keep b o (hideAll_get _ q hb)
  · rw [T.size, ← hideAll_size fs g]; exact F.above
  · have Np := N p (List.mem_append_left _ hp)
    exact ⟨Np.1, Np.2.1, T.none_ _ (c p hp)⟩
def RuK (fs : List Addr) (g : Heap) (J : (Str → Option Value) → List (Addr × Obj) → Prop) (m : Str → Option Value) (news : List (Addr × Obj)) : Prop :=
  ∃ g₂ core, KtsTurn fs g g₂ ∧ news = core ++ fobjs fs g₂ ∧ (∀ p ∈ core, g.get? p.1 = none) ∧ J m core
theorem weak_end {g₃ : Heap} {s₁ s₂ : Shared} {I : Addr} {it : Obj} {J : (Str → Option Value) → List (Addr × Obj) → Prop} (T : KtsTurn fs g g₃) (u : UnrEnd g₃ L s₁ I it J s₂) : UnrEnd (hideAll g fs) L s₁ I it (RuK fs g J) s₂ := by
  obtain ⟨h', tk, m', news', e, F1, N1, ho, j⟩ := u
  obtain ⟨F2, N2⟩ := weak_in T F1 N1
  refine ⟨h', tk, m', news' ++ fobjs fs g₃, e, F2, N2, fun p hp => ?_, g₃, news', T, rfl, fun p hp => core_none T N1 p (.tail _ hp), j⟩
  rcases List.mem_append.mp hp with hp | hp
  · exact ho p hp
  · intro q
    have h1 := (of_fobjs hp).2
    rw [q, (N1 _ (.head _)).2.2] at h1
    cases h1
end
theorem weak_fr {base : Heap} {A : Around} {outer : List Env} {L : Addr} {m : Str → Option Value} {g h : Heap} {news : List (Addr × Obj)} (_B : Below A base outer g) (F : Fr g L h m) (N : News g L h news) : Fr (hideAll g (outer.filterMap (·.frame))) L h m := (weak_in KtsTurn.refl F N).1
theorem dicts_inB {base : Heap} {A : Around} {env : Env} {outer : List Env} {L : Addr} {m : Str → Option Value} {h₀ g : Heap} (_B : Below A base (env :: outer) g) (D : KtsDicts (outer.filterMap (·.frame)) h₀) (hf : env.frame = some L) (F : Fr h₀ L g m) : KtsDicts ((env :: outer).filterMap (·.frame)) g := dicts_in D hf F
theorem RuK.elim {fs : List Addr} {g : Heap} {J : (Str → Option Value) → List (Addr × Obj) → Prop} {m : Str → Option Value} {news : List (Addr × Obj)} {P : (Str → Option Value) → List (Addr × Obj) → Prop} (h : RuK fs g J m news) (k : ∀ g₂ core, KtsTurn fs g g₂ → (∀ p ∈ core, g.get? p.1 = none) → J m core → P m (core ++ fobjs fs g₂)) : P m news := by
  obtain ⟨g₂, core, T, rfl, cn, j⟩ := h
  exact k g₂ core T cn j
section
variable {prog : Program} {w : World} {A A₀ : Around} {E : Value → Shared → Prop} {s : Shared} {env : Env} {g base : Heap} {x : Str} {body : List Stmt} {Q : Flow → Shared → Prop} {outer : List Env}
  {K : Frag} {p : Program} {loose : List Str} {mean : ExcName → Option Value} {mg mb : Str → Option Value}
theorem ru_loop2 {r rd al cd rdy ch rw : Addr} {ot : OneTok} {ct : ChTok} {oal ordy : Obj} {prs : List PRow} {keep : List (Addr × Obj)} {xp xt : Str} {t₀ u₀ v₀ tkt tt : Tok} {m₀ : Str → Option Value} {here : Value}
    (hh : A.handled = none) (hr : IsRange s.heap r 0 4 1 t₀ u₀ v₀) (F : Fr g env.locals s.heap m₀) (N : News g env.locals s.heap ((rd, rtDict ot ch al here) :: (al, oal) :: (cd, coDict ct rw 0 tt) :: (rdy, ordy) :: keep))
    (D : Four rd al cd rdy keep) (hx : m₀ xt = some (.int 0 tkt)) (hH : ∃ r ∈ prs, here = .ref r.x) (hP : PRsIn prs keep)
    (B : Below A₀ base outer g) (XB : K.In base) (TB : Top p loose mean mg mb base) (DD : KtsDicts (outer.filterMap (·.frame)) g)
    (turn : ∀ g₂, KtsTurn (outer.filterMap (·.frame)) g g₂ → Below A₀ base outer g₂ → K.In g₂ → Top p loose mean mg mb g₂ → KtsDicts (outer.filterMap (·.frame)) g₂ →
      ∀ I (i : Nat) t it here v2 tkn tkt tt pool h tk, i < 4 → it.cls = .type "range_iterator" → (I, it) ∈ pool → (∀ p ∈ keep, p.1 ≠ I) → Four rd al cd rdy pool → 0 ≤ tkn → tkn ≤ (i : Int) → (∃ r ∈ prs, here = .ref r.x) → PRsIn prs pool → (∀ p ∈ keep, p ∈ pool) →
      Fr g₂ env.locals h (fun y => if y = x then some (.int (0 + (i : Int)) t) else if y = xp then v2 else if y = xt then some (.int tkn tkt) else m₀ y) → News g₂ env.locals h ((rd, rtDict ot ch al here) :: (al, oal) :: (cd, coDict ct rw tkn tt) :: (rdy, ordy) :: pool) →
      wpAny (model prog w) A (execs body env) (UnrPost (hideAll g (outer.filterMap (·.frame))) env.locals { s with heap := h, toks := tk } I it (RuK (outer.filterMap (·.frame)) g (RuJ rd al cd rdy ch rw ot ct oal ordy prs keep m₀ x xp xt I (i + 1))) Q) E { s with heap := h, toks := tk })
    (done : ∀ g₂, KtsTurn (outer.filterMap (·.frame)) g g₂ → Below A₀ base outer g₂ → K.In g₂ → Top p loose mean mg mb g₂ → KtsDicts (outer.filterMap (·.frame)) g₂ → ∀ v v2 tkn tkt here tt pool h tk, (∃ r ∈ prs, here = .ref r.x) → PRsIn prs pool → (∀ p ∈ keep, p ∈ pool) →
      Fr g₂ env.locals h (fun y => if y = x then v else if y = xp then v2 else if y = xt then some (.int tkn tkt) else m₀ y) → News g₂ env.locals h ((rd, rtDict ot ch al here) :: (al, oal) :: (cd, coDict ct rw tkn tt) :: (rdy, ordy) :: pool) → Q .next { s with heap := h, toks := tk }) :
    wpAny (model prog w) A (pyIter (.ref r)) (fun it s₂ => LoopAtV prog w A (hideAll g (outer.filterMap (·.frame))) env x body Q E it s₂) E s := by
  obtain ⟨FW, NW⟩ := weak_in (KtsTurn.refl (fs := outer.filterMap (·.frame))) F N
  refine iter_rangeJ (n := 4) (fun I i m news => RuK (outer.filterMap (·.frame)) g (RuJ rd al cd rdy ch rw ot ct oal ordy prs keep m₀ x xp xt I i) m news ∧ (∀ p ∈ keep, p.1 ≠ I) ∧ I ∉ outer.filterMap (·.frame)) hh hr (small_one (by omega) (by omega) (by omega) (by omega)) (rangeSize_nat _ _) FW NW (fun I hI => ?_) ?_ ?_
  · refine ⟨⟨g, _, KtsTurn.refl, rfl, fun p hp => (N p hp).2.2, m₀ x, m₀ xp, 0, tkt, here, tt, keep, ?_, rfl, D, fun p hp => Nat.ne_of_lt (hI p (List.mem_append_left _ hp)), Int.le_refl _, Int.le_refl _, hH, hP, fun p hp => hp⟩, fun p hp => Nat.ne_of_lt (hI p (List.mem_append_left _ (.tail _ (.tail _ (.tail _ (.tail _ hp)))))), fun hm => ?_⟩
    · rw [← hx]
      exact (put_self (x := x)).trans (congrArg (fun q : Str → Option Value => fun y => if y = x then m₀ x else q y) ((put_self (x := xp)).trans (congrArg (fun q : Str → Option Value => fun y => if y = xp then m₀ xp else q y) (put_self (x := xt)))))
    · obtain ⟨_, o, ho, _⟩ := B.frames.mem hm
      exact Nat.lt_irrefl _ (hI _ (List.mem_append_right _ (mem_fobjs hm ho)))
  · intro I i m₁ news₁ t h tk hi hj
    refine RuK.elim (P := fun m₁ news₁ => Fr (hideAll g (outer.filterMap (·.frame))) env.locals h (fun y => if y = x then some (.int (0 + (i : Int)) t) else m₁ y) → News (hideAll g (outer.filterMap (·.frame))) env.locals h ((I, itR (0 + ((i + 1 : Nat) : Int)) (((4 : Nat) : Int) - ((i + 1 : Nat) : Int))) :: news₁) → _) hj.1 ?_
    intro g₂ core T₂ cn hr
    refine RuJ.elim (P := fun m₁ core => (∀ p ∈ core, g.get? p.1 = none) → Fr (hideAll g (outer.filterMap (·.frame))) env.locals h (fun y => if y = x then some (.int (0 + (i : Int)) t) else m₁ y) → News (hideAll g (outer.filterMap (·.frame))) env.locals h ((I, itR (0 + ((i + 1 : Nat) : Int)) (((4 : Nat) : Int) - ((i + 1 : Nat) : Int))) :: (core ++ fobjs (outer.filterMap (·.frame)) g₂)) → _) hr ?_ cn
    intro v v2 tkn tkt here tt pool D c1 g0 g1 hH hP hk cn FW' NW'
    have hIn : g.get? I = none := by
      cases q : g.get? I with
      | none => rfl
      | some o =>
        have := (NW' _ (.head _)).2.2
        rw [hideAll_get _ q hj.2.2] at this
        cases this
    obtain ⟨F', N'⟩ := weak_out (core := (I, itR (0 + ((i + 1 : Nat) : Int)) (((4 : Nat) : Int) - ((i + 1 : Nat) : Int))) :: (rd, rtDict ot ch al here) :: (al, oal) :: (cd, coDict ct rw tkn tt) :: (rdy, ordy) :: pool) T₂ (fr_put2 FW') NW' (sub_cons' hIn cn)
    have B₂ := below_turn B T₂
    exact wpAny_mono (turn g₂ T₂ B₂ (XB.keeps B₂.stays) (TB.keeps B₂.stays) (DD.turn T₂) I i t (itR (0 + ((i + 1 : Nat) : Int)) (((4 : Nat) : Int) - ((i + 1 : Nat) : Int))) here v2 tkn tkt tt _ h tk hi rfl (.head _) hj.2.1
      (D.con (nb_con (Ne.symm (c1 _ (.head _))) (nb_con (Ne.symm (c1 _ (ix_mem 1 rfl))) (nb_con (Ne.symm (c1 _ (ix_mem 2 rfl))) (nb_con (Ne.symm (c1 _ (ix_mem 3 rfl))) nb_nil))))) g0 g1 hH (hP.mono fun p hp => .tail _ hp) (fun p hp => .tail _ (hk p hp)) F' (News.sub N' (ix_subT [1, 2, 3, 4, 0] rfl rfl (ix_all 5 rfl))))
      (unrPost_imp fun _ _ j => ⟨j, hj.2⟩) fun _ _ e => e
  · intro I m₁ news₁ h tk hj
    refine RuK.elim (P := fun m₁ news₁ => Fr (hideAll g (outer.filterMap (·.frame))) env.locals h m₁ → News (hideAll g (outer.filterMap (·.frame))) env.locals h news₁ → _) hj.1 ?_
    intro g₂ core T₂ cn hr
    refine RuJ.elim (P := fun m₁ core => (∀ p ∈ core, g.get? p.1 = none) → Fr (hideAll g (outer.filterMap (·.frame))) env.locals h m₁ → News (hideAll g (outer.filterMap (·.frame))) env.locals h (core ++ fobjs (outer.filterMap (·.frame)) g₂) → _) hr ?_ cn
    intro v v2 tkn tkt here tt pool D c1 g0 g1 hH hP hk cn FW' NW'
    obtain ⟨F', N'⟩ := weak_out T₂ FW' NW' cn
    have B₂ := below_turn B T₂
    exact done g₂ T₂ B₂ (XB.keeps B₂.stays) (TB.keeps B₂.stays) (DD.turn T₂) v v2 tkn tkt here tt pool h tk hH hP hk F' N'
end
theorem pickT_bound {n tk : Int} {i : Nat} (h0 : 0 ≤ tk) (h1 : tk ≤ (i : Int)) : 0 ≤ pickT n tk ∧ pickT n tk ≤ ((i + 1 : Nat) : Int) := by
  unfold pickT
  split <;> omega
/-- the ways of the second loop's turn meet behind its second statement -/
theorem join28 {M : Model} {A : Around} {s1 s2 : Stmt} {rest : List Stmt} {env : Env} {Q : Flow → Shared → Prop} {E : Value → Shared → Prop} {s : Shared} {g₂ h : Heap} {tk : Nat} {L : Addr} {x xp xt : Str} {a v2 b : Option Value} {m₀ : Str → Option Value} {led : List (Addr × Obj)} {V T : Int}
    (_F : Fr g₂ L h (fun y => if y = x then a else if y = xp then v2 else if y = xt then b else m₀ y)) (_N : News g₂ L h led)
    (tail : ∀ tp tt h2 tk2, Fr g₂ L h2 (fun y => if y = x then a else if y = xp then some (.int V tp) else if y = xt then some (.int T tt) else m₀ y) → News g₂ L h2 led → wpAny M A (execs rest env) Q E { s with heap := h2, toks := tk2 })
    (head : Tail (fun s₂ => Stop (∃ tp tt h2 tk2 m2, s₂ = { s with heap := h2, toks := tk2 } ∧ Fr g₂ L h2 m2 ∧ News g₂ L h2 led ∧ ∀ y, m2 y = if y = x then a else if y = xp then some (.int V tp) else if y = xt then some (.int T tt) else m₀ y)) M A rest env Q E → wpAny M A (execs (s1 :: s2 :: rest) env) Q E { s with heap := h, toks := tk }) :
    wpAny M A (execs (s1 :: s2 :: rest) env) Q E { s with heap := h, toks := tk } := head fun s₂ h₂ => by
  obtain ⟨tp, tt, h2, tk2, m2, rfl, F2, N2, em⟩ := Stop.intro h₂
  have e := funext em
  exact tail tp tt h2 tk2 (e ▸ F2) N2
theorem fill_P28 : Challenge.rw_xm0171_01 = Challenge.rw_xm0171_01 ∧ Mine.hd.heap_39 = Mine.hd.heap_39 := by
  k_fill
  w_top off
  k_with_none
  k_with "gnd" => ((case u0 => k_asm); (case u1 => k_asm); (case u2 => k_asm); (case u3 => k_asm); (case u4 => first | exact rfl | assumption); (case u5 => ktr_room); (case u6 => ktr_units); (case u7 => k_asm))
  k_with "kln_le" => (first | exact ne_c rfl | exact lt_c rfl | exact ne_a rfl | exact ne_b rfl | exact ne_d (by assumption) rfl | exact ne_e (by assumption) rfl | exact lt_a (by assumption) rfl | exact ne_f (by assumption) | exact ne_f (Ne.symm (by assumption)) | exact ne_g (by assumption) rfl | exact ne_two (by assumption) (by assumption) (by assumption) | exact or5 (by assumption) (by kln_le) (by kln_le) (by kln_le) (by kln_le) (by kln_le) | omega)
  k_with "pl" => (with_reducible first | exact pl1 (by assumption) | exact pl2 (by assumption) | exact pl3 (by assumption) | exact pl4 (by assumption) | exact pl5 (by assumption) | exact pl6 (by assumption) | exact pl7 (by assumption) | exact pl8 (by assumption) | exact pl9 (by assumption) | exact pl10 (by assumption) | exact pl11 (by assumption) | exact pl12 (by assumption) | exact pl13 (by assumption) | exact pl14 (by assumption) | exact pl15 (by assumption) | exact pl16 (by assumption) | exact pl17 (by assumption) | exact pl18 (by assumption) | exact pl19 (by assumption) | exact pl20 (by assumption) | exact pl21 (by assumption) | exact pl22 (by assumption) | exact pl23 (by assumption) | exact pl24 (by assumption) | exact pl25 (by assumption) | exact pl26 (by assumption) | exact pl27 (by assumption) | exact pl28 (by assumption) | exact pl29 (by assumption) | exact pl30 (by assumption))
  k_with "pa" => (with_reducible first | exact pa1 (by assumption) | exact pa2 (by assumption) | exact pa3 (by assumption) | exact pa4 (by assumption) | exact pa5 (by assumption) | exact pa6 (by assumption) | exact pa7 (by assumption) | exact pa8 (by assumption) | exact pa9 (by assumption) | exact pa10 (by assumption) | exact pa11 (by assumption) | exact pa12 (by assumption) | exact pa13 (by assumption) | exact pa14 (by assumption) | exact pa15 (by assumption) | exact pa16 (by assumption) | exact pa17 (by assumption) | exact pa18 (by assumption) | exact pa19 (by assumption) | exact pa20 (by assumption) | exact pa21 (by assumption) | exact pa22 (by assumption) | exact pa23 (by assumption) | exact pa24 (by assumption) | exact pa25 (by assumption) | exact pa26 (by assumption) | exact pa27 (by assumption) | exact pa28 (by assumption) | exact pa29 (by assumption) | exact pa30 (by assumption))
  k_with "execs cons" => ((k_here; with_reducible first | (refine seq_start (s₀ := s) ?_; intro tkz9 qz9) | (refine seq_startS ?_; intro qz9; (try k_gentoks))))
  k_with "Seq" => ((k_here; with_reducible first | (refine seq_go (s₀ := s) ?_; intro tkz9 qz9) | (refine seq_goS ?_; intro qz9; (try k_gentoks)) | refine seq_end ?_ | refine seq_ret ?_ | refine seq_brk ?_ | refine seq_cont ?_))
  k_with "k_fold" => ((refine name_in ?_; intro e9z9 B9z9 M9z9 q9z9 x9z9))
  k_with "k_steps" => (repeat' (first | walk1 | (k_end; wrow_close) | (dsimp only; walk1) | (leave1; walk_say "STEP leave1"; try dsimp only) | (k_unfold; (try dsimp only)) | fail "no step"))
  k_with "storeName" => ((k_here; k_dflt (refine' storeLet ?F ?N ?_ ?a ?b; (case a => first | assumption | rfl); (case b => rfl); (case F => k_asm); (case N => k_asm); k_whole); intro hz9 mz9 Fz9 Nz9; (try k_sweep)))
  k_with "subscriptTail Name Constant ref int" => ((k_here; k_dflt (refine' item_tupleT ?t ?a ?b ?c ?d ?_; (case t => exact News.isTup (by k_asm) (rowsAt (by assumption) (by ktr_rel))); (case a => decide); (case b => decide); (case c => rfl); (case d => rfl))))
  k_with "kby_size" => (first | (rename ((_ ≠ _ ∧ _ ≠ _ ∧ _ ≠ _) ∧ _) => q9z9; with_reducible first | exact q9z9.1.1 | exact Ne.symm q9z9.1.1 | exact q9z9.1.2.1 | exact Ne.symm q9z9.1.2.1 | exact q9z9.1.2.2 | exact Ne.symm q9z9.1.2.2 | (replace q9z9 := q9z9.2; kby_size)) | (rename (_ ≠ _ ∧ _ ≠ _ ∧ _ ≠ _) => q9z9; with_reducible first | exact q9z9.1 | exact Ne.symm q9z9.1 | exact q9z9.2.1 | exact Ne.symm q9z9.2.1 | exact q9z9.2.2 | exact Ne.symm q9z9.2.2))
  k_with "k_ne" => (first | kby_size | (refine neN ?_; (try dsimp only); omega (config := { splitDisjunctions := false })))
  k_with "k_ne" => (first | kby_size | (refine neN (Nat.ne_of_gt ?_); k_extra "pl") | (refine neN (Nat.ne_of_lt ?_); k_extra "pl"))
  k_with "ktr_room" => (first | exact rm2 (by assumption) rfl | exact rm1 (by assumption) rfl | exact rm0 (by assumption) | exact rm3 (by assumption) rfl)
  k_with "ktr_units" => (first | exact rm2 (by assumption) rfl | exact rm1 (by assumption) rfl | exact rm0 (by assumption) | exact rm3 (by assumption) rfl)
  k_with "k_mem" => (first | assumption | exact RowsIn.at (by assumption) (by assumption))
  k_with "subscriptTail" => ((k_here; (with_reducible show wpAny _ _ (subscriptTail _ _ (Value.ref _) (Value.str _ _)) _ _ _); k_dflt (refine' kda_item (knd := PySem.strKind _ _) ?N ?hp ?hd (strKind_is _ _ _ _) ?hl ?_; (case N => k_asm); (case hp => k_mem); (case hd => k_asm); (case hl => rfl)); (try dsimp only)))
  k_with "exec For Name Subscript cons nil" => ((k_here; (rename Fr _ _ _ _ => lFz9); (with_unfolding_all refine' For_invVF lFz9 ?k1 ?k2 ?_; (case k1 => exact rfl); (case k2 => exact rfl); k_whole)))
  k_with "eval ListComp" => ((k_here; (with_reducible show wpAny _ _ (eval (Expr.ListComp _ [Comprehension.mk (Expr.Name _ _) _ [_] _] _ _) _) _ _ _); k_dflt (refine LCt.ListComp_T (F₀ := by k_asm) (by with_unfolding_all rfl) (by decide) (by rfl) (by decide) (by rfl) ?_)))
  k_with "CompSrcT" => ((k_here; k_dflt (refine LCt.CompSrcT.ledger (by rfl) (by k_asm) (by k_asm) (by k_mem) (by first | size_fits | (simp only [List.size_toArray, List.length_map, sizeLine_eq]; omega)) ?_); intro gz9))
  k_with "setItem ref str" => ((k_here; k_dflt (refine' kda_set (knd := PySem.strKind _ _) ?F ?N ?U ?d (strKind_is _ _ _ _) ?z ?_; (case F => k_asm); (case N => k_asm); (case U => k_updF); (case d => k_asm); (case z => rw [sizeLine_eq]; exact Nat.le_of_ble_eq_true (by with_unfolding_all rfl))); intro hz9 oz9 Fz9 Nz9 hdz9; (try dsimp only at Nz9)))
  k_with "is_list" => (exact News.isList (by k_asm) (by k_mem))
  k_with "ke_room" => (ktr_units)
  k_with "k_units" => (ktr_units)
  k_with "subscriptTail" => ((k_here; (with_reducible show wpAny _ _ (subscriptTail _ _ (Value.ref _) (Value.int _ _)) _ _ _); k_dflt (refine' my_item ?N ?hm ?h0 ?hhi ?hx ?_; (case N => k_asm); (case hm => k_mem); (case h0 => with_reducible assumption); (case hhi => with_reducible assumption); (case hx => with_reducible assumption))))
  k_with "ktr_rel" => (first | assumption | exact RowsIn.filter (by assumption) | (refine RowsIn.cons ?_; ktr_rel))
  k_with "ktr_unf" => (assumption)
  k_with "tb_rel" => (first | with_reducible assumption | (first | k_extra "pl" | k_extra "pa") | assumption | omega)
  k_with "tb_start" => (first | exact List.forall_mem_nil _ | (refine List.forall_mem_cons.mpr ⟨⟨by tb_rel, by tb_rel, by tb_rel⟩, ?_⟩; tb_start) | (refine List.forall_mem_cons.mpr ⟨⟨by tb_rel, by tb_rel, by tb_rel, by tb_rel⟩, ?_⟩; tb_start))
  k_with "call builtin:list.pop" => ((k_here; (try (rename News _ _ _ _ => N9pz9; simp only [List.push_toArray] at N9pz9)); k_dflt ((refine' my_pop0 ?F ?N ?U ?hi ?hne ?hz ?_); (case F => k_asm); (case N => k_asm); (case U => k_upd); (case hi => first | assumption | exact ints_snoc (by assumption)); (case hne => first | assumption | exact of_decide_eq_false (by assumption) | simp); (case hz => (try simp only [List.length_append, List.length_cons, List.length_nil]); omega)); intro t9z9 h9z9 F9z9 N9z9 hi9z9))
  k_with "call builtin:list.append" => ((k_here; (with_reducible show wpAny _ _ (call (Value.builtin _) [Value.ref _, _]) _ _ _); k_dflt (refine' append_K ?k1 ?k2 ?k3 ?_ ?z; (case k1 => k_asm); (case k2 => k_asm); (case k3 => k_upd); (case z => (simp only [List.size_toArray, List.length_tail, sizeLine_eq]; omega)); k_whole); intro hz9 Fz9 Nz9; (try simp only [List.push_toArray] at Nz9); (try k_sweep)))
  k_with "subscriptTail Name Name ref int" => ((k_here; (with_reducible show wpAny _ _ (subscriptTail _ _ (Value.ref _) (Value.int _ _)) _ _ _); k_dflt (first | (refine' my_item ?N ?hm ?h0 ?hhi ?hx ?_; (case N => k_asm); (case hm => k_mem); (case h0 => with_reducible assumption); (case hhi => with_reducible assumption); (case hx => with_reducible assumption)) | (refine' my_item ?N ?hm ?h0 ?hhi ?hx ?_; (case N => k_asm); (case hm => k_mem); (case h0 => decide); (case hhi => decide); (case hx => rfl)))))
  k_with "subscriptTail Attribute" => ((k_here; (with_reducible show wpAny _ _ (subscriptTail _ _ (Value.ref _) (Value.int _ _)) _ _ _); k_dflt (first | (refine' my_item ?N ?hm ?h0 ?hhi ?hx ?_; (case N => k_asm); (case hm => k_mem); (case h0 => with_reducible assumption); (case hhi => with_reducible assumption); (case hx => with_reducible assumption)) | (refine' my_item ?N ?hm ?h0 ?hhi ?hx ?_; (case N => k_asm); (case hm => k_mem); (case h0 => decide); (case hhi => decide); (case hx => rfl)))))
  k_with "subscriptTail Subscript" => ((k_here; (with_reducible show wpAny _ _ (subscriptTail _ _ (Value.ref _) (Value.int _ _)) _ _ _); k_dflt (first | (refine' my_item ?N ?hm ?h0 ?hhi ?hx ?_; (case N => k_asm); (case hm => k_mem); (case h0 => with_reducible assumption); (case hhi => with_reducible assumption); (case hx => with_reducible assumption)) | (refine' my_item ?N ?hm ?h0 ?hhi ?hx ?_; (case N => k_asm); (case hm => k_mem); (case h0 => decide); (case hhi => decide); (case hx => rfl)))))
  k_with "call ref" => ((k_here; guard_target =~ wpAny _ _ (call (Value.ref 302) _) _ _ _; k_dflt (refine' scoop_upd ?u0 ?u1 ?u2 ?u3 ?u4 ?u5 ?u6 ?u7 ?u8 ?u9 ?u10 ?u11 ?u12 ?u13 ?_; k_extra "gnd"; (case u8 => k_updF); (case u9 => assumption); (case u10 => assumption); (case u11 => assumption); (case u12 => first | decide | assumption | omega); (case u13 => first | decide | assumption | omega)); (intro y0 y1 y2 y3 y4 y5 y6 y7 y8 y9 y10 y11 y12 y13 yN; (try dsimp only at yN))))
  k_with "exec For Name Call cons nil" => (refine Stop.intro ?_)
  k_with "call ref" => ((k_here; k_dflt (refine' call_cls ?k1 ?k2 ?k3 ?k4 ?k5 ?k6 ?_; (case k1 => k_asm); (case k2 => k_asm); (case k3 => k_asm); (case k4 => k_is); (case k5 => k_is); (case k6 => k_is); k_whole; intro xz9 dz9 hz9 Fz9 Nz9 l1z9 l2z9; (try k_lt l1z9); (try k_lt2 l2z9); (try k_sweep); (refine' code_def ?k1 ?k2 ?k3 ?k4 ?k5 ?kA ?kF ?kK ?k6 ?k7 ?k8 ?k9 ?kB ?_ ?c2 ?c3 ?c4 ?c5; (case kA => exact rfl); (case kF => exact rfl); (case kK => first | exact rfl | assumption); (case k1 => k_asm); (case k2 => k_asm); (case k3 => k_asm); (case k4 => k_asm); (case k5 => k_asm); (case k6 => k_is); (case k7 => k_is); (case k8 => ktr_room); (case k9 => exact BindsTo.of_eq rfl); (case c5 => decide); (case kB => exact locs rfl); (case c2 => exact rfl); (case c3 => exact rfl); (case c4 => exact rfl); k_whole; intro gz9 Lz9 hz9 FGz9 Fz9 Nz9 Bz9 Xz9 Tz9; (try dsimp only); (try k_fold)))))
  k_with "CompSrc" => ((k_here; k_dflt (first
  | (refine LCg.CompSrc.ledger (by rfl) (by k_asm) (by k_asm) (by k_mem) (by first | size_fits | exact Nat.le_of_ble_eq_true rfl) ?_; intro gz9; lcg_lit)
  | (refine LCg.CompSrc.range (by rfl) (by k_asm) (by k_asm) (by assumption) (by first | decide | rfl) (by first | rfl | decide) (by first | size_fits | exact Nat.le_of_ble_eq_true rfl) ?_; intro gz9; lcg_lit))))
  k_with "call ref" => ((k_here; (with_reducible show wpAny _ _ (call (Value.ref 63) _) _ _ _); k_dflt (refine wpAny_call ?_; (refine' code_def ?k1 ?k2 ?k3 ?k4 ?k5 ?kA ?kF ?kK ?k6 ?k7 ?k8 ?k9 ?kB ?_ ?c2 ?c3 ?c4 ?c5; (case kA => exact rfl); (case kF => exact rfl); (case kK => first | exact rfl | assumption); (case k1 => k_asm); (case k2 => k_asm); (case k3 => k_asm); (case k4 => k_asm); (case k5 => k_asm); (case k6 => k_is); (case k7 => k_is); (case k8 => ktr_room); (case k9 => exact BindsTo.of_eq rfl); (case c5 => decide); (case kB => exact locs rfl); (case c2 => exact rfl); (case c3 => exact rfl); (case c4 => exact rfl); k_whole; intro gz9 Lz9 hz9 FGz9 Fz9 Nz9 Bz9 Xz9 Tz9; (try dsimp only); (try k_fold)))))
  k_with "lcg_off" => (first | exact True.intro | assumption | (refine And.intro ⟨by lcg_off, by lcg_off, by lcg_off⟩ ?_; lcg_off) | k_ne)
  k_with "CompEnd" => (lcg_end)
  k_with "KdnMade" => ((k_here; k_dflt (refine' kdn_made_str ?F ?N ?U ?d ?k ?n ?_; (case F => k_asm); (case N => k_asm); (case d => k_asm); (case U => k_updF); (case k => rfl); (case n => exact of_decide_eq_true (by first | rfl | kernel_rfl!)); intro hz9 oz9 Fz9 Nz9 hdz9); (try dsimp only at Nz9)))
  k_with "k_mem" => (assumption)
  k_with "call type:range" => ((k_here; (with_reducible show wpAny _ _ (call _ [Value.int _ _]) _ _ _); (rename Fr _ _ _ _ => lFz9); (rename News _ _ _ _ => lNz9); k_dflt (refine range1_rows lFz9 lNz9 ?_); intro _ _ _ _ _ _ _ _ _))
  k_with "pyIter ref" => (((with_reducible show wpAny _ _ (pyIter (Value.ref _)) (fun it s₂ => LoopAtV _ _ _ _ _ _ _ _ _ it s₂) _ _); refine Stop.intro ?_))
  k_with "compareOp NotEq ref ref" => (((have hmm9z9 : Mark := (by assumption)); refine Stop.intro ?_))
  k_with "compareOp Eq ref ref" => (((have hmm9z9 : Mark := (by assumption)); refine Stop.intro ?_))
  k_with "UnrEnd" => (refine Stop.intro ?_)
  k_with "call ref" => ((k_here; guard_target =~ wpAny _ _ (call (Value.ref 349) _) _ _ _; k_dflt (refine' deed_rule ?u0 ?u1 ?u2 ?u3 ?u4 ?u5 ?u6 ?u7 ?u8 ?u9 ?u10 ?u11 ?u12 ?u13 ?u14 ?u15 ?u16 ?u17 ?u18 ?u19 ?u20 ?u21 ?_; k_extra "gnd"; (case u8 => exact off_of_toff (by assumption)); (case u9 => exact pot_of_toff (by assumption)); (case u10 => assumption); (case u11 => assumption); (case u12 => assumption); (case u13 => assumption); (case u14 => assumption); (case u15 => omega); (case u16 => exact len_le (by assumption) (by omega)); (case u17 => assumption); (case u18 => assumption); (case u19 => assumption); (case u20 => omega); (case u21 => omega)); (intro ad9z9 ob9z9 pool9z9 b9z9 hs9z9 rows9z9 rows29z9 R9z9 p09z9 p19z9 t09z9 t19z9 h9z9 tk9z9 M9z9 O9z9 RC9z9 RB9z9 e19z9 e29z9 l9z9 lh9z9 q09z9 q19z9 q29z9 k9z9 F9z9 N9z9); (refine right_elim RC9z9 RB9z9 ?_; intro nw9z9 nv9z9 vs09z9 vs19z9 ws09z9 ws19z9 n09z9 n19z9 k09z9 k19z9 f1z9 f2z9 f3z9 f4z9 f5z9 f6z9 f7z9 f8z9 f9z9 g1z9 g2z9 g3z9 g4z9 g5z9 g6z9 g7z9 g8z9 i1z9 i2z9 i3z9 i4z9 j1z9 j2z9); (have kc9z9 := led_pool (ad := ad9z9) (ob := ob9z9) (k9z9 _ (by assumption))); (refine lens_elim (by assumption) lh9z9 (by assumption) i1z9 i2z9 i3z9 i4z9 ?_; intro z1z9 z2z9 z3z9 z4z9 z5z9 z6z9)))
  k_with "subscriptTail" => ((k_here; (with_reducible show wpAny _ _ (subscriptTail _ _ (Value.ref _) (Value.str _ _)) _ _ _); k_dflt (refine' kda_item (knd := PySem.strKind _ _) ?N ?hp ?hd (strKind_is _ _ _ _) ?hl ?_; (case N => k_asm); (case hp => k_mem); (case hd => k_asm); (case hl => rfl)); (try dsimp only)))
  k_with "subscriptTail" => ((k_here; (with_reducible show wpAny _ _ (subscriptTail _ _ (Value.ref _) (Value.int _ _)) _ _ _); k_dflt (refine my_item (by k_asm) (by k_mem) (by decide) (by decide) (by rfl) ?_)))
  k_with "CompEnd" => ((k_dflt (refine LCg.CompEnd.intro (by k_asm) (by k_asm) _ (fun p hp => hp) (by assumption) (by first | exact True.intro | exact Or.inr ⟨_, by k_mem, rfl, _, rfl⟩ | exact Or.inl (by assumption)) ?_)))
  k_with "call builtin:len" => ((k_here; (with_reducible show wpAny _ _ (call (Value.builtin "len") [Value.ref _]) _ _ _); k_dflt (refine my_len (by k_asm) (by k_mem) (by first | assumption | omega | (simp only [List.length_map, List.length_append, List.length_cons, List.length_nil]; omega)) ?_); intro t9z9 tk9z9))
  k_with "tb_rel" => (exact allLt_trans (by assumption) (by assumption : _ ∧ _ ∧ AllLt _ _).2.2)
  k_with "compareOp NotEq int int" => ((k_here; with_reducible refine ne_int_eq (by first | assumption | rfl) ?_))
  k_with "getMethod ref" => ((k_here; (with_reducible show wpAny _ _ (getMethod (Value.ref _) (PySem.Str.ofString "append") _) _ _ _); k_dflt (refine listMethod_K (by k_asm) (by k_mem) PySem.F.slot_list_append PySem.F.type_list_append ?_)))
  k_with "call builtin:list.append" => (refine Stop.intro ?_)
  k_with "compareOp Gt int int" => ((k_here; with_reducible first | refine gt_T (by with_reducible assumption) ?_ | refine gt_F (by with_reducible assumption) ?_))
  k_with "compareOp Lt int int" => ((k_here; with_reducible first | refine lt_T (by with_reducible assumption) ?_ | refine lt_F (by with_reducible assumption) ?_))
  k_with "binaryOp Mod int int" => ((k_here; with_reducible refine mod_int' (by with_reducible assumption) ?_))
  k_with "call ref" => (((with_reducible show wpAny _ _ (call (Value.ref 269) _) _ _ _); refine Stop.intro ?_))
  k_with "call ref" => (((with_reducible show wpAny _ _ (call (Value.ref 274) _) _ _ _); refine Stop.intro ?_))
  k_with "call ref" => (((with_reducible show wpAny _ _ (call (Value.ref 361) _) _ _ _); refine Stop.intro ?_))
  k_with "Seq" => ((k_here; with_reducible refine seq_by (by assumption) ?_))
  exact ⟨rfl, rfl⟩
set_option maxRecDepth 100000 in
set_option maxHeartbeats 8000000 in
theorem routines_rule {prog : Program} {w : World} {p : Program} {loose : List Str} {mean : ExcName → Option Value} {mg mb : Str → Option Value}
  {dp un : Nat} {gd : Option (List Code)} {cn : Str} {cs : Scope} {a : Addr} {ccd : Value} {cl : List (Str × Addr)} {outer : List Env} {A₀ : Around} {base h₀ : Heap} {L : Addr} {m : Str → Option Value} {s : Shared} {Q E : Value → Shared → Prop}
  {pot : Addr} {p0 p1 : Int} {t0 t1 : Tok} {np : Nat}
  (B : Below A₀ base outer h₀) (F : Fr h₀ L s.heap m) (X : (Mine.hd.heap_39 w.params).In h₀) (T : Top p loose mean mg mb h₀) (hk : cs.kind = .function) (hdp : dp + 60 < recursionLimit) (hun : un + 900 < cLine) (N : News h₀ L s.heap [(pot, potObj p0 p1 t0 t1 np)])
  (hp0 : 0 ≤ p0) (hp1 : 0 ≤ p1) (hp2 : p1 < 2147483171)
  (XB : (Mine.hd.heap_39 w.params).In base) (TB : Top p loose mean mg mb base) (D0 : KtsDicts (outer.filterMap (·.frame)) h₀)
  (hret : ∀ h' tk', (∀ b o, base.get? b = some o → h'.get? b = some o) → Q (.bool true) { s with heap := h', toks := tk' }) :
  wpAny (model prog w) (ktrTop dp un gd cn cs L a ccd cl outer) (call (.ref 366) [.ref pot]) Q E s := by
  refine wpAny_call ?_
  k_dflt (refine' code_freeC ?k1 ?k2 ?k3 ?k4 ?k5 ?kA ?kF ?kK ?k6 ?k7 ?k8 ?k9 ?kB ?kD ?_ ?c2 ?c3 ?c4; (case kA => exact rfl); (case kF => exact rfl); (case kK => assumption); (case k1 => k_asm); (case k2 => k_asm); (case k3 => k_asm); (case k4 => k_asm); (case k5 => k_asm); (case k6 => k_is); (case k7 => k_is); (case k8 => ktr_room); (case k9 => exact BindsTo.of_eq rfl); (case kB => exact rfl); (case kD => decide +kernel); (case c2 => exact rfl); (case c3 => exact rfl); (case c4 => exact rfl); k_whole; intro g' L' h' tk' cells' FG' F' N' Y' B' X' T' l1; (try k_lt l1); k_cells Y'; (try dsimp only [List.cons_append, List.nil_append] at N'); (try dsimp only); (try k_fold))
  have DD := dicts_inB B' D0 rfl FG'
  k_steps
  with_reducible refine Stop.out ?_
  rename Fr _ _ _ _ => qF
  with_unfolding_all refine For_invVF qF rfl rfl ?_
  k_steps
  with_reducible refine Stop.out ?_
  rename IsRange _ _ _ _ _ _ _ _ => qR
  rename News _ _ _ _ => qN
  rename Fr _ _ _ _ => qF2
  obtain ⟨ot, ct, tt, n1, n2, n3, vs, pool, N1, D1, m1, m2, m3, i1, m4, m5⟩ := rt_start qN (by repeat (first | exact Falls.one | refine Falls.cons (by tb_rel) ?_)) (by omega) (by omega)
  clear qN
  repeat (rename (@LT.lt Nat _ _ _ ∧ _) => q9; clear q9)
  repeat (rename (@Ne Nat _ _) => q9; clear q9)
  repeat (rename ((@Ne Nat _ _ ∧ _) ∧ _) => q9; clear q9)
  refine rt_loop rfl qR (by omega) (by omega) qF2 N1 D1 ?_ ?_
  · clear N1 qR
    intro I i t it here prs vs' na nd pool' h tk hi hit hI hkI D e1 hn hp hv hH hk F' N'
    have c1 := hk _ m1
    k_steps
    with_reducible refine Stop.out ?_
    k_dflt refine new_S (by k_asm) (by k_asm) (by k_asm) (by k_asm) (by first | exact rfl | assumption) (by ktr_room) (by ktr_units) N' D c1 (by omega) (by rcases hH with h | ⟨r, _, e⟩; exact .inl h; exact .inr ⟨_, e⟩) ?_
    intro r fresh na' h' tk' er hpr D' ho F9 N9
    obtain ⟨r0, g1, g2, g3, g4, g5, g6, g7⟩ := new_next hH hn hp hpr er
    rw [g1] at N9
    have g8 : (r.x, instObj 244 r.d) ∈ fresh ++ pool' := List.mem_append_left _ (hpr r (.head _)).1
    have g9 : (r.d, r.dic) ∈ fresh ++ pool' := List.mem_append_left _ (hpr r (.head _)).2
    have c2 := List.mem_append_right fresh c1
    have er2 : r.num = 0 + (i : Int) := by omega
    k_steps
    with_reducible refine Stop.out ?_
    have hvl := hv.length
    rw [upTo_len] at hvl
    k_dflt refine append_S (by k_asm) N9 D' (by omega) ?_
    intro h2' F2 N2
    k_steps
    with_reducible refine Stop.out ?_
    exact rt_end (by assumption) N2 (fun p hp => hp) (List.mem_append_right _ hI) hit hkI D' (by simp [e1]) g6 g7 (ints_up hv) g5 (fun p hp => List.mem_append_right _ (hk p hp))
  · clear qR
    intro v here prs vs' na nd pool' h tk l1 l4 D hn hp hv hH hk F' N'
    have hvl := hv.length
    rw [upTo_len] at hvl
    have c1 := hk _ m1
    have c2 := hk _ m2
    have c3 := hk _ m3
    k_steps
    with_reducible refine Stop.out ?_
    rename Fr _ _ _ _ => qF
    rename News _ _ _ _ => qN0
    have qFW := weak_fr B' qF qN0
    with_unfolding_all refine For_invVF qFW rfl rfl ?_
    clear qFW
    k_steps
    with_reducible refine Stop.out ?_
    rename IsRange _ _ _ _ _ _ _ _ => qR
    rename News _ _ _ _ => qN
    rename Fr _ _ _ _ => qF2
    obtain ⟨row, hrow, hrl⟩ : ∃ row, IntsAre vs row ∧ row.length = 3 := ⟨_, i1, rfl⟩
    have hvr := hrow.length
    rcases hH with ⟨e, _⟩ | ⟨r0, e0, rfl⟩
    · exact absurd l1 (by rw [e]; simp)
    refine ru_loop2 (prs := prs) (keep := pool') (xp := Str.ofString "pick") (xt := Str.ofString "taken") rfl qR qF2 qN D rfl ⟨r0, List.mem_of_getElem? e0, rfl⟩ hp B' XB TB DD ?_ ?_
    · clear qN qR qF qF2
      intro g₂ T₂ B₂ X₂ P₂ DD₂ I i t it here v2 tkn tkt tt pool2 h tk hi hit hI hkI D2 g0 g1 hH hP hk2 F' N'
      have c1' := hk2 _ c1
      have c2' := hk2 _ c2
      have c3' := hk2 _ c3
      have hk63 : tkn < 2 ^ 63 := by omega
      have hz1 : vs'.length ≤ 1000 := by omega
      have hz2 : vs.length ≤ 1000 := by omega
      obtain ⟨b0, b1⟩ := pickV_bound (row := row) (tk := tkn) (many := (prs.length : Int)) (by omega)
      refine join28 (V := pickV row (prs.length : Int) tkn) (T := pickT (prs.length : Int) tkn) F' N' ?_ ?_
      · intro tp ttn h2 tk2 F2 N2
        clear F' N'
        obtain ⟨tz, hz⟩ := item_up hv b0 b1
        have hb63 : pickV row (prs.length : Int) tkn < 2 ^ 63 := by omega
        k_steps
        with_reducible refine Stop.out ?_
        k_dflt refine pickone_S (by k_asm) (by k_asm) (by k_asm) (by k_asm) (by first | exact rfl | assumption) (by ktr_room) (by ktr_units) (by k_asm) D2 c1' c2' hP (by omega) l1 c3' hrow hrl g0 (by omega) ?_
        intro r tt9 fresh h9' tk9' er D9 ho9 F9 N9
        have en : r.num = pickV row (prs.length : Int) tkn := by rw [hn _ _ er, Int.toNat_of_nonneg b0]
        have hrm := List.mem_of_getElem? er
        have hP9 : PRsIn prs (fresh ++ pool2) := hP.mono fun p hp => List.mem_append_right _ hp
        obtain ⟨q1, q2⟩ := hP9 r hrm
        have k1 := List.mem_append_right fresh c1'
        k_steps
        with_reducible refine Stop.out ?_
        k_dflt refine refused_rule (by k_asm) (by k_asm) (by k_asm) (by k_asm) (by first | exact rfl | assumption) (by ktr_room) (by ktr_units) XB TB DD₂ N9 (.tail _ (.tail _ (.tail _ (.tail _ k1)))) (.head _) (.tail _ (.head _)) (hP9.mono fun p hp => .tail _ (.tail _ (.tail _ (.tail _ hp)))) b0 b1 (by omega) ?_
        intro h8' tk8' BK
        obtain ⟨g₃, T8, F8, N8, B8, X8, P8, D8⟩ := BK
        clear F9 N9 B₂ X₂ P₂ DD₂
        have gp := pickT_bound (n := (prs.length : Int)) g0 g1
        k_steps
        with_reducible refine Stop.out ?_
        exact weak_end (T₂.trans T8) (ru_end (by assumption) rfl N8 (fun p hp => hp) (List.mem_append_right _ hI) hit hkI D9 gp.1 gp.2 ⟨r, hrm, rfl⟩ hP9 (fun p hp => List.mem_append_right _ (hk2 p hp)))
      intro tail
      rcases (by omega : (vs'.length : Int) ≤ 1 ∨ ((1 : Int) < (vs'.length : Int) ∧ tkn < (vs.length : Int)) ∨ ((1 : Int) < (vs'.length : Int) ∧ (vs.length : Int) ≤ tkn)) with hc | ⟨hc, hc2⟩ | ⟨hc, hc2⟩
      · have e1 : pickT (prs.length : Int) tkn = tkn := if_pos (by omega)
        have e2 : pickV row (prs.length : Int) tkn = (0 : Int) := by rw [pickV, if_pos (by omega)]
        k_steps
        refine Stop.out ?_
        refine' ⟨_, _, _, _, _, rfl, ?kF, ?kN, ?kE⟩
        case kF => assumption
        case kN => assumption
        case kE =>
          exact fun y => by
            by_cases h1 : y = Str.ofString "turn"
            · subst h1; rfl
            · by_cases h2 : y = Str.ofString "pick"
              · subst h2; first | rfl | exact congrArg (fun q : Int => some (Value.int q _)) e2.symm
              · by_cases h3 : y = Str.ofString "taken"
                · subst h3; first | rfl | exact congrArg (fun q : Int => some (Value.int q _)) e1.symm
                · simp (config := { zetaDelta := true }) only [if_neg h1, if_neg h2, if_neg h3]
      · obtain ⟨tv, hx⟩ := ints_at hrow (i := tkn.toNat) (by omega)
        have hne : (vs'.length : Int) ≠ 0 := by omega
        have e1 : pickT (prs.length : Int) tkn = tkn + 1 := if_neg (by omega)
        have e2 : pickV row (prs.length : Int) tkn = Int.fmod (row.getD tkn.toNat 0) (vs'.length : Int) := by rw [pickV, if_neg (by omega), if_pos (by omega), hvl]
        k_steps
        refine Stop.out ?_
        refine' ⟨_, _, _, _, _, rfl, ?kF, ?kN, ?kE⟩
        case kF => assumption
        case kN => assumption
        case kE =>
          exact fun y => by
            by_cases h1 : y = Str.ofString "turn"
            · subst h1; rfl
            · by_cases h2 : y = Str.ofString "pick"
              · subst h2; first | rfl | exact congrArg (fun q : Int => some (Value.int q _)) e2.symm
              · by_cases h3 : y = Str.ofString "taken"
                · subst h3; first | rfl | exact congrArg (fun q : Int => some (Value.int q _)) e1.symm
                · simp (config := { zetaDelta := true }) only [if_neg h1, if_neg h2, if_neg h3]
      · have e1 : pickT (prs.length : Int) tkn = tkn + 1 := if_neg (by omega)
        have e2 : pickV row (prs.length : Int) tkn = (0 : Int) := by rw [pickV, if_neg (by omega), if_neg (by omega)]
        k_steps
        refine Stop.out ?_
        refine' ⟨_, _, _, _, _, rfl, ?kF, ?kN, ?kE⟩
        case kF => assumption
        case kN => assumption
        case kE =>
          exact fun y => by
            by_cases h1 : y = Str.ofString "turn"
            · subst h1; rfl
            · by_cases h2 : y = Str.ofString "pick"
              · subst h2; first | rfl | exact congrArg (fun q : Int => some (Value.int q _)) e2.symm
              · by_cases h3 : y = Str.ofString "taken"
                · subst h3; first | rfl | exact congrArg (fun q : Int => some (Value.int q _)) e1.symm
                · simp (config := { zetaDelta := true }) only [if_neg h1, if_neg h2, if_neg h3]
    · clear qN qR qF qF2
      intro g₂ T₂ B₂ X₂ P₂ DD₂ v3 v2 tkn tkt here tt pool3 h tk hH hP hk3 F' N'
      obtain ⟨r, hr, rfl⟩ := hH
      obtain ⟨q1, q2⟩ := hP r hr
      have c1' := hk3 _ c1
      k_steps
      rename Fr _ _ _ _ => qF
      exact hret _ _ (fun b o e => qF.keep b o (B₂.stays b o e))
structure FD (dx l w : Addr) (rest : List (Addr × Obj)) : Prop where
  off : OwnOff rest [dx, l, w]
  h1 : @Ne Nat dx l
  h2 : @Ne Nat dx w
  h3 : @Ne Nat l w
theorem FD.step {dx l w w₂ : Addr} {rest fresh : List (Addr × Obj)} {ow : Obj} (D : FD dx l w rest) (hw : WNew w w₂ (dx :: l :: ((w, ow) :: rest).map (·.1))) (off : OwnOff fresh (w₂ :: dx :: l :: ((w, ow) :: rest).map (·.1))) : FD dx l w₂ (fresh ++ rest) := by
  have a3 : ∀ p ∈ rest, p.1 ≠ w₂ := fun p hp => wnew_ne hw (.tail _ (.tail _ (.tail _ (List.mem_map_of_mem hp)))) (D.off p hp _ (.tail _ (.tail _ (.head _))))
  exact ⟨off_app (fun p hp => nb_con (off p hp _ (.tail _ (.head _))) (nb_con (off p hp _ (.tail _ (.tail _ (.head _)))) (nb_con (off p hp _ (.head _)) nb_nil))) (fun p hp => nb_con (D.off p hp _ (.head _)) (nb_con (D.off p hp _ (.tail _ (.head _))) (nb_con (a3 p hp) nb_nil))),
    D.h1, wnew_ne hw (.head _) D.h2, wnew_ne hw (.tail _ (.head _)) D.h3⟩
theorem FD.add {dx l w a : Addr} {o : Obj} {rest : List (Addr × Obj)} (D : FD dx l w rest) (h : @LT.lt Nat _ dx a ∧ @LT.lt Nat _ l a ∧ @LT.lt Nat _ w a) : FD dx l w ((a, o) :: rest) :=
  ⟨off_con (nb_con (Nat.ne_of_gt h.1) (nb_con (Nat.ne_of_gt h.2.1) (nb_con (Nat.ne_of_gt h.2.2) nb_nil))) D.off, D.h1, D.h2, D.h3⟩
theorem first_start {h₀ h : Heap} {L dx x chl w d c l : Nat} {k1 k2 k3 k4 k5 : Int} {u1 u2 u3 u4 u5 tr : Tok}
    (N : News h₀ L h [(l, listOf #[] 0), (c, instObj 38 d), (d, dictOf [⟨k1, .str "room" u1, .int 1 tr⟩, ⟨k2, .str "held" u2, .ref l⟩, ⟨k3, .str "is_closed" u3, .bool false⟩] 3), (w, listOf #[] 0), (chl, listOf (#[].push (.ref c)) (0 + 1)), (x, instObj 155 dx),
      (dx, dictOf [⟨k4, .str "channels" u4, .ref chl⟩, ⟨k5, .str "waiting" u5, .ref w⟩] 2)])
    (D : Falls [l, c, d, w, chl, x, dx]) :
    ∃ ct ot nc nl nw rest, News h₀ L h ((dx, chDict ct chl w) :: (l, listOf ([] : List Value).toArray nl) :: (w, listOf (refsOf []).toArray nw) :: rest) ∧ FD dx l w rest ∧ (x, instObj 155 dx) ∈ rest ∧ (chl, listOf [Value.ref c].toArray nc) ∈ rest ∧ (c, instObj 38 d) ∈ rest ∧ (d, oneDict ot 1 tr l false) ∈ rest := by
  exact ⟨⟨k4, u4, k5, u5⟩, ⟨k1, u1, k2, u2, k3, u3⟩, 1, 0, 0, [(x, instObj 155 dx), (chl, listOf [Value.ref c].toArray 1), (c, instObj 38 d), (d, dictOf [⟨k1, .str "room" u1, .int 1 tr⟩, ⟨k2, .str "held" u2, .ref l⟩, ⟨k3, .str "is_closed" u3, .bool false⟩] 3)],
    News.sub N (ix_sub [6, 0, 3, 5, 4, 1, 2] rfl), ⟨D.off [5, 4, 1, 2] [6, 0, 3] rfl rfl rfl, D.ne 6 0 rfl rfl rfl, D.ne 6 3 rfl rfl rfl, D.ne 0 3 rfl rfl rfl⟩, ix_mem 0 rfl, ix_mem 1 rfl, ix_mem 2 rfl, ix_mem 3 rfl⟩
set_option maxRecDepth 100000 in
set_option maxHeartbeats 8000000 in
theorem fsend {prog : Program} {w : World} {p : Program} {loose : List Str} {mean : ExcName → Option Value} {mg mb : Str → Option Value}
  {dp un : Nat} {gd : Option (List Code)} {cn : Str} {cs : Scope} {a : Addr} {ccd : Value} {cl : List (Str × Addr)} {outer : List Env} {A₀ : Around} {base h₀ : Heap} {L : Addr} {m : Str → Option Value} {s : Shared} {Q E : Value → Shared → Prop}
  {rest : List (Addr × Obj)}
  {x dx w' chl c d l : Addr} {ct : ChTok} {ot : OneTok} {room : Int} {tr : Tok} {b : Bool} {vc vs : List Value} {hs : List Int} {nc nl nw : Nat} {rows : List LRow} {n v : Int} {tn tv : Tok}
  (B : Below A₀ base outer h₀) (F : Fr h₀ L s.heap m) (X : (Mine.hd.heap_39 w.params).In h₀) (T : Top p loose mean mg mb h₀) (hk : cs.kind = .function) (hdp : dp + 20 < recursionLimit) (hun : un + 260 < cLine) (N : News h₀ L s.heap ((dx, chDict ct chl w') :: (l, listOf vs.toArray nl) :: (w', listOf (refsOf rows).toArray nw) :: rest)) (D : FD dx l w' rest)
  (hx : (x, instObj 155 dx) ∈ rest) (hchl : (chl, listOf vc.toArray nc) ∈ rest) (hr : RowsIn rows rest) (hlr : rows.length ≤ 1000)
  (n0 : 0 ≤ n) (n1 : n < 2 ^ 63) (hcn : vc[n.toNat]? = some (.ref c)) (hc : (c, instObj 38 d) ∈ rest) (hd : (d, oneDict ot room tr l b) ∈ rest)
  (hi : IntsAre vs hs) (hlen : hs.length ≤ 1000)
  (hret : ∀ r w₂ nw₂ vs' nl' fresh h' tk', IntsAre vs' (sendF b hs rows n v).hs → FD dx l w₂ (fresh ++ rest) → Fr h₀ L h' m →
    News h₀ L h' ((dx, chDict ct chl w₂) :: (l, listOf vs'.toArray nl') :: (w₂, listOf (refsOf (sendF b hs rows n v).rows).toArray nw₂) :: (fresh ++ rest)) → Bears fresh r (sendF b hs rows n v).res → Q r { s with heap := h', toks := tk' }) :
  wpAny (model prog w) (ktrTop dp un gd cn cs L a ccd cl outer) (call (.ref 117) [.ref x, .int n tn, .int v tv]) Q E s := by
  refine send_rule B F X T hk hdp hun N (off_con (nb_con (Ne.symm D.h2) (nb_con (Ne.symm D.h3) nb_nil)) (OwnOff.sub D.off (ix_sub [0, 1] rfl))) D.h1 (.tail _ hx) (.tail _ hchl) (.head _) (fun q hq => .tail _ (hr q hq)) hlr n0 n1 hcn (.tail _ hc) (.tail _ hd) hi hlen
    (fun r w₂ nw₂ vs' nl' fresh h' tk' i hw off F' N' hb => hret r w₂ nw₂ vs' nl' fresh h' tk' i (D.step hw off) F' (News.sub N' (ix_subT [0, 1, 2] rfl rfl (sub_D 3 rfl sub_mid))) hb)
set_option maxRecDepth 100000 in
set_option maxHeartbeats 8000000 in
theorem ftake {prog : Program} {w : World} {p : Program} {loose : List Str} {mean : ExcName → Option Value} {mg mb : Str → Option Value}
  {dp un : Nat} {gd : Option (List Code)} {cn : Str} {cs : Scope} {a : Addr} {ccd : Value} {cl : List (Str × Addr)} {outer : List Env} {A₀ : Around} {base h₀ : Heap} {L : Addr} {m : Str → Option Value} {s : Shared} {Q E : Value → Shared → Prop}
  {rest : List (Addr × Obj)}
  {x dx w' chl c d l : Addr} {ct : ChTok} {ot : OneTok} {room : Int} {tr : Tok} {b : Bool} {vc vs : List Value} {hs : List Int} {nc nl nw : Nat} {rows : List LRow} {n : Int} {tn : Tok}
  (B : Below A₀ base outer h₀) (F : Fr h₀ L s.heap m) (X : (Mine.hd.heap_39 w.params).In h₀) (T : Top p loose mean mg mb h₀) (hk : cs.kind = .function) (hdp : dp + 20 < recursionLimit) (hun : un + 260 < cLine) (N : News h₀ L s.heap ((dx, chDict ct chl w') :: (l, listOf vs.toArray nl) :: (w', listOf (refsOf rows).toArray nw) :: rest)) (D : FD dx l w' rest)
  (hx : (x, instObj 155 dx) ∈ rest) (hchl : (chl, listOf vc.toArray nc) ∈ rest) (hr : RowsIn rows rest) (hlr : rows.length ≤ 1000)
  (n0 : 0 ≤ n) (n1 : n < 2 ^ 63) (hcn : vc[n.toNat]? = some (.ref c)) (hc : (c, instObj 38 d) ∈ rest) (hd : (d, oneDict ot room tr l b) ∈ rest)
  (hi : IntsAre vs hs) (hlen : hs.length ≤ 1000)
  (hret : ∀ r w₂ nw₂ vs' nl' fresh h' tk', IntsAre vs' (takeF hs rows n).hs → FD dx l w₂ (fresh ++ rest) → Fr h₀ L h' m →
    News h₀ L h' ((dx, chDict ct chl w₂) :: (l, listOf vs'.toArray nl') :: (w₂, listOf (refsOf (takeF hs rows n).rows).toArray nw₂) :: (fresh ++ rest)) → Bears fresh r (takeF hs rows n).res → Q r { s with heap := h', toks := tk' }) :
  wpAny (model prog w) (ktrTop dp un gd cn cs L a ccd cl outer) (call (.ref 124) [.ref x, .int n tn]) Q E s := by
  refine take_rule B F X T hk hdp hun N (off_con (nb_con (Ne.symm D.h2) (nb_con (Ne.symm D.h3) nb_nil)) (OwnOff.sub D.off (ix_sub [0, 1] rfl))) D.h1 (.tail _ hx) (.tail _ hchl) (.head _) (fun q hq => .tail _ (hr q hq)) hlr n0 n1 hcn (.tail _ hc) (.tail _ hd) hi hlen
    (fun r w₂ nw₂ vs' nl' fresh h' tk' i hw off F' N' hb => hret r w₂ nw₂ vs' nl' fresh h' tk' i (D.step hw off) F' (News.sub N' (ix_subT [0, 1, 2] rfl rfl (sub_D 3 rfl sub_mid))) hb)
set_option maxRecDepth 100000 in
set_option maxHeartbeats 8000000 in
theorem fwait {prog : Program} {w : World} {p : Program} {loose : List Str} {mean : ExcName → Option Value} {mg mb : Str → Option Value}
  {dp un : Nat} {gd : Option (List Code)} {cn : Str} {cs : Scope} {a : Addr} {ccd : Value} {cl : List (Str × Addr)} {outer : List Env} {A₀ : Around} {base h₀ : Heap} {L : Addr} {m : Str → Option Value} {s : Shared} {Q E : Value → Shared → Prop}
  {rest all : List (Addr × Obj)}
  {x dx w' chl dl d1 l : Addr} {ct : ChTok} {nw nl ndl e1 : Nat} {vs : List Value} {rows : List LRow} {k : Bool} {g n v : Int} {tg tk tn tv : Tok}
  (B : Below A₀ base outer h₀) (F : Fr h₀ L s.heap m) (X : (Mine.hd.heap_39 w.params).In h₀) (T : Top p loose mean mg mb h₀) (hk : cs.kind = .function) (hdp : dp + 20 < recursionLimit) (hun : un + 160 < cLine) (N : News h₀ L s.heap all) (C : ∀ p ∈ (dx, chDict ct chl w') :: (l, listOf vs.toArray nl) :: (w', listOf (refsOf rows).toArray nw) :: rest, p ∈ all) (D : FD dx l w' rest)
  (hx : (x, instObj 155 dx) ∈ rest) (hlr : rows.length ≤ 1000)
  (hdl : (dl, listOf [Value.ref d1].toArray ndl) ∈ rest) (hd1 : (d1, tupN [.str (kStr k) tk, .int n tn, .int v tv] e1) ∈ rest)
  (hret : ∀ new nw' fresh h' tk', new.map (·.r) = [⟨g, k, n, v, 0⟩] → RowsIn new (fresh ++ rest) → FD dx l w' (fresh ++ rest) → Fr h₀ L h' m →
    News h₀ L h' ((dx, chDict ct chl w') :: (l, listOf vs.toArray nl) :: (w', listOf (refsOf (rows ++ new)).toArray nw') :: (fresh ++ rest)) → Q .none { s with heap := h', toks := tk' }) :
  wpAny (model prog w) (ktrTop dp un gd cn cs L a ccd cl outer) (call (.ref 152) [.ref x, .int g tg, .ref dl]) Q E s := by
  have N1 := News.sub N C
  exact wait1_rule (nw := nw) (rest := (dx, chDict ct chl w') :: (l, listOf vs.toArray nl) :: rest) B F X T hk hdp hun (News.sub N1 (ix_subT [2, 0, 1] rfl rfl (ix_all 3 rfl)))
    (off_con (nb_con D.h2 nb_nil) (off_con (nb_con D.h3 nb_nil) fun p hp => nb_con (D.off p hp _ (.tail _ (.tail _ (.head _)))) nb_nil)) (.tail _ (.tail _ hx)) (.head _) hlr (.tail _ (.tail _ hdl)) (.tail _ (.tail _ hd1))
    (fun new nw' fresh h' tk' e hr off F' N' => hret new nw' fresh h' tk' e (fun q hq => List.mem_append_left _ (hr q hq)) ⟨off_app (OwnOff.sub off (ix_sub [1, 2, 0] rfl)) D.off, D.h1, D.h2, D.h3⟩ F'
      (News.sub N' (sub_cons (.tail _ (List.mem_append_right _ (.head _))) (sub_cons (.tail _ (List.mem_append_right _ (.tail _ (.head _)))) (sub_cons (.head _) (sub_D 1 rfl (sub_app (sub_L sub_rfl) (sub_R (ix_all 2 rfl)))))))))
theorem one_row {new : List LRow} {r : Row} (h : new.map (·.r) = [r]) : ∃ t : LRow, new = [t] ∧ t.r = r := by
  cases new with
  | nil => cases h
  | cons t l => cases l with
    | nil => exact ⟨t, rfl, by simpa using h⟩
    | cons a b => simp at h
theorem take_one {t : LRow} (h : t.r = ⟨3, true, 0, 6, 0⟩) : takeF [5] ([] ++ [t]) 0 = ⟨resD (recvD (.int 5) true) [(3, 0, sentD)], [6], []⟩ := by
  simp [takeF, hits, h]
theorem bears_bool {news : List (Addr × Obj)} {b : Bool} : Bears news (.bool b) (.bool b) := fun _ _ _ _ => ⟨_, .bool _⟩
theorem FD.add2 {h₀ h : Heap} {L dx l w a a' : Addr} {o o' : Obj} {c1 c2 c3 : Addr × Obj} {rest : List (Addr × Obj)} (_N : News h₀ L h ((a, o) :: (a', o') :: c1 :: c2 :: c3 :: rest)) (D : FD dx l w rest) (h1 : @LT.lt Nat _ dx a' ∧ @LT.lt Nat _ l a' ∧ @LT.lt Nat _ w a') (h2 : @LT.lt Nat _ dx a ∧ @LT.lt Nat _ l a ∧ @LT.lt Nat _ w a) : FD dx l w ((a, o) :: (a', o') :: rest) := (D.add h1).add h2
set_option maxRecDepth 100000 in
set_option maxHeartbeats 8000000 in
theorem fwait2 {prog : Program} {w : World} {p : Program} {loose : List Str} {mean : ExcName → Option Value} {mg mb : Str → Option Value}
  {dp un : Nat} {gd : Option (List Code)} {cn : Str} {cs : Scope} {a : Addr} {ccd : Value} {cl : List (Str × Addr)} {outer : List Env} {A₀ : Around} {base h₀ : Heap} {L : Addr} {m : Str → Option Value} {s : Shared} {Q E : Value → Shared → Prop}
  {rest : List (Addr × Obj)}
  {x dx w' chl dl d1 l : Addr} {ct : ChTok} {nw nl ndl e1 : Nat} {vs : List Value} {rows : List LRow} {k : Bool} {g n v : Int} {tg tk tn tv : Tok}
  (B : Below A₀ base outer h₀) (F : Fr h₀ L s.heap m) (X : (Mine.hd.heap_39 w.params).In h₀) (T : Top p loose mean mg mb h₀) (hk : cs.kind = .function) (hdp : dp + 20 < recursionLimit) (hun : un + 160 < cLine) (N : News h₀ L s.heap ((dl, listOf [Value.ref d1].toArray ndl) :: (d1, tupN [.str (kStr k) tk, .int n tn, .int v tv] e1) :: (dx, chDict ct chl w') :: (l, listOf vs.toArray nl) :: (w', listOf (refsOf rows).toArray nw) :: rest)) (D : FD dx l w' rest)
  (h1 : @LT.lt Nat _ dx d1 ∧ @LT.lt Nat _ l d1 ∧ @LT.lt Nat _ w' d1) (h2 : @LT.lt Nat _ dx dl ∧ @LT.lt Nat _ l dl ∧ @LT.lt Nat _ w' dl)
  (hx : (x, instObj 155 dx) ∈ rest) (hlr : rows.length ≤ 1000)
  (hret : ∀ new nw' fresh h' tk', new.map (·.r) = [⟨g, k, n, v, 0⟩] → RowsIn new (fresh ++ rest) → FD dx l w' (fresh ++ rest) → Fr h₀ L h' m →
    News h₀ L h' ((dx, chDict ct chl w') :: (l, listOf vs.toArray nl) :: (w', listOf (refsOf (rows ++ new)).toArray nw') :: (fresh ++ rest)) → Q .none { s with heap := h', toks := tk' }) :
  wpAny (model prog w) (ktrTop dp un gd cn cs L a ccd cl outer) (call (.ref 152) [.ref x, .int g tg, .ref dl]) Q E s := by
  exact fwait (nw := nw) (rest := (dl, listOf [Value.ref d1].toArray ndl) :: (d1, tupN [.str (kStr k) tk, .int n tn, .int v tv] e1) :: rest) B F X T hk hdp hun N (ix_subT [2, 3, 4, 0, 1] rfl rfl (ix_all 5 rfl)) (FD.add2 N D h1 h2) (.tail _ (.tail _ hx)) hlr (.head _) (.tail _ (.head _)) (fun new nw' fresh h' tk' e hr D' F' N' => hret new nw' (fresh ++ [_, _]) h' tk' e (by rw [List.append_assoc]; exact hr) (by rw [List.append_assoc]; exact D') F' (by rw [List.append_assoc]; exact N'))
theorem bears_woken {news : List (Addr × Obj)} {a t1 l1 t2 t3 : Addr} {n1 n2 n3 n4 n5 : Nat} {v g c : Int} {b : Bool} {u u2 ug uc us : Tok} (h : (a, tupN [.ref t1, .ref l1] n1) ∈ news) (h1 : (t1, tupN [.str (Str.ofString "received") u, .int v u2, .bool b] n2) ∈ news) (h2 : (l1, listOf [Value.ref t2].toArray n3) ∈ news)
    (h3 : (t2, tupN [.int g ug, .int c uc, .ref t3] n4) ∈ news) (h4 : (t3, tupN [.str (Str.ofString "sent") us] n5) ∈ news) : Bears news (.ref a) (resD (recvD (.int v) b) [(g, c, sentD)]) :=
  bears_tuple h (.cons (bears_tuple h1 (.cons bears_str (.cons bears_int (.cons bears_bool bearsL_nil)))) (.cons (bears_list h2 (.cons (bears_tuple h3 (.cons bears_int (.cons bears_int (.cons (bears_tuple h4 (.cons bears_str bearsL_nil)) bearsL_nil)))) bearsL_nil)) bearsL_nil))
theorem bears_none {news : List (Addr × Obj)} {a t1 l1 : Addr} {n1 n2 n3 : Nat} {v : Int} {b : Bool} {u u2 : Tok} (h : (a, tupN [.ref t1, .ref l1] n1) ∈ news) (h1 : (t1, tupN [.str (Str.ofString "received") u, .int v u2, .bool b] n2) ∈ news) (h2 : (l1, listOf ([] : List Value).toArray n3) ∈ news) : Bears news (.ref a) (resD (recvD (.int v) b) []) :=
  bears_tuple h (.cons (bears_tuple h1 (.cons bears_str (.cons bears_int (.cons bears_bool bearsL_nil)))) (.cons (bears_list h2 bearsL_nil) bearsL_nil))
theorem sh_woken {v g c : Int} {b : Bool} : Sh 4 (resD (recvD (.int v) b) [(g, c, sentD)]) := sh_res (sh_recv Sh.int) (fun q hq => by rw [List.mem_singleton.mp hq]; exact sh_sent)
theorem sh_none {v : Int} {b : Bool} : Sh 4 (resD (recvD (.int v) b) []) := sh_res (sh_recv Sh.int) (fun q hq => nomatch hq)
theorem pot_low (a : Int) : 0 ≤ a.fmod 1000000093 + 47 ∧ a.fmod 1000000093 + 47 < 2147483171 := by
  have h1 := Int.fmod_nonneg_of_pos a (b := 1000000093) (by decide)
  have h2 := Int.fmod_lt_of_pos a (b := 1000000093) (by decide)
  omega
theorem goodW_keep {c : ClaimW} {cl : Str → Option Addr} {mean : ExcName → Option Value} {args : List WData} {s₁ s' : Shared} {b : Bool} (keep : ∀ b o, s₁.heap.get? b = some o → s'.heap.get? b = some o) (hg : s'.gens = #[]) (hn : ∀ cls, c.raises args cls = false) (hp : c.post args (.bool b) args = true) (hos : s'.os = s₁.os := by rfl) :
    GoodW c cl mean args s₁ (.ok (.ret (.bool b))) s' := ⟨.inl ⟨_, _, [], rfl, hn, .bool b, hp, unshared_nil⟩, keep, hos, hg⟩
theorem law_raises (args : List WData) : ∀ ct ∈ Challenge.rw_xm0171_01.row.raises, ct.2.holds Challenge.rw_xm0171_01.row.records { args := args } = false := by
  wrow_none_raised
theorem law_post (xs : List Int) : Challenge.rw_xm0171_01.row.claim.post [ofPy (.list (xs.map .int))] (.bool true) [ofPy (.list (xs.map .int))] = true := by
  wrow_post
theorem law_good {cl : Str → Option Addr} {mean : ExcName → Option Value} {xs : List Int} {s₁ s' : Shared} (keep : ∀ b o, s₁.heap.get? b = some o → s'.heap.get? b = some o) (hg : s'.gens = #[]) (hos : s'.os = s₁.os) :
    GoodW Challenge.rw_xm0171_01.row.claim cl mean [ofPy (.list (xs.map .int))] s₁ (.ok (.ret (.bool true))) s' := goodW_keep keep hg (raisesW_false (law_raises _)) (law_post xs) hos
theorem fill_PL : Challenge.rw_xm0171_01 = Challenge.rw_xm0171_01 ∧ Mine.hd.heap_39 = Mine.hd.heap_39 := by
  k_fill
  w_top off
  k_with_none
  k_with "gnd" => ((case u0 => k_asm); (case u1 => k_asm); (case u2 => k_asm); (case u3 => k_asm); (case u4 => first | exact rfl | assumption); (case u5 => ktr_room); (case u6 => ktr_units); (case u7 => k_asm))
  k_with "kln_le" => (first | exact ne_c rfl | exact lt_c rfl | exact ne_a rfl | exact ne_b rfl | exact ne_d (by assumption) rfl | exact ne_e (by assumption) rfl | exact lt_a (by assumption) rfl | exact ne_f (by assumption) | exact ne_f (Ne.symm (by assumption)) | exact ne_g (by assumption) rfl | exact ne_two (by assumption) (by assumption) (by assumption) | exact or5 (by assumption) (by kln_le) (by kln_le) (by kln_le) (by kln_le) (by kln_le) | omega)
  k_with "pl" => (with_reducible first | exact pl1 (by assumption) | exact pl2 (by assumption) | exact pl3 (by assumption) | exact pl4 (by assumption) | exact pl5 (by assumption) | exact pl6 (by assumption) | exact pl7 (by assumption) | exact pl8 (by assumption) | exact pl9 (by assumption) | exact pl10 (by assumption) | exact pl11 (by assumption) | exact pl12 (by assumption) | exact pl13 (by assumption) | exact pl14 (by assumption) | exact pl15 (by assumption) | exact pl16 (by assumption) | exact pl17 (by assumption) | exact pl18 (by assumption) | exact pl19 (by assumption) | exact pl20 (by assumption) | exact pl21 (by assumption) | exact pl22 (by assumption) | exact pl23 (by assumption) | exact pl24 (by assumption) | exact pl25 (by assumption) | exact pl26 (by assumption) | exact pl27 (by assumption) | exact pl28 (by assumption) | exact pl29 (by assumption) | exact pl30 (by assumption))
  k_with "pa" => (with_reducible first | exact pa1 (by assumption) | exact pa2 (by assumption) | exact pa3 (by assumption) | exact pa4 (by assumption) | exact pa5 (by assumption) | exact pa6 (by assumption) | exact pa7 (by assumption) | exact pa8 (by assumption) | exact pa9 (by assumption) | exact pa10 (by assumption) | exact pa11 (by assumption) | exact pa12 (by assumption) | exact pa13 (by assumption) | exact pa14 (by assumption) | exact pa15 (by assumption) | exact pa16 (by assumption) | exact pa17 (by assumption) | exact pa18 (by assumption) | exact pa19 (by assumption) | exact pa20 (by assumption) | exact pa21 (by assumption) | exact pa22 (by assumption) | exact pa23 (by assumption) | exact pa24 (by assumption) | exact pa25 (by assumption) | exact pa26 (by assumption) | exact pa27 (by assumption) | exact pa28 (by assumption) | exact pa29 (by assumption) | exact pa30 (by assumption))
  k_with "execs cons" => ((k_here; with_reducible first | (refine seq_start (s₀ := s) ?_; intro tkz9 qz9) | (refine seq_startS ?_; intro qz9; (try k_gentoks))))
  k_with "Seq" => ((k_here; with_reducible first | (refine seq_go (s₀ := s) ?_; intro tkz9 qz9) | (refine seq_goS ?_; intro qz9; (try k_gentoks)) | refine seq_end ?_ | refine seq_ret ?_ | refine seq_brk ?_ | refine seq_cont ?_))
  k_with "k_fold" => ((refine name_q ?_; intro q9z9 x9z9))
  k_with "k_steps" => (repeat' (first | walk1 | (k_end; wrow_close) | (dsimp only; walk1) | (leave1; walk_say "STEP leave1"; try dsimp only) | (k_unfold; (try dsimp only)) | fail "no step"))
  k_with "storeName" => ((k_here; k_dflt (refine' storeLet ?F ?N ?_ ?a ?b; (case a => first | assumption | rfl); (case b => rfl); (case F => k_asm); (case N => k_asm); k_whole); intro hz9 mz9 Fz9 Nz9; (try k_sweep)))
  k_with "subscriptTail Name Constant ref int" => ((k_here; k_dflt (refine' item_tupleT ?t ?a ?b ?c ?d ?_; (case t => exact News.isTup (by k_asm) (rowsAt (by assumption) (by ktr_rel))); (case a => decide); (case b => decide); (case c => rfl); (case d => rfl))))
  k_with "kby_size" => (first | (rename ((_ ≠ _ ∧ _ ≠ _ ∧ _ ≠ _) ∧ _) => q9z9; with_reducible first | exact q9z9.1.1 | exact Ne.symm q9z9.1.1 | exact q9z9.1.2.1 | exact Ne.symm q9z9.1.2.1 | exact q9z9.1.2.2 | exact Ne.symm q9z9.1.2.2 | (replace q9z9 := q9z9.2; kby_size)) | (rename (_ ≠ _ ∧ _ ≠ _ ∧ _ ≠ _) => q9z9; with_reducible first | exact q9z9.1 | exact Ne.symm q9z9.1 | exact q9z9.2.1 | exact Ne.symm q9z9.2.1 | exact q9z9.2.2 | exact Ne.symm q9z9.2.2))
  k_with "k_ne" => (first | kby_size | (refine neN ?_; (try dsimp only); omega (config := { splitDisjunctions := false })))
  k_with "k_ne" => (first | kby_size | (refine neN (Nat.ne_of_gt ?_); k_extra "pl") | (refine neN (Nat.ne_of_lt ?_); k_extra "pl"))
  k_with "ktr_room" => (first | exact rm2 (by assumption) rfl | exact rm1 (by assumption) rfl | exact rm0 (by assumption) | exact rm3 (by assumption) rfl)
  k_with "ktr_units" => (first | exact rm2 (by assumption) rfl | exact rm1 (by assumption) rfl | exact rm0 (by assumption) | exact rm3 (by assumption) rfl)
  k_with "k_mem" => (first | assumption | exact RowsIn.at (by assumption) (by assumption))
  k_with "subscriptTail" => ((k_here; (with_reducible show wpAny _ _ (subscriptTail _ _ (Value.ref _) (Value.str _ _)) _ _ _); k_dflt (refine' kda_item (knd := PySem.strKind _ _) ?N ?hp ?hd (strKind_is _ _ _ _) ?hl ?_; (case N => k_asm); (case hp => k_mem); (case hd => k_asm); (case hl => rfl)); (try dsimp only)))
  k_with "exec For Name Subscript cons nil" => ((k_here; (rename Fr _ _ _ _ => lFz9); (with_unfolding_all refine' For_invVF lFz9 ?k1 ?k2 ?_; (case k1 => exact rfl); (case k2 => exact rfl); k_whole)))
  k_with "eval ListComp" => ((k_here; (with_reducible show wpAny _ _ (eval (Expr.ListComp _ [Comprehension.mk (Expr.Name _ _) _ [_] _] _ _) _) _ _ _); k_dflt (refine LCt.ListComp_T (F₀ := by k_asm) (by with_unfolding_all rfl) (by decide) (by rfl) (by decide) (by rfl) ?_)))
  k_with "CompSrcT" => ((k_here; k_dflt (refine LCt.CompSrcT.ledger (by rfl) (by k_asm) (by k_asm) (by k_mem) (by first | size_fits | (simp only [List.size_toArray, List.length_map, sizeLine_eq]; omega)) ?_); intro gz9))
  k_with "setItem ref str" => ((k_here; k_dflt (refine' kda_set (knd := PySem.strKind _ _) ?F ?N ?U ?d (strKind_is _ _ _ _) ?z ?_; (case F => k_asm); (case N => k_asm); (case U => k_updF); (case d => k_asm); (case z => rw [sizeLine_eq]; exact Nat.le_of_ble_eq_true (by with_unfolding_all rfl))); intro hz9 oz9 Fz9 Nz9 hdz9; (try dsimp only at Nz9)))
  k_with "is_list" => (exact News.isList (by k_asm) (by k_mem))
  k_with "ke_room" => (ktr_units)
  k_with "k_units" => (ktr_units)
  k_with "subscriptTail" => ((k_here; (with_reducible show wpAny _ _ (subscriptTail _ _ (Value.ref _) (Value.int _ _)) _ _ _); k_dflt (refine' my_item ?N ?hm ?h0 ?hhi ?hx ?_; (case N => k_asm); (case hm => k_mem); (case h0 => with_reducible assumption); (case hhi => with_reducible assumption); (case hx => with_reducible assumption))))
  k_with "ktr_rel" => (first | assumption | exact RowsIn.filter (by assumption) | (refine RowsIn.cons ?_; ktr_rel))
  k_with "ktr_unf" => (assumption)
  k_with "tb_rel" => (first | with_reducible assumption | (first | k_extra "pl" | k_extra "pa") | assumption | omega)
  k_with "tb_start" => (first | exact List.forall_mem_nil _ | (refine List.forall_mem_cons.mpr ⟨⟨by tb_rel, by tb_rel, by tb_rel⟩, ?_⟩; tb_start) | (refine List.forall_mem_cons.mpr ⟨⟨by tb_rel, by tb_rel, by tb_rel, by tb_rel⟩, ?_⟩; tb_start))
  k_with "call builtin:list.pop" => ((k_here; (try (rename News _ _ _ _ => N9pz9; simp only [List.push_toArray] at N9pz9)); k_dflt ((refine' my_pop0 ?F ?N ?U ?hi ?hne ?hz ?_); (case F => k_asm); (case N => k_asm); (case U => k_upd); (case hi => first | assumption | exact ints_snoc (by assumption)); (case hne => first | assumption | exact of_decide_eq_false (by assumption) | simp); (case hz => (try simp only [List.length_append, List.length_cons, List.length_nil]); omega)); intro t9z9 h9z9 F9z9 N9z9 hi9z9))
  k_with "call builtin:list.append" => ((k_here; (with_reducible show wpAny _ _ (call (Value.builtin _) [Value.ref _, _]) _ _ _); k_dflt (refine' append_K ?k1 ?k2 ?k3 ?_ ?z; (case k1 => k_asm); (case k2 => k_asm); (case k3 => k_upd); (case z => (simp only [List.size_toArray, List.length_tail, sizeLine_eq]; omega)); k_whole); intro hz9 Fz9 Nz9; (try simp only [List.push_toArray] at Nz9); (try k_sweep)))
  k_with "subscriptTail Name Name ref int" => ((k_here; (with_reducible show wpAny _ _ (subscriptTail _ _ (Value.ref _) (Value.int _ _)) _ _ _); k_dflt (first | (refine' my_item ?N ?hm ?h0 ?hhi ?hx ?_; (case N => k_asm); (case hm => k_mem); (case h0 => with_reducible assumption); (case hhi => with_reducible assumption); (case hx => with_reducible assumption)) | (refine' my_item ?N ?hm ?h0 ?hhi ?hx ?_; (case N => k_asm); (case hm => k_mem); (case h0 => decide); (case hhi => decide); (case hx => rfl)))))
  k_with "subscriptTail Attribute" => ((k_here; (with_reducible show wpAny _ _ (subscriptTail _ _ (Value.ref _) (Value.int _ _)) _ _ _); k_dflt (first | (refine' my_item ?N ?hm ?h0 ?hhi ?hx ?_; (case N => k_asm); (case hm => k_mem); (case h0 => with_reducible assumption); (case hhi => with_reducible assumption); (case hx => with_reducible assumption)) | (refine' my_item ?N ?hm ?h0 ?hhi ?hx ?_; (case N => k_asm); (case hm => k_mem); (case h0 => decide); (case hhi => decide); (case hx => rfl)))))
  k_with "subscriptTail Subscript" => ((k_here; (with_reducible show wpAny _ _ (subscriptTail _ _ (Value.ref _) (Value.int _ _)) _ _ _); k_dflt (first | (refine' my_item ?N ?hm ?h0 ?hhi ?hx ?_; (case N => k_asm); (case hm => k_mem); (case h0 => with_reducible assumption); (case hhi => with_reducible assumption); (case hx => with_reducible assumption)) | (refine' my_item ?N ?hm ?h0 ?hhi ?hx ?_; (case N => k_asm); (case hm => k_mem); (case h0 => decide); (case hhi => decide); (case hx => rfl)))))
  k_with "call ref" => ((k_here; guard_target =~ wpAny _ _ (call (Value.ref 302) _) _ _ _; k_dflt (refine' scoop_upd ?u0 ?u1 ?u2 ?u3 ?u4 ?u5 ?u6 ?u7 ?u8 ?u9 ?u10 ?u11 ?u12 ?u13 ?_; k_extra "gnd"; (case u8 => k_updF); (case u9 => assumption); (case u10 => assumption); (case u11 => assumption); (case u12 => first | decide | assumption | omega); (case u13 => first | decide | assumption | omega)); (intro y0 y1 y2 y3 y4 y5 y6 y7 y8 y9 y10 y11 y12 y13 yN; (try dsimp only at yN))))
  k_with "exec For Name Call cons nil" => (refine Stop.intro ?_)
  k_with "call ref" => ((k_here; k_dflt (refine' call_cls ?k1 ?k2 ?k3 ?k4 ?k5 ?k6 ?_; (case k1 => k_asm); (case k2 => k_asm); (case k3 => k_asm); (case k4 => k_is); (case k5 => k_is); (case k6 => k_is); k_whole; intro xz9 dz9 hz9 Fz9 Nz9 l1z9 l2z9; (try k_lt l1z9); (try k_lt2 l2z9); (try k_sweep); (refine' code_def ?k1 ?k2 ?k3 ?k4 ?k5 ?kA ?kF ?kK ?k6 ?k7 ?k8 ?k9 ?kB ?_ ?c2 ?c3 ?c4 ?c5; (case kA => exact rfl); (case kF => exact rfl); (case kK => first | exact rfl | assumption); (case k1 => k_asm); (case k2 => k_asm); (case k3 => k_asm); (case k4 => k_asm); (case k5 => k_asm); (case k6 => k_is); (case k7 => k_is); (case k8 => ktr_room); (case k9 => exact BindsTo.of_eq rfl); (case c5 => decide); (case kB => exact locs rfl); (case c2 => exact rfl); (case c3 => exact rfl); (case c4 => exact rfl); k_whole; intro gz9 Lz9 hz9 FGz9 Fz9 Nz9 Bz9 Xz9 Tz9; (try dsimp only); (try k_fold)))))
  k_with "CompSrc" => ((k_here; k_dflt (first
  | (refine LCg.CompSrc.ledger (by rfl) (by k_asm) (by k_asm) (by k_mem) (by first | size_fits | exact Nat.le_of_ble_eq_true rfl) ?_; intro gz9; lcg_lit)
  | (refine LCg.CompSrc.range (by rfl) (by k_asm) (by k_asm) (by assumption) (by first | decide | rfl) (by first | rfl | decide) (by first | size_fits | exact Nat.le_of_ble_eq_true rfl) ?_; intro gz9; lcg_lit))))
  k_with "call ref" => ((k_here; (with_reducible show wpAny _ _ (call (Value.ref 63) _) _ _ _); k_dflt (refine wpAny_call ?_; (refine' code_def ?k1 ?k2 ?k3 ?k4 ?k5 ?kA ?kF ?kK ?k6 ?k7 ?k8 ?k9 ?kB ?_ ?c2 ?c3 ?c4 ?c5; (case kA => exact rfl); (case kF => exact rfl); (case kK => first | exact rfl | assumption); (case k1 => k_asm); (case k2 => k_asm); (case k3 => k_asm); (case k4 => k_asm); (case k5 => k_asm); (case k6 => k_is); (case k7 => k_is); (case k8 => ktr_room); (case k9 => exact BindsTo.of_eq rfl); (case c5 => decide); (case kB => exact locs rfl); (case c2 => exact rfl); (case c3 => exact rfl); (case c4 => exact rfl); k_whole; intro gz9 Lz9 hz9 FGz9 Fz9 Nz9 Bz9 Xz9 Tz9; (try dsimp only); (try k_fold)))))
  k_with "lcg_off" => (first | exact True.intro | assumption | (refine And.intro ⟨by lcg_off, by lcg_off, by lcg_off⟩ ?_; lcg_off) | k_ne)
  k_with "CompEnd" => (lcg_end)
  k_with "KdnMade" => ((k_here; k_dflt (refine' kdn_made_str ?F ?N ?U ?d ?k ?n ?_; (case F => k_asm); (case N => k_asm); (case d => k_asm); (case U => k_updF); (case k => rfl); (case n => exact of_decide_eq_true (by first | rfl | kernel_rfl!)); intro hz9 oz9 Fz9 Nz9 hdz9); (try dsimp only at Nz9)))
  k_with "k_mem" => (assumption)
  k_with "call type:range" => ((k_here; (with_reducible show wpAny _ _ (call _ [Value.int _ _]) _ _ _); (rename Fr _ _ _ _ => lFz9); (rename News _ _ _ _ => lNz9); k_dflt (refine range1_rows lFz9 lNz9 ?_); intro _ _ _ _ _ _ _ _ _))
  k_with "pyIter ref" => (((with_reducible show wpAny _ _ (pyIter (Value.ref _)) (fun it s₂ => LoopAtV _ _ _ _ _ _ _ _ _ it s₂) _ _); refine Stop.intro ?_))
  k_with "compareOp NotEq ref ref" => (((have hmm9z9 : Mark := (by assumption)); refine Stop.intro ?_))
  k_with "compareOp Eq ref ref" => (((have hmm9z9 : Mark := (by assumption)); refine Stop.intro ?_))
  k_with "UnrEnd" => (refine Stop.intro ?_)
  k_with "call ref" => ((k_here; guard_target =~ wpAny _ _ (call (Value.ref 349) _) _ _ _; k_dflt (refine' deed_rule ?u0 ?u1 ?u2 ?u3 ?u4 ?u5 ?u6 ?u7 ?u8 ?u9 ?u10 ?u11 ?u12 ?u13 ?u14 ?u15 ?u16 ?u17 ?u18 ?u19 ?u20 ?u21 ?_; k_extra "gnd"; (case u8 => exact off_of_toff (by assumption)); (case u9 => exact pot_of_toff (by assumption)); (case u10 => assumption); (case u11 => assumption); (case u12 => assumption); (case u13 => assumption); (case u14 => assumption); (case u15 => omega); (case u16 => exact len_le (by assumption) (by omega)); (case u17 => assumption); (case u18 => assumption); (case u19 => assumption); (case u20 => omega); (case u21 => omega)); (intro ad9z9 ob9z9 pool9z9 b9z9 hs9z9 rows9z9 rows29z9 R9z9 p09z9 p19z9 t09z9 t19z9 h9z9 tk9z9 M9z9 O9z9 RC9z9 RB9z9 e19z9 e29z9 l9z9 lh9z9 q09z9 q19z9 q29z9 k9z9 F9z9 N9z9); (refine right_elim RC9z9 RB9z9 ?_; intro nw9z9 nv9z9 vs09z9 vs19z9 ws09z9 ws19z9 n09z9 n19z9 k09z9 k19z9 f1z9 f2z9 f3z9 f4z9 f5z9 f6z9 f7z9 f8z9 f9z9 g1z9 g2z9 g3z9 g4z9 g5z9 g6z9 g7z9 g8z9 i1z9 i2z9 i3z9 i4z9 j1z9 j2z9); (have kc9z9 := led_pool (ad := ad9z9) (ob := ob9z9) (k9z9 _ (by assumption))); (refine lens_elim (by assumption) lh9z9 (by assumption) i1z9 i2z9 i3z9 i4z9 ?_; intro z1z9 z2z9 z3z9 z4z9 z5z9 z6z9)))
  k_with "subscriptTail" => ((k_here; (with_reducible show wpAny _ _ (subscriptTail _ _ (Value.ref _) (Value.str _ _)) _ _ _); k_dflt (refine' kda_item (knd := PySem.strKind _ _) ?N ?hp ?hd (strKind_is _ _ _ _) ?hl ?_; (case N => k_asm); (case hp => k_mem); (case hd => k_asm); (case hl => rfl)); (try dsimp only)))
  k_with "subscriptTail" => ((k_here; (with_reducible show wpAny _ _ (subscriptTail _ _ (Value.ref _) (Value.int _ _)) _ _ _); k_dflt (refine my_item (by k_asm) (by k_mem) (by decide) (by decide) (by rfl) ?_)))
  k_with "CompEnd" => ((k_dflt (refine LCg.CompEnd.intro (by k_asm) (by k_asm) _ (fun p hp => hp) (by assumption) (by first | exact True.intro | exact Or.inr ⟨_, by k_mem, rfl, _, rfl⟩ | exact Or.inl (by assumption)) ?_)))
  k_with "call builtin:len" => ((k_here; (with_reducible show wpAny _ _ (call (Value.builtin "len") [Value.ref _]) _ _ _); k_dflt (refine my_len (by k_asm) (by k_mem) (by first | assumption | omega | (simp only [List.length_map, List.length_append, List.length_cons, List.length_nil]; omega)) ?_); intro t9z9 tk9z9))
  k_with "tb_rel" => (exact allLt_trans (by assumption) (by assumption : _ ∧ _ ∧ AllLt _ _).2.2)
  k_with "call ref" => (((with_reducible show wpAny _ _ (call (Value.ref 117) _) _ _ _); refine Stop.intro ?_))
  k_with "call ref" => (((with_reducible show wpAny _ _ (call (Value.ref 152) _) _ _ _); refine Stop.intro ?_))
  k_with "call ref" => (((with_reducible show wpAny _ _ (call (Value.ref 124) _) _ _ _); refine Stop.intro ?_))
  k_with "call ref" => (((with_reducible show wpAny _ _ (call (Value.ref 354) _) _ _ _); refine Stop.intro ?_))
  k_with "call ref" => (((with_reducible show wpAny _ _ (call (Value.ref 366) _) _ _ _); refine Stop.intro ?_))
  k_with "compareOp NotEq ref ref" => (refine Stop.intro ?_)
  exact ⟨rfl, rfl⟩
set_option maxRecDepth 100000 in
set_option maxHeartbeats 8000000 in
theorem top : Challenge.rw_xm0171_01.Holds := hd (by
  k_go0
  all_goals try (refine name_q ?_; intro q9 x9)
  rename Shared => s
  k_steps
  with_reducible refine Stop.out ?_
  rename News _ _ _ _ => qN
  rename Fr _ _ _ _ => qF
  obtain ⟨ct, ot, nc, nl, nw, rest, N1, D1, m1, m2, m3, m4⟩ := first_start qN (by repeat (first | exact Falls.one | refine Falls.cons (by tb_rel) ?_))
  clear qN
  k_dflt refine fsend (by k_asm) qF (by k_asm) (by k_asm) (by first | exact rfl | assumption) (by ktr_room) (by ktr_units) N1 D1 m1 m2 (rows := []) (fun q hq => nomatch hq) (by decide) (by decide) (by decide) rfl m3 m4 .nil (by decide) ?_
  intro r2 w2 nw2 vs2 nl2 fresh2 h2 tk2 i2 D2 F2 N2 b2
  have m1 := List.mem_append_right fresh2 m1
  have m2 := List.mem_append_right fresh2 m2
  have m3 := List.mem_append_right fresh2 m3
  have m4 := List.mem_append_right fresh2 m4
  rw [show sendF false [] [] 0 5 = ⟨resD sentD [], [5], []⟩ from rfl] at i2 N2 b2
  dsimp only at i2 N2 b2
  clear qF N1 D1
  k_steps
  with_reducible refine Stop.out ?_
  rename News _ _ _ _ => qN
  rename Fr _ _ _ _ => qF
  rename (_ ∧ _ ∧ _ ∧ _ ∧ AllLt _ _) => q5
  rename (_ ∧ _ ∧ _ ∧ AllLt _ _) => q4
  k_dflt refine fwait2 (k := true) (rows := []) (by k_asm) qF (by k_asm) (by k_asm) (by first | exact rfl | assumption) (by ktr_room) (by ktr_units) qN D2 ⟨q4.1, q4.2.1, q4.2.2.1⟩ ⟨q5.2.1, q5.2.2.1, q5.2.2.2.1⟩ m1 (by decide) ?_
  intro new nw3 fresh3 h3 tk3 en hr3 D4 F3 N3
  obtain ⟨t, rfl, et⟩ := one_row en
  have m1 := List.mem_append_right fresh3 m1
  have m2 := List.mem_append_right fresh3 m2
  have m3 := List.mem_append_right fresh3 m3
  have m4 := List.mem_append_right fresh3 m4
  clear qF qN D2 q4 q5
  k_steps
  with_reducible refine Stop.out ?_
  rename News _ _ _ _ => qN
  rename Fr _ _ _ _ => qF
  k_dflt refine ftake (by k_asm) qF (by k_asm) (by k_asm) (by first | exact rfl | assumption) (by ktr_room) (by ktr_units) qN D4 m1 m2 hr3 (Nat.le_of_ble_eq_true rfl) (by decide) (by decide) rfl m3 m4 i2 (by decide) ?_
  rw [take_one et]
  dsimp only
  intro r5 w5 nw5 vs5 nl5 fresh5 h5 tk5 i5 D5 F5 N5 b5
  have m1 := List.mem_append_right fresh5 m1
  have m2 := List.mem_append_right fresh5 m2
  have m3 := List.mem_append_right fresh5 m3
  have m4 := List.mem_append_right fresh5 m4
  clear qF qN D4 hr3 i2 b2 en et
  k_steps
  rename News _ _ _ _ => qN
  k_dflt refine' ne_same (n := 4) qN ?ha ?hb sh_woken (Nat.le_of_ble_eq_true rfl) ?hu ?_
  case ha => exact Bears.mono b5 fun p hp => .tail _ (.tail _ (.tail _ (.tail _ (.tail _ (.tail _ (.tail _ (.tail _ (List.mem_append_left _ hp))))))))
  case hb => exact bears_woken (.head _) (.tail _ (.tail _ (.tail _ (.tail _ (.head _))))) (.tail _ (.head _)) (.tail _ (.tail _ (.head _))) (.tail _ (.tail _ (.tail _ (.head _))))
  case hu => ktr_units
  have N6 := News.sub qN fun p hp => List.Mem.tail _ (List.Mem.tail _ (List.Mem.tail _ (List.Mem.tail _ (List.Mem.tail _ hp))))
  clear qN b5
  k_steps
  with_reducible refine Stop.out ?_
  rename News _ _ _ _ => qN
  rename Fr _ _ _ _ => qF
  k_dflt refine ftake (rows := []) (by k_asm) qF (by k_asm) (by k_asm) (by first | exact rfl | assumption) (by ktr_room) (by ktr_units) qN D5 m1 m2 (fun q hq => nomatch hq) (Nat.le_of_ble_eq_true rfl) (by decide) (by decide) rfl m3 m4 i5 (by decide) ?_
  rw [show takeF [6] [] 0 = ⟨resD (recvD (.int 6) true) [], [], []⟩ from rfl]
  dsimp only
  intro r7 w7 nw7 vs7 nl7 fresh7 h7 tk7 i7 D7 F7 N7 b7
  clear m1 m2 m3 m4 i7 D7 qF qN D5 i5
  k_steps
  rename News _ _ _ _ => qN
  k_dflt refine' ne_same (n := 4) qN ?ha ?hb sh_none (Nat.le_of_ble_eq_true rfl) ?hu ?_
  case ha => exact Bears.mono b7 fun p hp => .tail _ (.tail _ (.tail _ (.tail _ (.tail _ (.tail _ (List.mem_append_left _ hp))))))
  case hb => exact bears_none (.head _) (.tail _ (.tail _ (.head _))) (.tail _ (.head _))
  case hu => ktr_units
  have N8 := News.sub (l' := []) qN fun p hp => (nomatch hp)
  clear qN b7
  k_steps
  all_goals (
    with_reducible refine Stop.out ?_
    rename News _ _ _ _ => qN
    rename Fr _ _ _ _ => qF
    k_dflt refine right_rule (by k_asm) qF (by k_asm) (by k_asm) (by first | exact rfl | assumption) (by ktr_room) (by ktr_units) qN (by omega) (pot_low _).1 (pot_low _).2 ?_
    clear qN qF
    intro p0 p1 u0 u1 h9 tk9 q0 q1 q2 qF qN
    k_steps
    with_reducible refine Stop.out ?_
    k_dflt refine routines_rule (by k_asm) qF (by k_asm) (by k_asm) (by first | exact rfl | assumption) (by ktr_room) (by ktr_units) qN q0 q1 q2 (by k_asm) (by k_asm) ktsDicts_nil ?_
    intro h8 tk8 keep8
    k_steps
    exact law_good keep8 (by assumption) rfl))
end Mine
theorem PySem.Challenge.cw_xm0171_01_holds : PySem.Challenge.rw_xm0171_01.Holds :=
  Mine.top
