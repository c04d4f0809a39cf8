import PyProof.Rows.All
import Wide.All
import OpenK.AllK
import Wide.FinOn
import Lean
import PySem.Challenge.RW_xm0762_01
open PySem PySem.W PyProof.Rows
set_option Elab.async false
set_option linter.unusedVariables false
set_option linter.unusedSimpArgs false
namespace Mine
def seed : Str := Str.ofString "a"
theorem seed_eq : seed = seed := rfl
name_quick tw16494616584097029746 for seed by seed_eq
name_quick tw15560500314895047343 for seed by seed_eq
name_quick tw3093977132361051618 for seed by seed_eq
name_quick tw13597890204796452341 for seed by seed_eq
name_quick tw16644606511662114574 for seed by seed_eq
name_quick tw4011157648589011858 for seed by seed_eq
name_quick tw17057272898397164401 for seed by seed_eq
name_quick tw607167704815816724 for seed by seed_eq
name_quick tw3424931102881643321 for seed by seed_eq
name_quick tw6434138532213402376 for seed by seed_eq
name_quick tw17325535178939296128 for seed by seed_eq
name_quick tw8424611434330503625 for seed by seed_eq
name_quick tw11838138170533393997 for seed by seed_eq
name_quick tw15900120412870309639 for seed by seed_eq
name_quick tw868157144444988819 for seed by seed_eq
name_quick tw9467589175468403638 for seed by seed_eq
name_quick tw16326889199254633757 for seed by seed_eq
name_quick tw5189142188285759775 for seed by seed_eq
name_quick tw7250012664060256230 for seed by seed_eq
name_quick tw10938465397075749097 for seed by seed_eq
name_quick tw1379578315556383370 for seed by seed_eq
name_quick tw11939915149646268982 for seed by seed_eq
name_quick tw16697116713213952808 for seed by seed_eq
name_quick tw716658179208862652 for seed by seed_eq
name_quick tw1218959903707654005 for seed by seed_eq
name_quick tw16846860572762119324 for seed by seed_eq
name_quick tw16406328271908756883 for seed by seed_eq
name_quick tw11994158751524154303 for seed by seed_eq
name_quick tw13759679279233594173 for seed by seed_eq
name_quick tw8620020772036689432 for seed by seed_eq
name_quick tw17532440430192770315 for seed by seed_eq
name_quick tw13725850141900786883 for seed by seed_eq
name_quick tw10030586065758793078 for seed by seed_eq
name_quick tw14834023430324568649 for seed by seed_eq
name_quick tw7365555872484859036 for seed by seed_eq
name_quick tw13016732220969518872 for seed by seed_eq
name_quick tw6380047634161181297 for seed by seed_eq
name_quick tw14714103240675001986 for seed by seed_eq
name_quick tw6448080314894763839 for seed by seed_eq
name_quick tw6059929106960060952 for seed by seed_eq
name_quick tw9787396351842916947 for seed by seed_eq
name_quick tw4434333111790514575 for seed by seed_eq
name_quick tw6722154040420286063 for seed by seed_eq
name_quick tw5976474108018559520 for seed by seed_eq
name_quick tw14778209649434054790 for seed by seed_eq
name_quick tw13180171748994924942 for seed by seed_eq
name_quick tw8703263022893421829 for seed by seed_eq
name_quick tw6465293525145412827 for seed by seed_eq
name_quick tw1355338860687761863 for seed by seed_eq
name_quick tw392140993173905013 for seed by seed_eq
name_quick tw5396446701170858492 for seed by seed_eq
name_quick tw11036193050239951465 for seed by seed_eq
name_quick tw16413264400604254196 for seed by seed_eq
name_quick tw16339471991904476338 for seed by seed_eq
name_quick tw10758392820592806131 for seed by seed_eq
name_quick tw17475289236778735526 for seed by seed_eq
name_quick tw17863021456227041891 for seed by seed_eq
name_quick tw16350708796919097252 for seed by seed_eq
name_quick tw7094674258960923220 for seed by seed_eq
name_quick tw4109823476700235019 for seed by seed_eq
name_quick tw12224578244612797663 for seed by seed_eq
name_quick tw1102190903223815498 for seed by seed_eq
name_quick tw13678640442995254988 for seed by seed_eq
name_quick tw4275521005467322725 for seed by seed_eq
name_quick tw2736616831223182526 for seed by seed_eq
name_quick tw18260038339965228139 for seed by seed_eq
name_quick tw3267979357774110234 for seed by seed_eq
name_quick tw13607416678640721797 for seed by seed_eq
name_quick tw14713114571183564278 for seed by seed_eq
name_quick tw4797165386629745026 for seed by seed_eq
name_quick tw1537898542681612871 for seed by seed_eq
name_quick tw18340240734955500558 for seed by seed_eq
name_quick tw1139862187096482527 for seed by seed_eq
name_quick tw4224760802259116069 for seed by seed_eq
name_quick tw10887116778572429059 for seed by seed_eq
name_quick tw17730428716208468724 for seed by seed_eq
name_quick tw5152784196030571298 for seed by seed_eq
name_quick tw15894407043143930727 for seed by seed_eq
name_quick tw3131671291697673992 for seed by seed_eq
name_quick tw4549333791460862111 for seed by seed_eq
name_quick tw17988542015724977305 for seed by seed_eq
name_quick tw17719373434677690450 for seed by seed_eq
name_quick tw3778451253796500701 for seed by seed_eq
name_quick tw4407734736301137906 for seed by seed_eq
name_quick tw11519604305632133818 for seed by seed_eq
name_quick tw503676674663206642 for seed by seed_eq
name_quick tw15323854079317868165 for seed by seed_eq
name_quick tw8783367066174898617 for seed by seed_eq
name_quick tw10500077913531017323 for seed by seed_eq
name_quick tw6952355047532471503 for seed by seed_eq
name_quick tw1184552218554016812 for seed by seed_eq
name_quick tw11495947367809530248 for seed by seed_eq
name_quick tw1291980286583624508 for seed by seed_eq
name_quick tw7082770336023389322 for seed by seed_eq
name_quick tw10424941004445345732 for seed by seed_eq
name_quick tw8119918657739134586 for seed by seed_eq
name_quick tw3952652319720093869 for seed by seed_eq
name_quick tw17341736924252097559 for seed by seed_eq
name_quick tw8459811325457737761 for seed by seed_eq
name_quick tw4090926877573551719 for seed by seed_eq
name_quick tw12432611245803897562 for seed by seed_eq
name_quick tw6929956602132211858 for seed by seed_eq
name_quick tw219737044198020058 for seed by seed_eq
name_quick tw17842620306162639686 for seed by seed_eq
name_quick tw1414301608579184545 for seed by seed_eq
name_quick tw5925582254088234700 for seed by seed_eq
name_quick tw3325841961599345399 for seed by seed_eq
name_quick tw17001327861769816259 for seed by seed_eq
name_quick tw7504490480230193789 for seed by seed_eq
name_quick tw16916688483869632129 for seed by seed_eq
name_quick tw3766158894648301139 for seed by seed_eq
name_quick tw394956028392838509 for seed by seed_eq
name_quick tw5721027456603625697 for seed by seed_eq
name_quick tw11270796479367742343 for seed by seed_eq
name_quick tw2504098582860672743 for seed by seed_eq
name_quick tw14305139224198610471 for seed by seed_eq
name_quick tw13036272033356848781 for seed by seed_eq
name_quick tw14971970265804392439 for seed by seed_eq
name_quick tw325292655437039998 for seed by seed_eq
name_quick tw6426273055680023932 for seed by seed_eq
name_quick tw3953757239420563355 for seed by seed_eq
name_quick tw14654518384597184485 for seed by seed_eq
name_quick tw2378363196638174374 for seed by seed_eq
name_quick tw17429684086410527887 for seed by seed_eq
name_quick tw17434858337260393937 for seed by seed_eq
name_quick tw7392212959928792091 for seed by seed_eq
name_quick tw17899373020297197333 for seed by seed_eq
name_quick tw16180483070735683940 for seed by seed_eq
name_quick tw6179359751918216688 for seed by seed_eq
name_quick tw7499937903120025604 for seed by seed_eq
name_quick tw12866136484021002089 for seed by seed_eq
name_quick tw11317593695737139937 for seed by seed_eq
name_quick tw2401699919119007470 for seed by seed_eq
name_quick tw3880421473898291048 for seed by seed_eq
name_quick tw2611137233208623240 for seed by seed_eq
name_quick tw13512673800721320934 for seed by seed_eq
name_quick tw12945968074294007009 for seed by seed_eq
name_quick tw9529234661008812162 for seed by seed_eq
name_quick tw8708707556590381134 for seed by seed_eq
name_quick tw9206804518496725263 for seed by seed_eq
name_quick tw16817318245366136608 for seed by seed_eq
name_quick tw13987355940573415152 for seed by seed_eq
name_quick tw18163708392712065173 for seed by seed_eq
name_quick tw8516911021179611081 for seed by seed_eq
name_quick tw9948023125614773506 for seed by seed_eq
name_quick tw16349804527192203551 for seed by seed_eq
name_quick tw5529568453561195837 for seed by seed_eq
name_quick tw3355348695024010778 for seed by seed_eq
name_quick tw16366562015402752707 for seed by seed_eq
name_quick tw10563471281537121611 for seed by seed_eq
name_quick tw16241802466949684156 for seed by seed_eq
name_quick tw12809422525583811893 for seed by seed_eq
name_quick tw17183712847048597117 for seed by seed_eq
name_quick tw5758256569797452207 for seed by seed_eq
name_quick tw3577408171920636059 for seed by seed_eq
name_quick tw13833065179229638619 for seed by seed_eq
name_quick tw12329403913580668285 for seed by seed_eq
name_quick tw2408619945344806742 for seed by seed_eq
name_quick tw9413167413068371254 for seed by seed_eq
name_quick tw1962928258387122110 for seed by seed_eq
name_quick tw16439824349840649037 for seed by seed_eq
name_quick tw470574548607681690 for seed by seed_eq
name_quick tw1419416864934026935 for seed by seed_eq
name_quick tw11740888236361828772 for seed by seed_eq
name_quick tw4978915544186085027 for seed by seed_eq
name_quick tw8719427161674164953 for seed by seed_eq
name_quick tw8603108125212654177 for seed by seed_eq
name_quick tw15542503528162795033 for seed by seed_eq
name_quick tw12734952128020822468 for seed by seed_eq
name_quick tw3209381107111851631 for seed by seed_eq
name_quick tw2958062672499776758 for seed by seed_eq
name_quick tw15376083050721069600 for seed by seed_eq
name_quick tw17532718790514356516 for seed by seed_eq
name_quick tw7783732958741208154 for seed by seed_eq
name_quick tw2627984346626558326 for seed by seed_eq
name_quick tw13809362725867891129 for seed by seed_eq
name_quick tw17069979004554194336 for seed by seed_eq
name_quick tw3764465048917985505 for seed by seed_eq
name_quick tw11462045893675790159 for seed by seed_eq
name_quick tw1702518465993881591 for seed by seed_eq
name_quick tw5032809538720368765 for seed by seed_eq
name_quick tw5357591511691535388 for seed by seed_eq
name_quick tw7987952416473584550 for seed by seed_eq
name_quick tw5345256250457102556 for seed by seed_eq
name_quick tw13314330512976039754 for seed by seed_eq
name_quick tw15079194523842364033 for seed by seed_eq
name_quick tw10227693086864044499 for seed by seed_eq
name_quick tw9281714027785469542 for seed by seed_eq
name_quick tw16437185098154296904 for seed by seed_eq
name_quick tw8881496252177385917 for seed by seed_eq
name_quick tw6909570525239066004 for seed by seed_eq
name_quick tw10487160056961263569 for seed by seed_eq
name_quick tw11957962974430299695 for seed by seed_eq
name_quick tw17101871299007795629 for seed by seed_eq
name_quick tw17000458434675057986 for seed by seed_eq
name_quick tw17517737089405305841 for seed by seed_eq
name_quick tw2711585505577850959 for seed by seed_eq
name_quick tw14323765505736481980 for seed by seed_eq
name_quick tw13615603153576403970 for seed by seed_eq
name_quick tw6550987210724342151 for seed by seed_eq
name_quick tw441327347791068078 for seed by seed_eq
name_quick tw8693227569615203950 for seed by seed_eq
name_quick tw9800571698397750058 for seed by seed_eq
name_quick tw13640514254501968386 for seed by seed_eq
name_quick tw9012449721348205671 for seed by seed_eq
name_quick tw15601113415458257849 for seed by seed_eq
name_quick tw8579058602437062094 for seed by seed_eq
name_quick tw14896874001708588922 for seed by seed_eq
name_quick tw3972328310683599613 for seed by seed_eq
name_quick tw17554001833073541016 for seed by seed_eq
name_quick tw14957318262639276076 for seed by seed_eq
name_quick tw7591738399710811712 for seed by seed_eq
name_quick tw17943406268862710625 for seed by seed_eq
name_quick tw667198328695590252 for seed by seed_eq
name_quick tw11277413387252134812 for seed by seed_eq
name_quick tw12095823642532355627 for seed by seed_eq
name_quick tw4775785305629353868 for seed by seed_eq
name_quick tw14537914154153760125 for seed by seed_eq
name_quick tw6144853644547557980 for seed by seed_eq
name_quick tw2354101950205528012 for seed by seed_eq
name_quick tw14981143343336467331 for seed by seed_eq
name_quick tw8656719876789144132 for seed by seed_eq
name_quick tw10919533547850550483 for seed by seed_eq
name_quick tw14108194823987119177 for seed by seed_eq
name_quick tw14311459727803291754 for seed by seed_eq
name_quick tw725871291056497461 for seed by seed_eq
name_quick tw136631920214876835 for seed by seed_eq
name_quick tw912392155897948271 for seed by seed_eq
name_quick tw13252181687094117063 for seed by seed_eq
name_quick tw196644378293983589 for seed by seed_eq
name_quick tw14837249469386935497 for seed by seed_eq
name_quick tw7299303143086499733 for seed by seed_eq
name_quick tw3865406201487662470 for seed by seed_eq
name_quick tw13160144027095335755 for seed by seed_eq
name_quick tw7581352650102555174 for seed by seed_eq
name_quick tw13981391230805400906 for seed by seed_eq
name_quick tw8017206721242287953 for seed by seed_eq
name_quick tw3470799630455053000 for seed by seed_eq
name_quick tw15195428891847259777 for seed by seed_eq
name_quick tw608726401823008365 for seed by seed_eq
name_quick tw4936483359421988267 for seed by seed_eq
name_quick tw14433975572909055671 for seed by seed_eq
name_quick tw1749818173716722547 for seed by seed_eq
name_quick tw5701610774189311196 for seed by seed_eq
name_quick tw3891137856419664920 for seed by seed_eq
name_quick tw7496433998918960881 for seed by seed_eq
name_quick tw2283851925072248500 for seed by seed_eq
name_quick tw13915792640404377917 for seed by seed_eq
name_quick tw7619357645376055252 for seed by seed_eq
name_quick tw12726346659333912481 for seed by seed_eq
name_quick tw2599325451414397859 for seed by seed_eq
name_quick tw10057510723706494237 for seed by seed_eq
name_quick tw6363645014702824404 for seed by seed_eq
name_quick tw3442601649717412197 for seed by seed_eq
name_quick tw4613930686462287906 for seed by seed_eq
name_quick tw3436264866546951355 for seed by seed_eq
name_quick tw4075660801711882420 for seed by seed_eq
name_quick tw5565278806992967083 for seed by seed_eq
name_quick tw6127375697748050860 for seed by seed_eq
name_quick tw6967401301877209104 for seed by seed_eq
name_quick tw11796506867022685745 for seed by seed_eq
name_quick tw13471461260053382970 for seed by seed_eq
name_quick tw10073347824450446311 for seed by seed_eq
name_quick tw13912434898499826684 for seed by seed_eq
name_quick tw7788680626742099145 for seed by seed_eq
name_quick tw15510627245697522138 for seed by seed_eq
name_quick tw7009043117176579089 for seed by seed_eq
name_quick tw17274371674624000324 for seed by seed_eq
name_quick tw1503297043503765363 for seed by seed_eq
name_quick tw43969757491396457 for seed by seed_eq
name_quick tw535072334866317008 for seed by seed_eq
name_quick tw11445135464325071761 for seed by seed_eq
name_quick tw5268983451555188008 for seed by seed_eq
name_quick tw11985326045990495214 for seed by seed_eq
name_quick tw14952990662201256454 for seed by seed_eq
name_quick tw16176465441171805009 for seed by seed_eq
name_quick tw14821650378409806113 for seed by seed_eq
name_quick tw3152983702415266003 for seed by seed_eq
name_quick tw13776390136698705113 for seed by seed_eq
name_quick tw2422670821966735624 for seed by seed_eq
name_quick tw7286323032743288035 for seed by seed_eq
name_quick tw282004115355043989 for seed by seed_eq
name_quick tw2862820112641550484 for seed by seed_eq
name_quick tw1886563365779066154 for seed by seed_eq
name_quick tw932993149863042379 for seed by seed_eq
name_quick tw16531745337717519161 for seed by seed_eq
name_quick tw7232422423428716515 for seed by seed_eq
name_quick tw1829445100760108279 for seed by seed_eq
name_quick tw12450158673883907302 for seed by seed_eq
name_quick tw17024950926791866790 for seed by seed_eq
name_quick tw16648231224745350325 for seed by seed_eq
name_quick tw17730448691065144110 for seed by seed_eq
name_quick tw16593013826814733010 for seed by seed_eq
name_quick tw17630535258042409229 for seed by seed_eq
name_quick tw12268644228514654432 for seed by seed_eq
name_quick tw2334299552400917057 for seed by seed_eq
name_quick tw4071324889030633612 for seed by seed_eq
name_quick tw13580328829973926956 for seed by seed_eq
name_quick tw10015664371746657536 for seed by seed_eq
name_quick tw10528696920762540405 for seed by seed_eq
name_quick tw3142773779024712118 for seed by seed_eq
name_quick tw900395245841561262 for seed by seed_eq
name_quick tw12635297910168745909 for seed by seed_eq
name_quick tw16752143609539240740 for seed by seed_eq
name_quick tw9979284746773624096 for seed by seed_eq
name_quick tw8595292554425487202 for seed by seed_eq
name_quick tw18350330562280901221 for seed by seed_eq
name_quick tw973662469405803806 for seed by seed_eq
name_quick tw16869277618539721502 for seed by seed_eq
name_quick tw17244072584429378644 for seed by seed_eq
name_quick tw682011567655089306 for seed by seed_eq
name_quick tw14126943448341045398 for seed by seed_eq
name_quick tw16741492637210864865 for seed by seed_eq
name_quick tw14224011070414065920 for seed by seed_eq
name_quick tw9763268239775435451 for seed by seed_eq
name_quick tw7229665172594901996 for seed by seed_eq
name_quick tw5450187663091677483 for seed by seed_eq
name_quick tw13900631225919944168 for seed by seed_eq
name_quick tw7670514497116975361 for seed by seed_eq
name_quick tw17537794083376710389 for seed by seed_eq
name_quick tw11108263761283441063 for seed by seed_eq
name_quick tw12731603968600162155 for seed by seed_eq
name_quick tw2460228577881660442 for seed by seed_eq
name_quick tw3820604794100220378 for seed by seed_eq
name_quick tw11892598404827812706 for seed by seed_eq
name_quick tw9862997608875712007 for seed by seed_eq
name_quick tw5882768191206486792 for seed by seed_eq
name_quick tw9407582987413476825 for seed by seed_eq
name_quick tw6654550962395885724 for seed by seed_eq
name_quick tw18416463498863911781 for seed by seed_eq
name_quick tw2902314222560053993 for seed by seed_eq
name_quick tw8860024209350480642 for seed by seed_eq
name_quick tw17853915177807527196 for seed by seed_eq
name_quick tw14043711374191979534 for seed by seed_eq
name_quick tw11518781747449614426 for seed by seed_eq
name_quick tw2905824091091238844 for seed by seed_eq
name_quick tw12022618010286034681 for seed by seed_eq
name_quick tw2011108890870493169 for seed by seed_eq
name_quick tw15034313371233782410 for seed by seed_eq
name_quick tw662354867322794072 for seed by seed_eq
name_quick tw10352308551163946355 for seed by seed_eq
name_quick tw1735497430108182060 for seed by seed_eq
name_quick tw8727135674562949291 for seed by seed_eq
name_quick tw17164873540382356111 for seed by seed_eq
name_quick tw16643706677886111943 for seed by seed_eq
name_quick tw5200128776193632040 for seed by seed_eq
name_quick tw5854881644878751223 for seed by seed_eq
name_quick tw6789855027759293466 for seed by seed_eq
name_quick tw12182807814244774211 for seed by seed_eq
name_quick tw5732905514179830355 for seed by seed_eq
name_quick tw9577309144901391297 for seed by seed_eq
name_quick tw6679490504615227074 for seed by seed_eq
name_quick tw8488268690174267210 for seed by seed_eq
name_quick tw10042830170769951172 for seed by seed_eq
name_quick tw662985547551754342 for seed by seed_eq
name_quick tw11817470609975844035 for seed by seed_eq
name_quick tw5902227825499142635 for seed by seed_eq
name_quick tw387338674003428930 for seed by seed_eq
name_quick tw6580340599500149305 for seed by seed_eq
name_quick tw9039786747756307549 for seed by seed_eq
name_quick tw8376441433122354887 for seed by seed_eq
name_quick tw16374537267813192141 for seed by seed_eq
name_quick tw8253183596043897158 for seed by seed_eq
name_quick tw14530364306720264245 for seed by seed_eq
name_quick tw1041845030581493396 for seed by seed_eq
name_quick tw9787463984185863102 for seed by seed_eq
name_quick tw5076957145309523181 for seed by seed_eq
name_quick tw14097648870716263351 for seed by seed_eq
name_quick tw4879560196417449868 for seed by seed_eq
name_quick tw17913803186225011329 for seed by seed_eq
name_quick tw11186114360453789277 for seed by seed_eq
name_quick tw1574873078441994576 for seed by seed_eq
name_quick tw951843321253372498 for seed by seed_eq
name_quick tw5832503352825792928 for seed by seed_eq
name_quick tw17828083071136270317 for seed by seed_eq
name_quick tw563124612126607214 for seed by seed_eq
name_quick tw7081425507203772304 for seed by seed_eq
name_quick tw13581749221687468397 for seed by seed_eq
name_quick tw10508251915553800215 for seed by seed_eq
name_quick tw1772237422875290029 for seed by seed_eq
name_quick tw189603312586018693 for seed by seed_eq
name_quick tw5068434257544371817 for seed by seed_eq
name_quick tw11452132507678324671 for seed by seed_eq
name_quick tw12635813782599140982 for seed by seed_eq
name_quick tw6662432510661729299 for seed by seed_eq
name_quick tw14553827428707814869 for seed by seed_eq
name_quick tw15215539614974913122 for seed by seed_eq
name_quick tw4748654258956052638 for seed by seed_eq
name_quick tw5697894365363955025 for seed by seed_eq
name_quick tw11767421526060770920 for seed by seed_eq
name_quick tw16296994325663420285 for seed by seed_eq
name_quick tw4278798014809849964 for seed by seed_eq
name_quick tw7485988203829478898 for seed by seed_eq
name_quick tw15423634916342008072 for seed by seed_eq
name_quick tw10250732866820691176 for seed by seed_eq
name_quick tw9539479885485572040 for seed by seed_eq
name_quick tw2193789692954389824 for seed by seed_eq
name_quick tw12945451867199242903 for seed by seed_eq
name_quick tw6891000109920058784 for seed by seed_eq
name_quick tw4039474712603431140 for seed by seed_eq
name_quick tw16018607276475445134 for seed by seed_eq
name_quick tw757081541053455785 for seed by seed_eq
name_quick tw6616101387062898929 for seed by seed_eq
name_quick tw5706481520468235054 for seed by seed_eq
name_quick tw13526986893379352335 for seed by seed_eq
name_quick tw15490439104401381959 for seed by seed_eq
name_quick tw17552769576498331613 for seed by seed_eq
name_quick tw4921902886906138986 for seed by seed_eq
name_quick tw3315324234476444515 for seed by seed_eq
name_quick tw618205885557783147 for seed by seed_eq
name_quick tw4681523508651956083 for seed by seed_eq
name_quick tw17300597898927385350 for seed by seed_eq
name_quick tw9626621113073979434 for seed by seed_eq
name_quick tw7892128664451923741 for seed by seed_eq
name_quick tw9315938663221665524 for seed by seed_eq
name_quick tw4966893808263662355 for seed by seed_eq
name_quick tw7276740287692124622 for seed by seed_eq
name_quick tw12529633836043197938 for seed by seed_eq
name_quick tw8430678208038309684 for seed by seed_eq
name_quick tw764782834095389478 for seed by seed_eq
name_quick tw17888162413812561239 for seed by seed_eq
name_quick tw3976722010076183465 for seed by seed_eq
name_quick tw14973007898608030118 for seed by seed_eq
name_quick tw11130039905162102590 for seed by seed_eq
name_quick tw13835781993186836427 for seed by seed_eq
name_quick tw16643379632663270332 for seed by seed_eq
name_quick tw6380782515089751550 for seed by seed_eq
name_quick tw10819683100428557426 for seed by seed_eq
name_quick tw11166942722945506595 for seed by seed_eq
name_quick tw15560853006256673968 for seed by seed_eq
name_quick tw8796240567053077481 for seed by seed_eq
name_quick tw16328912562034613984 for seed by seed_eq
name_quick tw15450981722951097364 for seed by seed_eq
name_quick tw17804436615005485693 for seed by seed_eq
name_quick tw13871001218405608335 for seed by seed_eq
name_quick tw17954736447514056666 for seed by seed_eq
name_quick tw13141144453892091621 for seed by seed_eq
name_quick tw4552823106982906706 for seed by seed_eq
name_quick tw15168306246750427876 for seed by seed_eq
name_quick tw14979626087600564940 for seed by seed_eq
name_quick tw3856783459128436802 for seed by seed_eq
name_quick tw16432479971616331241 for seed by seed_eq
name_quick tw8610040677353227653 for seed by seed_eq
name_quick tw15773981995205291829 for seed by seed_eq
name_quick tw14285029430470858289 for seed by seed_eq
name_quick tw17352973434858128600 for seed by seed_eq
name_quick tw930746551332336609 for seed by seed_eq
name_quick tw8989982439271903415 for seed by seed_eq
name_quick tw18220123701641295943 for seed by seed_eq
name_quick tw7323676302269181137 for seed by seed_eq
name_quick tw1638017585896720355 for seed by seed_eq
name_quick tw6148621092414575339 for seed by seed_eq
name_quick tw15278061642289888581 for seed by seed_eq
name_quick tw17954471519018878134 for seed by seed_eq
name_quick tw1204117194425446250 for seed by seed_eq
name_quick tw7397068168572129948 for seed by seed_eq
name_quick tw1402947280878808549 for seed by seed_eq
name_quick tw6714822604882049554 for seed by seed_eq
name_quick tw11161088081135249708 for seed by seed_eq
name_quick tw8032284361305108907 for seed by seed_eq
name_quick tw14210447440969649564 for seed by seed_eq
name_quick tw11825729669827539873 for seed by seed_eq
name_quick tw11566699232636054958 for seed by seed_eq
name_quick tw16947794391021106201 for seed by seed_eq
name_quick tw17774800907425398282 for seed by seed_eq
name_quick tw1869930749605803152 for seed by seed_eq
name_quick tw18263319221461684349 for seed by seed_eq
name_quick tw11729385059970357855 for seed by seed_eq
name_quick tw6711915476519705758 for seed by seed_eq
name_quick tw2039238271031011813 for seed by seed_eq
name_quick tw3636048126100218174 for seed by seed_eq
name_quick tw17026713947507217902 for seed by seed_eq
name_quick tw9219426015542480343 for seed by seed_eq
name_quick tw17975652961387846372 for seed by seed_eq
name_quick tw7269565832213808900 for seed by seed_eq
name_quick tw4172830789200971933 for seed by seed_eq
name_quick tw12832477231654346042 for seed by seed_eq
name_quick tw16865151637890581275 for seed by seed_eq
name_quick tw12172078356533094185 for seed by seed_eq
name_quick tw7275051467321613617 for seed by seed_eq
name_quick tw16223305294053301992 for seed by seed_eq
name_quick tw13559156169165276386 for seed by seed_eq
name_quick tw17894864189363708594 for seed by seed_eq
name_quick tw9537544019596298400 for seed by seed_eq
name_quick tw8075568018651887793 for seed by seed_eq
name_quick tw17672482021469178181 for seed by seed_eq
name_quick tw7469732015759309437 for seed by seed_eq
name_quick tw12821735335276811757 for seed by seed_eq
name_quick tw9673203406766833760 for seed by seed_eq
name_quick tw17015423121036801654 for seed by seed_eq
name_quick tw13236226663087606529 for seed by seed_eq
name_quick tw7035115661146626270 for seed by seed_eq
name_quick tw12659028871203227004 for seed by seed_eq
name_quick tw2452820758585089575 for seed by seed_eq
name_quick tw9438727661952587866 for seed by seed_eq
name_quick tw5862295025349918931 for seed by seed_eq
name_quick tw5111356299099525756 for seed by seed_eq
name_quick tw12679591844961189642 for seed by seed_eq
name_quick tw151948405760981731 for seed by seed_eq
name_quick tw5349121933718820234 for seed by seed_eq
name_quick tw8753696776887207221 for seed by seed_eq
name_quick tw4299136966843209011 for seed by seed_eq
name_quick tw17068832509949910217 for seed by seed_eq
name_quick tw11788150170368784547 for seed by seed_eq
name_quick tw9082586571710850966 for seed by seed_eq
name_quick tw9501820088010722379 for seed by seed_eq
name_quick tw16942194440817826258 for seed by seed_eq
name_quick tw4525517667737911620 for seed by seed_eq
name_quick tw15202239659555905331 for seed by seed_eq
name_quick tw11682084944484805031 for seed by seed_eq
name_quick tw1706496860858754268 for seed by seed_eq
name_quick tw4527066259768149269 for seed by seed_eq
name_quick tw14023627001141898710 for seed by seed_eq
name_quick tw10427553783773113541 for seed by seed_eq
name_quick tw10010936943081839664 for seed by seed_eq
name_quick tw12371321757623732685 for seed by seed_eq
name_quick tw5952267759425050802 for seed by seed_eq
name_quick tw14073706353221006472 for seed by seed_eq
name_quick tw2447775223705975068 for seed by seed_eq
name_quick tw15742981410569661332 for seed by seed_eq
name_quick tw15880737140895825463 for seed by seed_eq
name_quick tw2001226814458364393 for seed by seed_eq
name_quick tw11636919720809706868 for seed by seed_eq
name_quick tw10833955939284561965 for seed by seed_eq
name_quick tw1107438419126420414 for seed by seed_eq
name_quick tw704327219915372674 for seed by seed_eq
name_quick tw6125931036764729998 for seed by seed_eq
name_quick tw15542691292777871779 for seed by seed_eq
name_quick tw9794667896261083176 for seed by seed_eq
name_quick tw6122645084068987007 for seed by seed_eq
name_quick tw721709456127091705 for seed by seed_eq
name_quick tw15806122291839087668 for seed by seed_eq
name_quick tw18410474027866654770 for seed by seed_eq
name_quick tw13215998728584607739 for seed by seed_eq
name_quick tw183835017167291270 for seed by seed_eq
name_quick tw313226197891681235 for seed by seed_eq
name_quick tw6135381517318000843 for seed by seed_eq
name_quick tw9564595351457756722 for seed by seed_eq
name_quick tw11420187438672877268 for seed by seed_eq
name_quick tw14884601019740666482 for seed by seed_eq
name_quick tw9236875199018929784 for seed by seed_eq
name_quick tw9011979029575296479 for seed by seed_eq
name_quick tw17394056326795013819 for seed by seed_eq
name_quick tw16874561944515371726 for seed by seed_eq
name_quick tw1617757218408452269 for seed by seed_eq
name_quick tw12660628722211587041 for seed by seed_eq
name_quick tw5149714755402479525 for seed by seed_eq
name_quick tw17765544955259793912 for seed by seed_eq
name_quick tw10103082736851635080 for seed by seed_eq
name_quick tw15562837088269578035 for seed by seed_eq
name_quick tw12290603225136948437 for seed by seed_eq
name_quick tw10596839373694312039 for seed by seed_eq
name_quick tw5518745428033880147 for seed by seed_eq
name_quick tw7198390536060210744 for seed by seed_eq
name_quick tw14223099787259518943 for seed by seed_eq
name_quick tw6012508502120743258 for seed by seed_eq
name_quick tw3698559305507148144 for seed by seed_eq
name_quick tw10948738476641704880 for seed by seed_eq
name_quick tw10470071008263537045 for seed by seed_eq
name_quick tw2719445374943340272 for seed by seed_eq
name_quick tw9908251947323293946 for seed by seed_eq
name_quick tw14333388528381170442 for seed by seed_eq
name_quick tw7344376507651311505 for seed by seed_eq
name_quick tw14186486079044719983 for seed by seed_eq
name_quick tw11333186260410459676 for seed by seed_eq
name_quick tw3105397867545767578 for seed by seed_eq
name_quick tw12813236842856870187 for seed by seed_eq
name_quick tw16983700618077206208 for seed by seed_eq
name_quick tw10181792811725400092 for seed by seed_eq
name_quick tw12392613427281201732 for seed by seed_eq
name_quick tw16873187988247708562 for seed by seed_eq
name_quick tw9458956999447867950 for seed by seed_eq
name_quick tw12981051755390344553 for seed by seed_eq
name_quick tw12233582284571471492 for seed by seed_eq
name_quick tw5978237884098788730 for seed by seed_eq
name_quick tw18011898689540126615 for seed by seed_eq
name_quick tw16414604833108395602 for seed by seed_eq
name_quick tw18273839248471157720 for seed by seed_eq
name_quick tw17169450816612108026 for seed by seed_eq
name_quick tw8098380416015320538 for seed by seed_eq
name_quick tw6993175162768986339 for seed by seed_eq
name_quick tw12835720964997663042 for seed by seed_eq
name_quick tw9265879793445154701 for seed by seed_eq
name_quick tw15066959818950650227 for seed by seed_eq
name_quick tw7650934615059315214 for seed by seed_eq
name_quick tw8946543629884556368 for seed by seed_eq
name_quick tw1258717718454355964 for seed by seed_eq
name_quick tw8047484207015712433 for seed by seed_eq
name_quick tw12393455550290869266 for seed by seed_eq
name_quick tw1708024556718086227 for seed by seed_eq
name_quick tw4658958612460137192 for seed by seed_eq
name_quick tw15468230090516036684 for seed by seed_eq
name_quick tw15823609455315575823 for seed by seed_eq
name_quick tw17018628822417861297 for seed by seed_eq
name_quick tw12177639751122801600 for seed by seed_eq
name_quick tw2569364866550412066 for seed by seed_eq
name_quick tw10670733350059645105 for seed by seed_eq
name_quick tw16655555454665732581 for seed by seed_eq
name_quick tw16792545251062261874 for seed by seed_eq
name_quick tw17005011963521035879 for seed by seed_eq
name_quick tw4575980220486274672 for seed by seed_eq
name_quick tw3327986453032591115 for seed by seed_eq
name_quick tw18126140380344562322 for seed by seed_eq
name_quick tw16292439048969090190 for seed by seed_eq
name_quick tw8999186272805695465 for seed by seed_eq
name_quick tw15475462885187679331 for seed by seed_eq
name_quick tw2478078296215019888 for seed by seed_eq
name_quick tw18211773271919218964 for seed by seed_eq
name_quick tw558745408833754511 for seed by seed_eq
name_quick tw11277716924127702174 for seed by seed_eq
name_quick tw2315820567201803617 for seed by seed_eq
name_quick tw4292500188555128830 for seed by seed_eq
name_quick tw16758808235637498351 for seed by seed_eq
name_quick tw8206430501311747189 for seed by seed_eq
name_quick tw15207642765257501584 for seed by seed_eq
name_quick tw15919542637913265678 for seed by seed_eq
name_quick tw6245536207120538393 for seed by seed_eq
name_quick tw15178963957890830189 for seed by seed_eq
name_quick tw2922074901204462755 for seed by seed_eq
name_quick tw11306939235166856333 for seed by seed_eq
name_quick tw11328821685186248670 for seed by seed_eq
name_quick tw6587116730350146372 for seed by seed_eq
name_quick tw3282434896037501709 for seed by seed_eq
name_quick tw16145008321745377990 for seed by seed_eq
name_quick tw5794346190779097050 for seed by seed_eq
name_quick tw7585139358526817783 for seed by seed_eq
name_quick tw1189734492583310 for seed by seed_eq
name_quick tw8987815912523675519 for seed by seed_eq
name_quick tw5770868932273138760 for seed by seed_eq
name_quick tw1377046205977697930 for seed by seed_eq
name_quick tw6834602518627153040 for seed by seed_eq
name_quick tw17827458813498177553 for seed by seed_eq
name_quick tw17279654841073493023 for seed by seed_eq
name_quick tw9931943479562821362 for seed by seed_eq
name_quick tw878741703135273975 for seed by seed_eq
name_quick tw10317580896714288900 for seed by seed_eq
name_quick tw3386650904741475044 for seed by seed_eq
name_quick tw6090905460779295987 for seed by seed_eq
name_quick tw16548257151911338427 for seed by seed_eq
name_quick tw16189536214700107852 for seed by seed_eq
name_quick tw14214133299417103183 for seed by seed_eq
name_quick tw10205541121877940668 for seed by seed_eq
name_quick tw6004533443673955352 for seed by seed_eq
name_quick tw12682352545654495088 for seed by seed_eq
name_quick tw612626086439919089 for seed by seed_eq
name_quick tw17111948838632640456 for seed by seed_eq
name_quick tw15157221202141545114 for seed by seed_eq
name_quick tw6589095468515690095 for seed by seed_eq
name_quick tw6123655918767846522 for seed by seed_eq
name_quick tw383695940523520267 for seed by seed_eq
name_quick tw2660918139993853925 for seed by seed_eq
name_quick tw8224813933742928703 for seed by seed_eq
name_quick tw12825359941727978080 for seed by seed_eq
name_quick tw2370070277545300124 for seed by seed_eq
name_quick tw9285146279643344392 for seed by seed_eq
name_quick tw460243522976405022 for seed by seed_eq
name_quick tw16413963553889246368 for seed by seed_eq
name_quick tw2670528217467546775 for seed by seed_eq
name_quick tw1055568401681811165 for seed by seed_eq
name_quick tw3039592710220408265 for seed by seed_eq
name_quick tw17993156020533580102 for seed by seed_eq
name_quick tw17503288770812694035 for seed by seed_eq
name_quick tw17497748084772794779 for seed by seed_eq
name_quick tw4319705520415482375 for seed by seed_eq
name_quick tw12647630874787467225 for seed by seed_eq
name_quick tw12237943961548833269 for seed by seed_eq
name_quick tw10942035263794033107 for seed by seed_eq
name_quick tw12898947447245864913 for seed by seed_eq
name_quick tw9676229304581654039 for seed by seed_eq
name_quick tw11588390666370768167 for seed by seed_eq
name_quick tw3619232141914619222 for seed by seed_eq
name_quick tw18123110421147349612 for seed by seed_eq
name_quick tw6683783046931543321 for seed by seed_eq
name_quick tw10379131730601215995 for seed by seed_eq
name_quick tw2968979199505139716 for seed by seed_eq
name_quick tw8704618095886561957 for seed by seed_eq
name_quick tw8400853705098224536 for seed by seed_eq
name_quick tw15766043655864335149 for seed by seed_eq
name_quick tw2718901123391026995 for seed by seed_eq
name_quick tw14168537005229113720 for seed by seed_eq
name_quick tw15007238320947547705 for seed by seed_eq
name_quick tw17081588502805495317 for seed by seed_eq
name_quick tw18345786424863182364 for seed by seed_eq
name_quick tw1085346719588807367 for seed by seed_eq
name_quick tw7915892664330473996 for seed by seed_eq
name_quick tw11360637008453531609 for seed by seed_eq
name_quick tw14112274594779413971 for seed by seed_eq
name_quick tw16349216596472256690 for seed by seed_eq
name_quick tw11790162104776037713 for seed by seed_eq
name_quick tw347637069881736656 for seed by seed_eq
name_quick tw4302124980754421698 for seed by seed_eq
name_quick tw11013792430000457035 for seed by seed_eq
name_quick tw1892129622055649651 for seed by seed_eq
name_quick tw18350638575300117064 for seed by seed_eq
name_quick tw14326252917377295143 for seed by seed_eq
name_quick tw17344680358763864322 for seed by seed_eq
name_quick tw17100903815162463580 for seed by seed_eq
name_quick tw7581816359482902497 for seed by seed_eq
name_quick tw4933834842325187142 for seed by seed_eq
name_quick tw13251646731365433171 for seed by seed_eq
name_quick tw14376050681354390291 for seed by seed_eq
name_quick tw10706342367453228570 for seed by seed_eq
name_quick tw9594665118957945026 for seed by seed_eq
name_quick tw1631149150583789468 for seed by seed_eq
name_quick tw7299951869573292228 for seed by seed_eq
name_quick tw4679858250743294509 for seed by seed_eq
name_quick tw4405960384096086239 for seed by seed_eq
name_quick tw17139780236743587250 for seed by seed_eq
name_quick tw12887172600443883199 for seed by seed_eq
name_quick tw9396933662098498411 for seed by seed_eq
name_quick tw5248340912204065574 for seed by seed_eq
name_quick tw12850107946570832962 for seed by seed_eq
name_quick tw11968802755003891477 for seed by seed_eq
name_quick tw11521184251578359779 for seed by seed_eq
name_quick tw6607189417530752870 for seed by seed_eq
name_quick tw15663404670287596823 for seed by seed_eq
name_quick tw7745614565497352828 for seed by seed_eq
name_quick tw9674257727999782656 for seed by seed_eq
name_quick tw117213463901210413 for seed by seed_eq
name_quick tw17804504610050584030 for seed by seed_eq
name_quick tw7483462131439158144 for seed by seed_eq
name_quick tw6634754526749712025 for seed by seed_eq
name_quick tw5135500740108067664 for seed by seed_eq
name_quick tw8450942572126056277 for seed by seed_eq
name_quick tw10045867985992453528 for seed by seed_eq
set_option maxRecDepth 100000
set_option maxHeartbeats 8000000
open_top hd for PySem.Challenge.rw_xm0762_01
/-- a proof in a type: see wrap1 in asm.py -/
structure Carry {P : Prop} (h : P) : Prop where mk ::
theorem Carry.out {P : Prop} {h : P} (_ : Carry h) : P := h
abbrev Led := List (Addr × Obj)

/-- a call of the def at f ends and hands back what P says -/
def Spec (dd : Nat) (f : Addr) (vs : List Value) (news : Led) (P : Led → Value → Prop) : Prop :=
  ∀ (prog : Program) (w : World) (p : Program) (loose : List Str) (mean : ExcName → Option Value) (mg mb : Str → Option Value)
    (dp un : Nat) (gd : Option (List Code)) (cn : Str) (cs : Scope) (a : Addr) (ccd : Value) (cl : List (Str × Addr)) (outer : List Env) (A₀ : Around) (base h₀ : Heap) (L : Addr) (m : Str → Option Value) (s : Shared) (Q E : Value → Shared → Prop),
    Below A₀ base outer h₀ → Fr h₀ L s.heap m → (hd.heap_39 w.params).In h₀ → News h₀ L s.heap news → Top p loose mean mg mb h₀ → cs.kind = .function →
    dp + dd < recursionLimit → un + 8 * dd < cLine →
    (∀ v news' h' tk', Fr h₀ L h' m → News h₀ L h' news' → P news' v → Q v { s with heap := h', toks := tk' }) →
    wpAny (model prog w) (ktrTop dp un gd cn cs L a ccd cl outer) (call (.ref f) vs) Q E s

theorem Spec.use {dd : Nat} {f : Addr} {vs : List Value} {news : Led} {P : Led → Value → Prop} (S : Spec dd f vs news P)
    {prog : Program} {w : World} {p : Program} {loose : List Str} {mean : ExcName → Option Value} {mg mb : Str → Option Value}
    {dp un : Nat} {gd : Option (List Code)} {cn : Str} {cs : Scope} {a : Addr} {ccd : Value} {cl : List (Str × Addr)} {outer : List Env} {A₀ : Around} {base h₀ : Heap} {L : Addr} {m : Str → Option Value} {s : Shared} {Q E : Value → Shared → Prop}
    (B : Below A₀ base outer h₀) (F : Fr h₀ L s.heap m) (X : (hd.heap_39 w.params).In h₀) (N : News h₀ L s.heap news) (T : Top p loose mean mg mb h₀) (hk : cs.kind = .function)
    (hd : dp + dd < recursionLimit) (hu : un + 8 * dd < cLine)
    (ret : ∀ v news' h' tk', Fr h₀ L h' m → News h₀ L h' news' → P news' v → Q v { s with heap := h', toks := tk' }) :
    wpAny (model prog w) (ktrTop dp un gd cn cs L a ccd cl outer) (call (.ref f) vs) Q E s :=
  S _ _ _ _ _ _ _ _ _ _ _ _ _ _ _ _ _ _ _ _ _ _ _ _ B F X N T hk hd hu ret

theorem Spec.useN {dd : Nat} {f : Addr} {vs : List Value} {news : Led} {P : Led → Value → Prop}
    {prog : Program} {w : World} {p : Program} {loose : List Str} {mean : ExcName → Option Value} {mg mb : Str → Option Value}
    {dp un : Nat} {gd : Option (List Code)} {cn : Str} {cs : Scope} {a : Addr} {ccd : Value} {cl : List (Str × Addr)} {outer : List Env} {A₀ : Around} {base h₀ : Heap} {L : Addr} {m : Str → Option Value} {s : Shared} {Q E : Value → Shared → Prop}
    (B : Below A₀ base outer h₀) (F : Fr h₀ L s.heap m) (X : (hd.heap_39 w.params).In h₀) (N : News h₀ L s.heap news) (T : Top p loose mean mg mb h₀) (hk : cs.kind = .function)
    (S : Spec dd f vs news P) (hd : dp + dd < recursionLimit) (hu : un + 8 * dd < cLine)
    (ret : ∀ v news' h' tk', Fr h₀ L h' m → News h₀ L h' news' → P news' v → Q v { s with heap := h', toks := tk' }) :
    wpAny (model prog w) (ktrTop dp un gd cn cs L a ccd cl outer) (call (.ref f) vs) Q E s :=
  S _ _ _ _ _ _ _ _ _ _ _ _ _ _ _ _ _ _ _ _ _ _ _ _ B F X N T hk hd hu ret

/-- the same where what is asked and said hangs on the world's hashes -/
def SpecW (dd : Nat) (f : Addr) (vs : List Value) (news : Led) (Pre : Program → World → Prop) (P : Program → World → Led → Value → Prop) : Prop :=
  ∀ (prog : Program) (w : World) (p : Program) (loose : List Str) (mean : ExcName → Option Value) (mg mb : Str → Option Value)
    (dp un : Nat) (gd : Option (List Code)) (cn : Str) (cs : Scope) (a : Addr) (ccd : Value) (cl : List (Str × Addr)) (outer : List Env) (A₀ : Around) (base h₀ : Heap) (L : Addr) (m : Str → Option Value) (s : Shared) (Q E : Value → Shared → Prop),
    Pre prog w → Below A₀ base outer h₀ → Fr h₀ L s.heap m → (hd.heap_39 w.params).In h₀ → News h₀ L s.heap news → Top p loose mean mg mb h₀ → cs.kind = .function →
    dp + dd < recursionLimit → un + 8 * dd < cLine →
    (∀ v news' h' tk', Fr h₀ L h' m → News h₀ L h' news' → P prog w news' v → Q v { s with heap := h', toks := tk' }) →
    wpAny (model prog w) (ktrTop dp un gd cn cs L a ccd cl outer) (call (.ref f) vs) Q E s

theorem SpecW.use {dd : Nat} {f : Addr} {vs : List Value} {news : Led} {Pre : Program → World → Prop} {P : Program → World → Led → Value → Prop} (S : SpecW dd f vs news Pre P)
    {prog : Program} {w : World} {p : Program} {loose : List Str} {mean : ExcName → Option Value} {mg mb : Str → Option Value}
    {dp un : Nat} {gd : Option (List Code)} {cn : Str} {cs : Scope} {a : Addr} {ccd : Value} {cl : List (Str × Addr)} {outer : List Env} {A₀ : Around} {base h₀ : Heap} {L : Addr} {m : Str → Option Value} {s : Shared} {Q E : Value → Shared → Prop}
    (pre : Pre prog w) (B : Below A₀ base outer h₀) (F : Fr h₀ L s.heap m) (X : (hd.heap_39 w.params).In h₀) (N : News h₀ L s.heap news) (T : Top p loose mean mg mb h₀) (hk : cs.kind = .function)
    (hd : dp + dd < recursionLimit) (hu : un + 8 * dd < cLine)
    (ret : ∀ v news' h' tk', Fr h₀ L h' m → News h₀ L h' news' → P prog w news' v → Q v { s with heap := h', toks := tk' }) :
    wpAny (model prog w) (ktrTop dp un gd cn cs L a ccd cl outer) (call (.ref f) vs) Q E s :=
  S _ _ _ _ _ _ _ _ _ _ _ _ _ _ _ _ _ _ _ _ _ _ _ _ pre B F X N T hk hd hu ret

/-- the source of the draws: a list of two ints -/
structure Src where
  x : Int
  y : Int
  tx : Tok
  ty : Tok
  n : Nat
def srcO (σ : Src) : Obj := W.listOf #[.int σ.x σ.tx, .int σ.y σ.ty] σ.n

theorem ne_of_allLt {d : Addr} {l : Led} (h : AllLt d l) : ∀ p ∈ l, p.1 ≠ d := fun p hp => Nat.ne_of_lt (ktn_ltOf h p hp)
theorem off_cons {d : Addr} {q : Addr × Obj} {l : Led} (h : q.1 ≠ d) (k : ∀ p ∈ l, p.1 ≠ d) : ∀ p ∈ q :: l, p.1 ≠ d := List.forall_mem_cons.mpr ⟨h, k⟩
theorem ne_lt {a d : Addr} {o : Obj} {l : Led} (h : ∀ p ∈ l, p.1 < d) (hm : (a, o) ∈ l) : a ≠ d := Nat.ne_of_lt (h _ hm)
theorem ne_gt {a d : Addr} {o : Obj} {l : Led} (h : ∀ p ∈ l, p.1 < a) (hm : (d, o) ∈ l) : a ≠ d := Nat.ne_of_gt (h _ hm)
theorem ne_lt2 {a d x : Addr} {o : Obj} {l : Led} (q : @LT.lt Nat _ d x) (h : ∀ p ∈ l, p.1 < d) (hm : (a, o) ∈ l) : a ≠ x := Nat.ne_of_lt (Nat.lt_trans (h _ hm) q)
theorem ne_gt2 {a d x : Addr} {o : Obj} {l : Led} (q : @LT.lt Nat _ d x) (h : ∀ p ∈ l, p.1 < d) (hm : (a, o) ∈ l) : x ≠ a := Nat.ne_of_gt (Nat.lt_trans (h _ hm) q)
theorem ne_cell {a x : Addr} {k : Nat} {o : Obj} {l : Led} (h : ∀ p ∈ l, p.1 < x) (hm : (a, o) ∈ l) : a ≠ x + k := Nat.ne_of_lt (Nat.lt_of_lt_of_le (h _ hm) (Nat.le_add_right x k))
theorem ne_cell' {a x : Addr} {k : Nat} {o : Obj} {l : Led} (h : ∀ p ∈ l, p.1 < x) (hm : (a, o) ∈ l) : x + k ≠ a := Ne.symm (ne_cell h hm)
theorem ne_of_ltsC {x : Addr} {k : Nat} {l r : Led} (h : ∀ p ∈ l, p.1 < x) (hs : ∀ p ∈ r, p ∈ l) : ∀ p ∈ r, p.1 ≠ x + k := fun p hp => Nat.ne_of_lt (Nat.lt_of_lt_of_le (h p (hs p hp)) (Nat.le_add_right x k))
theorem lt_up {a x : Nat} (h : a < x) (k : Nat) : a < x + k := Nat.lt_of_lt_of_le h (Nat.le_add_right x k)
theorem ne_cell2 {a x : Addr} {j k : Nat} {o : Obj} {l : Led} (h : ∀ p ∈ l, p.1 < x) (hm : (a, o) ∈ l) : a ≠ x + j + k := Nat.ne_of_lt (lt_up (lt_up (h _ hm) j) k)
theorem ne_cell2' {a x : Addr} {j k : Nat} {o : Obj} {l : Led} (h : ∀ p ∈ l, p.1 < x) (hm : (a, o) ∈ l) : x + j + k ≠ a := Ne.symm (ne_cell2 h hm)
theorem ne_cell3 {a x : Addr} {i j k : Nat} {o : Obj} {l : Led} (h : ∀ p ∈ l, p.1 < x) (hm : (a, o) ∈ l) : a ≠ x + i + j + k := Nat.ne_of_lt (lt_up (lt_up (lt_up (h _ hm) i) j) k)
theorem ne_cell3' {a x : Addr} {i j k : Nat} {o : Obj} {l : Led} (h : ∀ p ∈ l, p.1 < x) (hm : (a, o) ∈ l) : x + i + j + k ≠ a := Ne.symm (ne_cell3 h hm)
theorem ne_of_ltsC2 {x : Addr} {j k : Nat} {l r : Led} (h : ∀ p ∈ l, p.1 < x) (hs : ∀ p ∈ r, p ∈ l) : ∀ p ∈ r, p.1 ≠ x + j + k := fun p hp => Nat.ne_of_lt (lt_up (lt_up (h p (hs p hp)) j) k)
theorem ne_of_ltsC3 {x : Addr} {i j k : Nat} {l r : Led} (h : ∀ p ∈ l, p.1 < x) (hs : ∀ p ∈ r, p ∈ l) : ∀ p ∈ r, p.1 ≠ x + i + j + k := fun p hp => Nat.ne_of_lt (lt_up (lt_up (lt_up (h p (hs p hp)) i) j) k)
theorem ne_c12 {x : Nat} : x + 1 ≠ x + 1 + 1 := by omega
theorem ne_c21 {x : Nat} : x + 1 + 1 ≠ x + 1 := by omega
theorem ne_c13 {x : Nat} : x + 1 ≠ x + 1 + 1 + 1 := by omega
theorem ne_c31 {x : Nat} : x + 1 + 1 + 1 ≠ x + 1 := by omega
theorem ne_of_lts {d : Addr} {l r : Led} (h : ∀ p ∈ l, p.1 < d) (hs : ∀ p ∈ r, p ∈ l) : ∀ p ∈ r, p.1 ≠ d := fun p hp => Nat.ne_of_lt (h p (hs p hp))
theorem ne_of_lts2 {d x : Addr} {l r : Led} (q : @LT.lt Nat _ d x) (h : ∀ p ∈ l, p.1 < d) (hs : ∀ p ∈ r, p ∈ l) : ∀ p ∈ r, p.1 ≠ x := fun p hp => Nat.ne_of_lt (Nat.lt_trans (h p (hs p hp)) q)
theorem all_app {P : Addr × Obj → Prop} {l r : Led} (h : ∀ p ∈ l, P p) (k : ∀ p ∈ r, P p) : ∀ p ∈ l ++ r, P p := fun p hp => (List.mem_append.mp hp).elim (h p) (k p)
theorem fmod_lo (a : Int) : 0 ≤ a.fmod 2147483647 := Int.fmod_nonneg_of_pos a (by decide)
theorem fmod_hi (a : Int) : a.fmod 2147483647 < 2147483647 := Int.fmod_lt_of_pos a (by decide)
theorem mulOk_fmod (a b : Int) : IntMulOk (a.fmod 2147483647) b := IntMulOk.of_left (intBits_le_64 (by have := fmod_lo a; omega) (by have := fmod_hi a; omega))
inductive Pick (a : Addr) (o : Obj) : Led → Led → Prop
  | head {r} : Pick a o ((a, o) :: r) r
  | tail {q r r'} : Pick a o r r' → Pick a o (q :: r) (q :: r')
  | app {l r r'} : Pick a o r r' → Pick a o (l ++ r) (l ++ r')
theorem Pick.mem {a : Addr} {o : Obj} {l r : Led} (h : Pick a o l r) : ∀ p ∈ (a, o) :: r, p ∈ l := by
  induction h with
  | head => exact fun p hp => hp
  | tail _ ih =>
    intro p hp
    rcases List.mem_cons.mp hp with rfl | hp
    · exact .tail _ (ih _ (.head _))
    · rcases List.mem_cons.mp hp with rfl | hp
      · exact .head _
      · exact .tail _ (ih _ (.tail _ hp))
  | app _ ih =>
    intro p hp
    rcases List.mem_cons.mp hp with rfl | hp
    · exact List.mem_append.mpr (.inr (ih _ (.head _)))
    · rcases List.mem_append.mp hp with hp | hp
      · exact List.mem_append.mpr (.inl hp)
      · exact List.mem_append.mpr (.inr (ih _ (.tail _ hp)))
theorem News.sub {h₀ h : Heap} {L : Addr} {news news' : Led} (N : News h₀ L h news') (hs : ∀ p ∈ news, p ∈ news') : News h₀ L h news := fun p hp => N p (hs p hp)
theorem News.pick {h₀ h : Heap} {L a : Addr} {o : Obj} {cur rest : Led} (N : News h₀ L h cur) (P : Pick a o cur rest) : News h₀ L h ((a, o) :: rest) := News.sub N P.mem
theorem Spec.useP {dd : Nat} {f : Addr} {vs : List Value} {cur rest : Led} {x : Addr} {o : Obj} {P : Led → Value → Prop}
    {prog : Program} {w : World} {p : Program} {loose : List Str} {mean : ExcName → Option Value} {mg mb : Str → Option Value}
    {dp un : Nat} {gd : Option (List Code)} {cn : Str} {cs : Scope} {a : Addr} {ccd : Value} {cl : List (Str × Addr)} {outer : List Env} {A₀ : Around} {base h₀ : Heap} {L : Addr} {m : Str → Option Value} {s : Shared} {Q E : Value → Shared → Prop}
    (B : Below A₀ base outer h₀) (F : Fr h₀ L s.heap m) (X : (hd.heap_39 w.params).In h₀) (N : News h₀ L s.heap cur) (K : Pick x o cur rest) (T : Top p loose mean mg mb h₀) (hk : cs.kind = .function)
    (S : Spec dd f vs ((x, o) :: rest) P) (hd : dp + dd < recursionLimit) (hu : un + 8 * dd < cLine)
    (ret : ∀ v news' h' tk', Fr h₀ L h' m → News h₀ L h' news' → P news' v → Q v { s with heap := h', toks := tk' }) :
    wpAny (model prog w) (ktrTop dp un gd cn cs L a ccd cl outer) (call (.ref f) vs) Q E s :=
  Spec.useN B F X (News.pick N K) T hk S hd hu ret
theorem SpecW.useP {dd : Nat} {f : Addr} {vs : List Value} {cur rest : Led} {x : Addr} {o : Obj} {Pre : Program → World → Prop} {P : Program → World → Led → Value → Prop}
    {prog : Program} {w : World} {p : Program} {loose : List Str} {mean : ExcName → Option Value} {mg mb : Str → Option Value}
    {dp un : Nat} {gd : Option (List Code)} {cn : Str} {cs : Scope} {a : Addr} {ccd : Value} {cl : List (Str × Addr)} {outer : List Env} {A₀ : Around} {base h₀ : Heap} {L : Addr} {m : Str → Option Value} {s : Shared} {Q E : Value → Shared → Prop}
    (B : Below A₀ base outer h₀) (F : Fr h₀ L s.heap m) (X : (hd.heap_39 w.params).In h₀) (N : News h₀ L s.heap cur) (K : Pick x o cur rest) (T : Top p loose mean mg mb h₀) (hk : cs.kind = .function)
    (S : SpecW dd f vs ((x, o) :: rest) Pre P) (pre : Pre prog w) (hd : dp + dd < recursionLimit) (hu : un + 8 * dd < cLine)
    (ret : ∀ v news' h' tk', Fr h₀ L h' m → News h₀ L h' news' → P prog w news' v → Q v { s with heap := h', toks := tk' }) :
    wpAny (model prog w) (ktrTop dp un gd cn cs L a ccd cl outer) (call (.ref f) vs) Q E s :=
  S.use pre B F X (News.pick N K) T hk hd hu ret
theorem room1 {n k m c : Nat} (h : n + m < c) (e : Nat.ble k m = true) : n + k < c := Nat.lt_of_le_of_lt (Nat.add_le_add_left (Nat.le_of_ble_eq_true e) n) h
theorem room2 {n k l m c : Nat} (h : n + m < c) (e : Nat.ble (k + l) m = true) : n + k + l < c := by rw [Nat.add_assoc]; exact room1 h e
theorem room3 {n k l j m c : Nat} (h : n + m < c) (e : Nat.ble (k + l + j) m = true) : n + k + l + j < c := by rw [Nat.add_assoc n k l]; exact room2 h e

section
open PySem.Calls
variable {prog : Program} {w : World} {A : Around} {E : Value → Shared → Prop} {s : Shared} {h₀ : Heap} {L l : Addr} {news : Led} {vs : List Value} {n : Nat} {Q : Value → Shared → Prop}
theorem News.isL {h : Heap} (N : News h₀ L h news) (hm : (l, W.listOf vs.toArray n) ∈ news) : h.IsList l vs.toArray := ⟨_, (N _ hm).1, rfl, n, rfl⟩
theorem item_sym {value slice : PySem.Expr} {k : Int} {u : Tok} (N : News h₀ L s.heap news) (hm : (l, W.listOf vs.toArray n) ∈ news)
    (h0 : 0 ≤ k) (hlt : k < vs.length) (hsm : vs.length ≤ 12) (h : Q (vs.getD k.toNat .none) s)
    (hs : subscripted slice false (.ref l) (.int k u) = operate [.ref l, .int k u] (getItem (.ref l) (.int k u)) := by with_unfolding_all rfl) :
    wpAny (model prog w) A (subscriptTail value slice (.ref l) (.int k u)) Q E s :=
  have hl := News.isL N hm
  have hk : k.toNat < vs.length := by omega
  tail_any hl.typeIs slot_list_getitem.lookup (wpAny_getItem_list hl h0 (by omega) (by simp [List.getElem?_eq_getElem hk, List.getD]) h) hs
theorem len_sym (N : News h₀ L s.heap news) (hm : (l, W.listOf vs.toArray n) ∈ news) (hsm : vs.length ≤ 12) (h : Q (.int vs.length (s.toks + 1)) { s with toks := s.toks + 1 + 1 }) :
    wpAny (model prog w) A (call (.builtin "len") [.ref l]) Q E s :=
  have e : vs.toArray.size = vs.length := List.size_toArray
  call_len_list (News.isL N hm) (by rw [e]; omega) (by rw [e]; exact h)
end

theorem upd_app {d : Addr} {o o' : Obj} {l r r' : Led} (h : ∀ p ∈ l, p.1 ≠ d) (u : Upd d o o' r r') : Upd d o o' (l ++ r) (l ++ r') := by
  induction l with
  | nil => exact u
  | cons q l ih => exact .tail (h q (.head _)) (ih fun p hp => h p (.tail _ hp))

theorem updF_app {d : Addr} {o : Obj} {l r : Led} {g : Obj → Led} (h : ∀ p ∈ l, p.1 ≠ d) (u : UpdF d o r g) : UpdF d o (l ++ r) (fun o' => l ++ g o') := by
  induction l with
  | nil => exact u
  | cons q l ih => exact .tail (h q (.head _)) (ih fun p hp => h p (.tail _ hp))
def IsAff (x : Str) : Prop := x = Str.ofString "integer" ∨ x = Str.ofString "numeric" ∨ x = Str.ofString "text" ∨ x = Str.ofString "blob"
def IsColl (x : Str) : Prop := x = Str.ofString "binary" ∨ x = Str.ofString "nocase" ∨ x = Str.ofString "rtrim"
abbrev tupO (vs : List Value) : Obj := { cls := .type "tuple", data := .seq vs.toArray }
abbrev ent (h : Int) (x : String) (t : Tok) (v : Value) : DictEntry := ⟨h, .str (Str.ofString x) t, v⟩

/-- a column's tuple: name, affinity, collation -/
structure Col where
  t : Addr
  nm : Str
  aff : Str
  coll : Str
  tn : Tok
  ta : Tok
  tc : Tok
abbrev Col.obj (c : Col) : Obj := tupO [.str c.nm c.tn, .str c.aff c.ta, .str c.coll c.tc]
/-- a source of three columns with its number -/
inductive SourceAt (news : Led) : Addr → Int → (Nat → Col) → Prop
  | mk {x dx cL uL : Addr} {num : Int} {al kd : Str} {h1 h2 h3 h4 h5 h6 h7 h8 h9 : Int} {t1 t2 t3 t4 t5 t6 t7 t8 t9 tn ta tk : Tok} {vs : List Value} {n : Nat} {col : Nat → Col} :
    (x, instObj 630 dx) ∈ news →
    (dx, dictOf [ent h1 "number" t1 (.int num tn), ent h2 "alias" t2 (.str al ta), ent h3 "table" t3 .none, ent h4 "columns" t4 (.ref cL), ent h5 "select" t5 .none, ent h6 "kind" t6 (.str kd tk), ent h7 "hint" t7 .none, ent h8 "on" t8 .none, ent h9 "using" t9 (.ref uL)] 9) ∈ news →
    (cL, W.listOf vs.toArray n) ∈ news → vs.length = 3 → (∀ k, k < 3 → vs.getD k .none = .ref (col k).t ∧ ((col k).t, (col k).obj) ∈ news ∧ IsAff (col k).aff ∧ IsColl (col k).coll) → SourceAt news x num col
def colAff (col : Nat → Col) (place : Int) : Str := if place < 0 then Str.ofString "integer" else (col place.toNat).aff
def colColl (col : Nat → Col) (place : Int) : Str := if place < 0 then Str.ofString "binary" else (col place.toNat).coll
theorem colAff_lt {col : Nat → Col} {p : Int} (h : p < 0) : colAff col p = Str.ofString "integer" := if_pos h
theorem colAff_ge {col : Nat → Col} {p : Int} (h : ¬ p < 0) : colAff col p = (col p.toNat).aff := if_neg h
theorem colColl_lt {col : Nat → Col} {p : Int} (h : p < 0) : colColl col p = Str.ofString "binary" := if_pos h
theorem colColl_ge {col : Nat → Col} {p : Int} (h : ¬ p < 0) : colColl col p = (col p.toNat).coll := if_neg h
/-- a Name as made -/
inductive RawName (news : Led) : Addr → Prop
  | mk {x dx : Addr} {h1 h2 h3 h4 h5 : Int} {t1 t2 t3 t4 t5 tz tt tu : Tok} {tb cn : Str} :
    (x, instObj 116 dx) ∈ news →
    (dx, dictOf [ent h1 "table" t1 (.str tb tt), ent h2 "column" t2 (.str cn tu), ent h3 "source" t3 .none, ent h4 "place" t4 .none, ent h5 "depth" t5 (.int 0 tz)] 5) ∈ news → RawName news x
/-- a bound name: number of its source, place, affinity, collation -/
inductive NameAt (news : Led) : Addr → Int → Int → Str → Str → Prop
  | mk {x dx : Addr} {num place : Int} {aff coll : Str} {h1 h2 h3 h4 h5 h6 h7 : Int} {t1 t2 t3 t4 t5 t6 t7 tn tp tz ta tc tt tu : Tok} {tb cn : Str} :
    (x, instObj 116 dx) ∈ news →
    (dx, dictOf [ent h1 "table" t1 (.str tb tt), ent h2 "column" t2 (.str cn tu), ent h3 "source" t3 (.int num tn), ent h4 "place" t4 (.int place tp), ent h5 "depth" t5 (.int 0 tz), ent h6 "affinity" t6 (.str aff ta), ent h7 "collation" t7 (.str coll tc)] 7) ∈ news →
    NameAt news x num place aff coll
theorem SourceAt.mono {news news' : Led} {x : Addr} {num : Int} {col : Nat → Col} (h : SourceAt news x num col) (hs : ∀ p ∈ news, p ∈ news') : SourceAt news' x num col := by
  cases h with | mk a b c d e => exact .mk (hs _ a) (hs _ b) (hs _ c) d fun k hk => ⟨(e k hk).1, hs _ (e k hk).2.1, (e k hk).2.2⟩
theorem RawName.mono {news news' : Led} {x : Addr} (h : RawName news x) (hs : ∀ p ∈ news, p ∈ news') : RawName news' x := by
  cases h with | mk a b => exact .mk (hs _ a) (hs _ b)
theorem NameAt.mono {news news' : Led} {x : Addr} {num place : Int} {aff coll : Str} (h : NameAt news x num place aff coll) (hs : ∀ p ∈ news, p ∈ news') : NameAt news' x num place aff coll := by
  cases h with | mk a b => exact .mk (hs _ a) (hs _ b)
section
open PySem.Calls
variable {prog : Program} {w : World} {A : Around} {E : Value → Shared → Prop} {s : Shared} {h₀ : Heap} {L l : Addr} {news news' : Led} {vs : List Value} {n : Nat} {Q : Value → Shared → Prop}
theorem item_col {value slice : PySem.Expr} {k : Int} {u : Tok} {col : Nat → Col} (N : News h₀ L s.heap news) (hm : (l, W.listOf vs.toArray n) ∈ news)
    (h0 : 0 ≤ k) (hlt : k < 3) (hl : vs.length = 3) (hc : ∀ k, k < 3 → vs.getD k .none = .ref (col k).t ∧ ((col k).t, (col k).obj) ∈ news' ∧ IsAff (col k).aff ∧ IsColl (col k).coll)
    (h : ((col k.toNat).t, tupO [.str (col k.toNat).nm (col k.toNat).tn, .str (col k.toNat).aff (col k.toNat).ta, .str (col k.toNat).coll (col k.toNat).tc]) ∈ news' → IsAff (col k.toNat).aff → IsColl (col k.toNat).coll → Q (.ref (col k.toNat).t) s)
    (hs : subscripted slice false (.ref l) (.int k u) = operate [.ref l, .int k u] (getItem (.ref l) (.int k u)) := by with_unfolding_all rfl) :
    wpAny (model prog w) A (subscriptTail value slice (.ref l) (.int k u)) Q E s := by
  refine item_sym N hm h0 (by omega) (by omega) ?_ hs
  obtain ⟨e, a, b, c⟩ := hc k.toNat (by omega)
  rw [e]
  exact h a b c
end

/-- what a call made: the ledger now is pre ahead of what stood -/
inductive OutN (news : Led) : Led → Led → Prop
  | nil : OutN news news []
  | cons {q r pre} : OutN news r pre → OutN news (q :: r) (q :: pre)
  | app {l r pre} : OutN news r pre → OutN news (l ++ r) (l ++ pre)
theorem OutN.eq {news cur pre : Led} (h : OutN news cur pre) : cur = pre ++ news := by
  induction h with
  | nil => rfl
  | cons _ ih => rw [ih]; rfl
  | app _ ih => rw [ih, List.append_assoc]
/-- the same where the source of the draws stands in the ledger -/
inductive OutS (aS : Addr) (rest : Led) : Led → Src → Led → Prop
  | here {σ r l} : OutN rest r l → OutS aS rest ((aS, srcO σ) :: r) σ l
  | cons {q r σ pre} : OutS aS rest r σ pre → OutS aS rest (q :: r) σ (q :: pre)
  | app {l r σ pre} : OutS aS rest r σ pre → OutS aS rest (l ++ r) σ (l ++ pre)
theorem OutS.sub {aS : Addr} {rest cur pre : Led} {σ : Src} (h : OutS aS rest cur σ pre) : ∀ p ∈ (aS, srcO σ) :: (pre ++ rest), p ∈ cur := by
  induction h with
  | here o => rw [o.eq]; exact fun p hp => hp
  | cons _ ih =>
    intro p hp
    rcases List.mem_cons.mp hp with rfl | hp
    · exact .tail _ (ih _ (.head _))
    · rcases List.mem_cons.mp hp with rfl | hp
      · exact .head _
      · exact .tail _ (ih _ (.tail _ hp))
  | app _ ih =>
    intro p hp
    rcases List.mem_cons.mp hp with rfl | hp
    · exact List.mem_append.mpr (.inr (ih _ (.head _)))
    · rw [List.append_assoc] at hp
      rcases List.mem_append.mp hp with hp | hp
      · exact List.mem_append.mpr (.inl hp)
      · exact List.mem_append.mpr (.inr (ih _ (.tail _ hp)))
theorem allLt_app {d : Addr} : ∀ {l r : Led}, AllLt d (l ++ r) = (AllLt d l ∧ AllLt d r)
  | [], r => by simp [AllLt]
  | q :: l, r => by rw [List.cons_append, AllLt, AllLt, allLt_app, and_assoc]
theorem allLt_trans {d x : Addr} {l : Led} (h : @LT.lt Nat _ d x) (k : AllLt d l) : AllLt x l := allLt_of fun p hp => Nat.lt_trans (ktn_ltOf k p hp) h
/-- what stands in pre stands nowhere in news -/
def Fresh (news pre : Led) : Prop := ∀ q ∈ news, ∀ p ∈ pre, q.1 ≠ p.1
theorem fresh_nil {news : Led} : Fresh news [] := fun _ _ _ h => nomatch h
theorem fresh_cons {news pre : Led} {q : Addr × Obj} (h : ∀ r ∈ news, r.1 ≠ q.1) (k : Fresh news pre) : Fresh news (q :: pre) := fun r hr p hp => by
  rcases List.mem_cons.mp hp with rfl | hp
  · exact h r hr
  · exact k r hr p hp
theorem fresh_app {news l r : Led} (h : Fresh news l) (k : Fresh news r) : Fresh news (l ++ r) := fun q hq p hp => (List.mem_append.mp hp).elim (h q hq p) (k q hq p)
theorem Fresh.sub {news cur pre : Led} (h : Fresh cur pre) (hs : ∀ p ∈ news, p ∈ cur) : Fresh news pre := fun q hq => h q (hs q hq)
theorem Fresh.ne {cur pre : Led} {a : Addr} {o : Obj} (h : Fresh cur pre) (hm : (a, o) ∈ cur) : ∀ p ∈ pre, p.1 ≠ a := fun p hp => Ne.symm (h _ hm p hp)
theorem Fresh.ne' {cur pre : Led} {a : Addr} {o : Obj} (h : Fresh cur pre) (hm : (a, o) ∈ pre) : ∀ p ∈ cur, p.1 ≠ a := fun p hp => h _ hp _ hm
def FreshA (a : Addr) (pre : Led) : Prop := ∀ p ∈ pre, a ≠ p.1
theorem freshA_nil {a : Addr} : FreshA a [] := fun _ h => nomatch h
theorem freshA_cons {a : Addr} {pre : Led} {q : Addr × Obj} (h : q.1 ≠ a) (k : FreshA a pre) : FreshA a (q :: pre) := fun p hp => by
  rcases List.mem_cons.mp hp with rfl | hp
  · exact Ne.symm h
  · exact k p hp
theorem freshA_app {a : Addr} {l r : Led} (h : FreshA a l) (k : FreshA a r) : FreshA a (l ++ r) := fun p hp => (List.mem_append.mp hp).elim (h p) (k p)
theorem freshA_of {a : Addr} {pre : Led} (h : ∀ p ∈ pre, p.1 ≠ a) : FreshA a pre := fun p hp => Ne.symm (h p hp)
theorem FreshA.ne {a : Addr} {pre : Led} (h : FreshA a pre) : ∀ p ∈ pre, p.1 ≠ a := fun p hp => Ne.symm (h p hp)
theorem Fresh.at {cur pre : Led} {a : Addr} {o : Obj} (h : Fresh cur pre) (hm : (a, o) ∈ cur) : FreshA a pre := fun p hp => h _ hm p hp
theorem all_at {l : Led} {d a : Addr} {o : Obj} (h : ∀ p ∈ l, p.1 ≠ d) (hm : (a, o) ∈ l) : (a, o).1 ≠ d := h _ hm
theorem all_at' {l : Led} {d a : Addr} {o : Obj} (h : ∀ p ∈ l, p.1 ≠ d) (hm : (a, o) ∈ l) : d ≠ a := Ne.symm (h _ hm)
theorem all_sub {l r : Led} {d : Addr} (h : ∀ p ∈ l, p.1 ≠ d) (hs : ∀ p ∈ r, p ∈ l) : ∀ p ∈ r, p.1 ≠ d := fun p hp => h p (hs p hp)
/-- a call that draws: what it made is pre -/
abbrev SpecS (dd : Nat) (f : Addr) (vs : List Value) (aS : Addr) (σ : Src) (rest : Led) (P : Led → Value → Prop) : Prop :=
  Spec dd f vs ((aS, srcO σ) :: rest) (fun news' v => ∃ σ' pre, news' = (aS, srcO σ') :: (pre ++ rest) ∧ FreshA aS pre ∧ Fresh rest pre ∧ P pre v)
/-- a call that does not draw: what it made is pre -/
abbrev SpecN (dd : Nat) (f : Addr) (vs : List Value) (news : Led) (P : Led → Value → Prop) : Prop :=
  Spec dd f vs news (fun news' v => ∃ pre, news' = pre ++ news ∧ Fresh news pre ∧ P pre v)
/-- a call that leaves the ledger -/
abbrev SpecP (dd : Nat) (f : Addr) (vs : List Value) (news : Led) (P : Value → Prop) : Prop :=
  Spec dd f vs news (fun news' v => news' = news ∧ P v)
/-- what the end of a body must bring: the ledger over the frame; the caller then has his own back -/
def EndQ (h₀ : Heap) (L : Addr) (m : Str → Option Value) (g : Heap) (Q : Value → Shared → Prop) (Q' : Flow → Shared → Prop) : Prop :=
  ∀ (fl : Flow) (s' : Shared) (L' : Addr) (m' : Str → Option Value) (news' : Led), Fr g L' s'.heap m' → News g L' s'.heap news' →
    (Fr h₀ L s'.heap m → News h₀ L s'.heap news' → Q (match fl with | .ret v => v | _ => .none) s') → Q' fl s'
section
variable {aS L L' : Addr} {rest news cur pre : Led} {σ : Src} {h₀ g' h' : Heap} {m m' : Str → Option Value} {s : Shared} {Q : Value → Shared → Prop} {Q' : Flow → Shared → Prop} {v : Value} {tk' : Nat}
theorem endV (hq : EndQ h₀ L m g' Q Q') (F : Fr g' L' h' m') (N : News g' L' h' cur) (hret : ∀ h' tk', Fr h₀ L h' m → News h₀ L h' cur → Q v { s with heap := h', toks := tk' }) : Q' (.ret v) { s with heap := h', toks := tk' } :=
  hq (.ret v) _ _ _ _ F N fun F N => hret _ _ F N
theorem endVn (hq : EndQ h₀ L m g' Q Q') (F : Fr g' L' h' m') (N : News g' L' h' cur) (hret : ∀ h' tk', Fr h₀ L h' m → News h₀ L h' cur → Q .none { s with heap := h', toks := tk' }) : Q' .next { s with heap := h', toks := tk' } :=
  hq .next _ _ _ _ F N fun F N => hret _ _ F N
theorem finS {P : Led → Value → Prop} (hret : ∀ v news' h' tk', Fr h₀ L h' m → News h₀ L h' news' → (∃ σ' pre, news' = (aS, srcO σ') :: (pre ++ rest) ∧ FreshA aS pre ∧ Fresh rest pre ∧ P pre v) → Q v { s with heap := h', toks := tk' })
    (hq : EndQ h₀ L m g' Q Q') (F : Fr g' L' h' m') (N : News g' L' h' cur) (O : OutS aS rest cur σ pre) (hf : FreshA aS pre) (hf' : Fresh rest pre) (hP : P pre v) : Q' (.ret v) { s with heap := h', toks := tk' } :=
  endV hq F N fun _ _ F N => hret _ _ _ _ F (News.sub N O.sub) ⟨_, _, rfl, hf, hf', hP⟩
theorem finN {P : Led → Value → Prop} (hret : ∀ v news' h' tk', Fr h₀ L h' m → News h₀ L h' news' → (∃ pre, news' = pre ++ news ∧ Fresh news pre ∧ P pre v) → Q v { s with heap := h', toks := tk' })
    (hq : EndQ h₀ L m g' Q Q') (F : Fr g' L' h' m') (N : News g' L' h' cur) (O : OutN news cur pre) (hf : Fresh news pre) (hP : P pre v) : Q' (.ret v) { s with heap := h', toks := tk' } :=
  endV hq F N fun _ _ F N => hret _ _ _ _ F N ⟨_, O.eq, hf, hP⟩
theorem finP {P : Value → Prop} (hret : ∀ v news' h' tk', Fr h₀ L h' m → News h₀ L h' news' → (news' = news ∧ P v) → Q v { s with heap := h', toks := tk' })
    (hq : EndQ h₀ L m g' Q Q') (F : Fr g' L' h' m') (N : News g' L' h' cur) (O : OutN news cur pre) (hP : P v) : Q' (.ret v) { s with heap := h', toks := tk' } :=
  endV hq F N fun _ _ F N => hret _ _ _ _ F (News.sub N fun p hp => by rw [O.eq]; exact List.mem_append_right _ hp) ⟨rfl, hP⟩
end
/-- the frame of a call -/
noncomputable def mOf : List Arg → List Value → Str → Option Value
  | a :: r, v :: vs, y => @Option.rec Value (fun _ => Option Value) (if y = a.arg then some v else none) (fun u => some u) (mOf r vs y)
  | _, _, _ => none
theorem mOf_eq : ∀ (ps : List Arg) (vs : List Value) (y : Str), mOf ps vs y = ((ps.map (·.arg)).zip vs).reverse.lookup y
  | [], vs, y => by cases vs <;> rfl
  | a :: r, [], y => rfl
  | a :: r, v :: vs, y => by
    have ih := mOf_eq r vs y
    rw [List.map_cons, List.zip_cons_cons, List.reverse_cons, List.lookup_append, ← ih]
    show @Option.rec Value (fun _ => Option Value) (if y = a.arg then some v else none) (fun u => some u) (mOf r vs y) = _
    cases mOf r vs y with
    | some u => rfl
    | none =>
      simp only [Option.none_or, List.lookup_cons, List.lookup_nil]
      by_cases e : y = a.arg
      · rw [if_pos e, e, beq_self_eq_true]
      · rw [if_neg e, beq_eq_false_iff_ne.mpr e]
noncomputable def defOk (binds : List (Str × Value)) (scope : Scope) : Bool :=
  (binds.all fun y => scope.names.lookup y.1 == some .local) && (scope.names.all fun x => x.2 != .cell) && scope.kind == .function && !scope.isCoroutine && !scope.isGenerator
section
variable {name qual : Str} {params : Arguments} {body : List Stmt} {scope : Scope} {dV kV doc pm cdv ct oc : Value} {an od : Option Addr} {osl : Array (Option Value)} {f : Addr}
  {prog : Program} {w : World} {p : Program} {loose : List Str} {mean : ExcName → Option Value} {mg mb : Str → Option Value}
  {dp un : Nat} {gd : Option (List Code)} {cn : Str} {cs : Scope} {a : Addr} {ccd : Value} {cl : List (Str × Addr)} {outer : List Env} {A₀ : Around} {base h₀ : Heap} {L : Addr} {m : Str → Option Value} {s : Shared} {Q E : Value → Shared → Prop} {news : Led} {vs : List Value}
theorem enterB {binds : List (Str × Value)} (ho : (hd.heap_39 w.params).lookup f = some ⟨oc, od, .func (fnOf name qual params body scope dV kV doc pm an cdv ct), osl⟩) (hcd : codeIn (hd.heap_39 w.params) cdv qual = true)
    (B : Below A₀ base outer h₀) (F : Fr h₀ L s.heap m) (X : (hd.heap_39 w.params).In h₀) (N : News h₀ L s.heap news) (T : Top p loose mean mg mb h₀) (hk : cs.kind = .function) (hroom : dp < recursionLimit)
    (hb : BindsTo s (fnOf name qual params body scope dV kV doc pm an cdv ct) ⟨vs, []⟩ binds) (ok : defOk binds scope = true)
    (k : ∀ g' L' h' tk' Q', EndQ h₀ L m g' Q Q' → Fr g' L' h' (fun y => binds.reverse.lookup y) → News g' L' h' news → Below (ktrTop dp un gd cn cs L a ccd cl outer) base (envX cn cs L a ccd cl :: outer) g' → (hd.heap_39 w.params).In g' → Top p loose mean mg mb g' →
      wpAny (model prog w) ((ktrTop dp un gd cn cs L a ccd cl outer).deeper (envOf qual scope L' f cdv)) (execs body (envOf qual scope L' f cdv)) Q' (fun _ _ => False) { s with heap := h', toks := tk' }) :
    wpAny (model prog w) (ktrTop dp un gd cn cs L a ccd cl outer) (call (.ref f) vs) Q E s := by
  unfold defOk at ok
  simp only [Bool.and_eq_true, Bool.not_eq_true'] at ok
  obtain ⟨⟨⟨⟨o1, o2⟩, o3⟩, o4⟩, o5⟩ := ok
  refine wpAny_call (code_def B F X N T rfl rfl hk ho hcd hroom hb (fun y hy => eq_of_beq (List.all_eq_true.mp o1 y hy)) (fun g' L' h' FG F' N' B' X' T' => ?_) o4 o5 (eq_of_beq o3) (fun x hx e => ?_))
  · refine wpAny_mono (k g' L' h' _ _ ?_ F' N' B' X' T') (fun _ _ e => e) (fun _ _ e => e.elim)
    intro fl s' L2 m2 news2 F2 N2 q
    exact leaveK_ F2 N2 q
  · have := List.all_eq_true.mp o2 x hx
    rw [e] at this
    cases this
theorem enterT (ho : (hd.heap_39 w.params).lookup f = some ⟨oc, od, .func (fnOf name qual params body scope dV kV doc pm an cdv ct), osl⟩) (hcd : codeIn (hd.heap_39 w.params) cdv qual = true)
    (B : Below A₀ base outer h₀) (F : Fr h₀ L s.heap m) (X : (hd.heap_39 w.params).In h₀) (N : News h₀ L s.heap news) (T : Top p loose mean mg mb h₀) (hk : cs.kind = .function) (hroom : dp < recursionLimit)
    (hb : bindArgs (fnOf name qual params body scope dV kV doc pm an cdv ct) ⟨vs, []⟩ = pure ((params.args.map (·.arg)).zip vs)) (ok : defOk ((params.args.map (·.arg)).zip vs) scope = true)
    (k : ∀ g' L' h' tk' Q', EndQ h₀ L m g' Q Q' → Fr g' L' h' (mOf params.args vs) → News g' L' h' news → Below (ktrTop dp un gd cn cs L a ccd cl outer) base (envX cn cs L a ccd cl :: outer) g' → (hd.heap_39 w.params).In g' → Top p loose mean mg mb g' →
      wpAny (model prog w) ((ktrTop dp un gd cn cs L a ccd cl outer).deeper (envOf qual scope L' f cdv)) (execs body (envOf qual scope L' f cdv)) Q' (fun _ _ => False) { s with heap := h', toks := tk' }) :
    wpAny (model prog w) (ktrTop dp un gd cn cs L a ccd cl outer) (call (.ref f) vs) Q E s :=
  enterB ho hcd B F X N T hk hroom (BindsTo.of_eq hb) ok fun g' L' h' tk' Q' hq F' N' B' X' T' => k g' L' h' tk' Q' hq (by rw [show mOf params.args vs = _ from funext (mOf_eq params.args vs)]; exact F') N' B' X' T'
theorem enterC {binds : List (Str × Value)} (ho : (hd.heap_39 w.params).lookup f = some ⟨oc, od, .func (fnOf name qual params body scope dV kV doc pm an cdv ct), osl⟩) (hcd : codeIn (hd.heap_39 w.params) cdv qual = true)
    (B : Below A₀ base outer h₀) (F : Fr h₀ L s.heap m) (X : (hd.heap_39 w.params).In h₀) (N : News h₀ L s.heap news) (T : Top p loose mean mg mb h₀) (hk : cs.kind = .function) (hroom : dp < recursionLimit)
    (hb : BindsTo s (fnOf name qual params body scope dV kV doc pm an cdv ct) ⟨vs, []⟩ binds) (hkind : (binds.all fun y => scope.names.lookup y.1 == some .local || scope.names.lookup y.1 == some .cell) = true)
    (hnd : ((cellsFrom 0 scope.names []).map (·.1)).Nodup) (ok : (scope.kind == .function && !scope.isCoroutine && !scope.isGenerator) = true)
    (k : ∀ g' L' h' tk' cells Q', EndQ h₀ L m g' Q Q' → Fr g' L' h' (bindL (envOfC qual scope L' f cdv).kindOf binds fun _ => none) → News g' L' h' (cells ++ news) → CellsAre (bindC (envOfC qual scope L' f cdv).kindOf binds fun _ => none) (cellsFrom (L' + 1) scope.names []) cells →
      Below (ktrTop dp un gd cn cs L a ccd cl outer) base (envX cn cs L a ccd cl :: outer) g' → (hd.heap_39 w.params).In g' → Top p loose mean mg mb g' → (∀ p ∈ news, p.1 < L') →
      wpAny (model prog w) ((ktrTop dp un gd cn cs L a ccd cl outer).deeper (envOfC qual scope L' f cdv)) (execs body (envOfC qual scope L' f cdv)) Q' (fun _ _ => False) { s with heap := h', toks := tk' }) :
    wpAny (model prog w) (ktrTop dp un gd cn cs L a ccd cl outer) (call (.ref f) vs) Q E s := by
  simp only [Bool.and_eq_true, Bool.not_eq_true'] at ok
  obtain ⟨⟨o3, o4⟩, o5⟩ := ok
  refine wpAny_call (code_defC B F X N T rfl rfl hk ho hcd hroom hb hkind hnd (fun g' L' h' tk' cells FG F' N' Y' B' X' T' l1 => ?_) o4 o5 (eq_of_beq o3))
  refine wpAny_mono (k g' L' h' tk' cells _ ?_ F' N' Y' B' X' T' l1) (fun _ _ e => e) (fun _ _ e => e.elim)
  intro fl s' L2 m2 news2 F2 N2 q
  exact leaveK_ F2 N2 q
end
theorem room0 {n m c : Nat} (h : n + m < c) : n < c := Nat.lt_of_le_of_lt (Nat.le_add_right n m) h

def isNum (x : Str) : Bool := [Str.ofString "integer", Str.ofString "numeric"].any (· == x)
def isText (x : Str) : Bool := x == Str.ofString "text"
/-- None or a text -/
def ov (o : Option Str) (t : Tok) : Value := match o with
  | none => .none
  | some x => .str x t
def cmpAff (l : Str) (r : Option Str) : Option Str × Option Str := match r with
  | some r => if isNum l then (if isNum r then (none, none) else (none, some (Str.ofString "numeric"))) else if isNum r then (some (Str.ofString "numeric"), none) else (none, none)
  | none => if isNum l then (none, some (Str.ofString "numeric")) else if isText l then (none, some (Str.ofString "text")) else (none, none)
section
open PySem.Calls
variable {prog : Program} {w : World} {A : Around} {E : Value → Shared → Prop} {s : Shared} {x : Str} {t : Tok} {b : Bool} {Q : Value → Shared → Prop} {a : Addr} {items : Array Value}
theorem in_num (ht : IsTup s.heap a items) (hi : StrsAre items.toList [Str.ofString "integer", Str.ofString "numeric"]) (hb : isNum x = b) (h : Q (.bool b) s) :
    wpAny (model prog w) A (compareOp .In (.str x t) (.ref a)) Q E s := by subst hb; exact in_tuple_strs ht hi h
theorem notin_num (ht : IsTup s.heap a items) (hi : StrsAre items.toList [Str.ofString "integer", Str.ofString "numeric"]) (hb : isNum x = b) (h : Q (.bool (!b)) s) :
    wpAny (model prog w) A (compareOp .NotIn (.str x t) (.ref a)) Q E s := by subst hb; exact notin_tuple_strs ht hi h
theorem eq_text {u : Tok} (hb : isText x = b) (h : Q (.bool b) s) : wpAny (model prog w) A (compareOp .Eq (.str x t) (.str (Str.ofString "text") u)) Q E s := by subst hb; exact eq_str h
theorem in_none (ht : IsTup s.heap a items) (hi : StrsAre items.toList [Str.ofString "integer", Str.ofString "numeric"]) (hu : A.units + 2 < cLine) (h : Q (.bool false) s) :
    wpAny (model prog w) A (compareOp .In .none (.ref a)) Q E s := by
  obtain ⟨o, h1, h2, n, h3⟩ := ht
  have hr : ∃ as, ReadsAll s.heap items.toList [.str (Str.ofString "integer"), .str (Str.ofString "numeric")] as := by
    generalize items.toList = l at hi
    cases hi with | cons y t hi => cases hi with | cons y' t' hi => cases hi; exact ⟨_, .cons (.str _ _) (.cons (.str _ _) .nil)⟩
  obtain ⟨as, hr⟩ := hr
  refine SeqAt.in_tuple_reads (Reads.tuple h1 h2 h3 hr) Reads.none (by decide +kernel) (by decide +kernel) ?_ h
  have : min (PyData.depthAll [.str (Str.ofString "integer"), .str (Str.ofString "numeric")]) (PyData.depth .none) ≤ 1 := by decide +kernel
  omega
theorem notin_none (ht : IsTup s.heap a items) (hi : StrsAre items.toList [Str.ofString "integer", Str.ofString "numeric"]) (hu : A.units + 2 < cLine) (h : Q (.bool true) s) :
    wpAny (model prog w) A (compareOp .NotIn .none (.ref a)) Q E s := by
  obtain ⟨o, h1, h2, n, h3⟩ := ht
  have hr : ∃ as, ReadsAll s.heap items.toList [.str (Str.ofString "integer"), .str (Str.ofString "numeric")] as := by
    generalize items.toList = l at hi
    cases hi with | cons y t hi => cases hi with | cons y' t' hi => cases hi; exact ⟨_, .cons (.str _ _) (.cons (.str _ _) .nil)⟩
  obtain ⟨as, hr⟩ := hr
  refine SeqAt.notIn_tuple_reads (Reads.tuple h1 h2 h3 hr) Reads.none (by decide +kernel) (by decide +kernel) ?_ h
  have : min (PyData.depthAll [.str (Str.ofString "integer"), .str (Str.ofString "numeric")]) (PyData.depth .none) ≤ 1 := by decide +kernel
  omega
end

/-- what a side of a condition is -/
inductive Nd where
  | name (num place : Int) (aff coll : Str)
  | lit
  | coll (word told : Str)
  | cast (ty aff : Str)
  | plus (num : Int)
  | un (b : Bool) (num : Int) (coll : Str)
def Nd.aff : Nd → Option Str
  | .name _ _ a _ => some a
  | .cast _ a => some a
  | _ => none
def Nd.exp : Nd → Option Str
  | .coll _ t => some t
  | _ => none
def Nd.col : Nd → Option Str
  | .name _ _ _ c => some c
  | .un true _ c => some c
  | _ => none
def Nd.num : Nd → Option Int
  | .name n _ _ _ => some n
  | .plus n => some n
  | .un _ n _ => some n
  | _ => none
def Nd.kids : Nd → Nat
  | .name .. => 0
  | .lit => 0
  | .coll .. => 1
  | .cast .. => 1
  | .plus _ => 2
  | .un .. => 1
def IsWord (x y : Str) : Prop := (x = Str.ofString "NOCASE" ∧ y = Str.ofString "nocase") ∨ (x = Str.ofString "rtrim" ∧ y = Str.ofString "rtrim") ∨ (x = Str.ofString "Binary" ∧ y = Str.ofString "binary")
def IsType (x y : Str) : Prop := (x = Str.ofString "BIGINT" ∧ y = Str.ofString "integer") ∨ (x = Str.ofString "Char(9)" ∧ y = Str.ofString "text") ∨ (x = Str.ofString "BLOB" ∧ y = Str.ofString "blob") ∨ (x = Str.ofString "DATE" ∧ y = Str.ofString "numeric")
inductive LitAt (news : Led) : Addr → Prop
  | mk {x dx : Addr} {h : Int} {t : Tok} {v : Value} : (x, instObj 90 dx) ∈ news → (dx, dictOf [ent h "value" t v] 1) ∈ news → LitAt news x
inductive NodeAt (news : Led) : Addr → Nd → Prop
  | name {x : Addr} {num place : Int} {aff coll : Str} : NameAt news x num place aff coll → NodeAt news x (.name num place aff coll)
  | lit {x : Addr} : LitAt news x → NodeAt news x .lit
  | coll {x dx y : Addr} {h1 h2 : Int} {t1 t2 tw : Tok} {word told : Str} : (x, instObj 400 dx) ∈ news → (dx, dictOf [ent h1 "value" t1 (.ref y), ent h2 "collation" t2 (.str word tw)] 2) ∈ news → LitAt news y → IsWord word told → NodeAt news x (.coll word told)
  | cast {x dx y : Addr} {h1 h2 : Int} {t1 t2 tw : Tok} {ty aff : Str} : (x, instObj 374 dx) ∈ news → (dx, dictOf [ent h1 "value" t1 (.ref y), ent h2 "type_name" t2 (.str ty tw)] 2) ∈ news → LitAt news y → IsType ty aff → NodeAt news x (.cast ty aff)
  | plus {x dx y z : Addr} {h1 h2 h3 : Int} {t1 t2 t3 tw : Tok} {num place : Int} {aff coll : Str} : (x, instObj 168 dx) ∈ news → (dx, dictOf [ent h1 "op" t1 (.str (Str.ofString "+") tw), ent h2 "left" t2 (.ref y), ent h3 "right" t3 (.ref z)] 3) ∈ news → NameAt news y num place aff coll → LitAt news z → NodeAt news x (.plus num)
  | unP {x dx y : Addr} {h1 h2 : Int} {t1 t2 tw : Tok} {num place : Int} {aff coll : Str} : (x, instObj 142 dx) ∈ news → (dx, dictOf [ent h1 "op" t1 (.str (Str.ofString "+") tw), ent h2 "operand" t2 (.ref y)] 2) ∈ news → NameAt news y num place aff coll → NodeAt news x (.un true num coll)
  | unM {x dx y : Addr} {h1 h2 : Int} {t1 t2 tw : Tok} {num place : Int} {aff coll : Str} : (x, instObj 142 dx) ∈ news → (dx, dictOf [ent h1 "op" t1 (.str (Str.ofString "-") tw), ent h2 "operand" t2 (.ref y)] 2) ∈ news → NameAt news y num place aff coll → NodeAt news x (.un false num coll)
theorem LitAt.mono {news news' : Led} {x : Addr} (h : LitAt news x) (hs : ∀ p ∈ news, p ∈ news') : LitAt news' x := by
  cases h with | mk a b => exact .mk (hs _ a) (hs _ b)
theorem NodeAt.mono {news news' : Led} {x : Addr} {nd : Nd} (h : NodeAt news x nd) (hs : ∀ p ∈ news, p ∈ news') : NodeAt news' x nd := by
  cases h with
  | name a => exact .name (a.mono hs)
  | lit a => exact .lit (a.mono hs)
  | coll a b c d => exact .coll (hs _ a) (hs _ b) (c.mono hs) d
  | cast a b c d => exact .cast (hs _ a) (hs _ b) (c.mono hs) d
  | plus a b c d => exact .plus (hs _ a) (hs _ b) (c.mono hs) (d.mono hs)
  | unP a b c => exact .unP (hs _ a) (hs _ b) (c.mono hs)
  | unM a b c => exact .unM (hs _ a) (hs _ b) (c.mono hs)
theorem unr_end {h₀ : Heap} {L I : Addr} {oI : Obj} {R : (Str → Option Value) → Led → Prop} {s₁ : Shared} {h' : Heap} {tk : Nat} {m' : Str → Option Value} {all rest : Led}
    (F : Fr h₀ L h' m') (N : News h₀ L h' all) (P : Pick I oI all rest) (off : ∀ p ∈ rest, p.1 ≠ I) (r : R m' rest) : UnrEndW h₀ L s₁ [(I, oI)] R { s₁ with heap := h', toks := tk } :=
  ⟨h', tk, m', rest, rfl, F, News.sub N P.mem, fun p hp q hq => by rw [List.mem_singleton.mp hq]; exact off p hp, r⟩
section
variable {prog : Program} {w : World} {A : Around} {E : Value → Shared → Prop} {s : Shared} {env : Env} {h₀ : Heap} {body : List Stmt} {Q : Flow → Shared → Prop}
theorem next_free {L : Addr} {h : Heap} {m : Str → Option Value} (F : Fr h₀ L h m) : h₀.get? h.objs.size = none := by
  cases e : h₀.get? h.objs.size with
  | none => rfl
  | some o => exact absurd (Heap.lt_size (F.keep _ _ e)) (Nat.lt_irrefl _)
/-- a loop over the signs of a text -/
theorem iter_signs {tn : Str} {tp : Pos} {x : Str} {t : Tok} {m₀ : Str → Option Value} {news : Led} (hh : A.handled = none) (ha : x.cps.all (· < 128) = true)
    (F : Fr h₀ env.locals s.heap m₀) (N : News h₀ env.locals s.heap news)
    (rest₀ : ∀ I : Addr, (∀ p ∈ news, p.1 < I) → ItemsRest prog w A E h₀ env (.Name tn tp) body Q s [(I, "str_ascii_iterator")] [] (x.cps.toList.map fun c => Itm.tok fun u => .str ⟨#[c]⟩ u) m₀ news) :
    wpAny (model prog w) A (pyIter (.str x t)) (fun it s₂ => TurnsAt prog w A h₀ env (.Name tn tp) body Q E it s₂) E s := by
  refine wpAny_pyIter_ascii ha ?_
  have up : ∀ b o, s.heap.get? b = some o → (s.heap.push { cls := .type "str_ascii_iterator", data := .fields #[.str x t, .int 0 0] }).get? b = some o := fun b o e => Heap.get?_push_of_some _ e
  refine ktu_core (tk0 := s.toks) (keep := []) (KTurns.ofWalks (Walks.strAscii hh s.heap.objs.size x t) fun i v s Q E st q => wpAny_pure q) (by simp) ?_ ?_ ?_ ?_ ?_ ?_ ?_ ?_ (F.push _) (fun p hp => ⟨up _ _ (N p hp).1, (N p hp).2⟩) trivial (rest₀ _ fun p hp => Heap.lt_size (N p hp).1)
  · rintro i v h ⟨c, u, hc, rfl⟩
    exact ⟨Itm.tok fun u => .str ⟨#[c]⟩ u, by simp [hc], u, rfl⟩
  · intro i h st
    obtain ⟨o, ho, hc, _⟩ := st
    exact ⟨[(s.heap.objs.size, o)], ⟨⟨rfl, hc⟩, trivial⟩, fun p hp => by rw [List.mem_singleton.mp hp]; exact ho⟩
  · intro b hb
    have hb' : b = s.heap.objs.size := by simpa using hb
    exact ⟨by simp [hb'], by rw [hb']; exact next_free F⟩
  · intro b hb
    simpa using hb
  · intro b hb
    exact .inl (by simpa using hb)
  · intro hI
    exact absurd F.ns.lt ((List.mem_singleton.mp hI) ▸ Nat.lt_irrefl _)
  · intro p hp hI
    exact absurd (Heap.lt_size (N p hp).1) ((List.mem_singleton.mp hI) ▸ Nat.lt_irrefl _)
  · exact ⟨_, Heap.get?_push_size _ rfl, rfl, rfl⟩
end
section
open LCg PySem.Calls
variable {prog : Program} {w : World} {A : Around} {E : Value → Shared → Prop} {s : Shared} {h₀ : Heap} {L : Addr} {m : Str → Option Value} {env : Env}
/-- a comprehension over the signs of a text -/
def SrcText (prog : Program) (w : World) (A : Around) (h₀ : Heap) (L : Addr) (m : Str → Option Value) (env : Env) (elt : PySem.Expr) (x : Str) (scope : Scope) (cl : List (Str × Addr)) (Fin : Shared → List Value → Led → Prop) (xv : Value) (s₁ : Shared) : Prop :=
  ∃ y t news, xv = .str y t ∧ y.cps.all (· < 128) = true ∧ A.handled = none ∧ Fr h₀ L s₁.heap m ∧ News h₀ L s₁.heap news ∧ y.cps.size ≤ sizeLine ∧
    ∀ s₂ : Shared, (∃ h, s₂ = { s₁ with heap := h }) → CompRest prog w A h₀ L m env elt x scope cl s₂ (fun _ => True) (SignAt y) (Fin s₂) y.cps.size 0 [] news
theorem srcText {elt : PySem.Expr} {x y : Str} {t : Tok} {scope : Scope} {cl : List (Str × Addr)} {Fin : Shared → List Value → Led → Prop} {news : Led} {s₁ : Shared}
    (ha : y.cps.all (· < 128) = true) (hh : A.handled = none) (F : Fr h₀ L s₁.heap m) (N : News h₀ L s₁.heap news) (hsz : y.cps.size ≤ sizeLine)
    (h : ∀ g, CompRest prog w A h₀ L m env elt x scope cl { s₁ with heap := g } (fun _ => True) (SignAt y) (Fin { s₁ with heap := g }) y.cps.size 0 [] news) :
    SrcText prog w A h₀ L m env elt x scope cl Fin (.str y t) s₁ := ⟨y, t, news, rfl, ha, hh, F, N, hsz, fun _ ⟨g, e⟩ => e ▸ h g⟩
theorem comp_text {elt iter : PySem.Expr} {x : Str} {px : Pos} {scope : Scope} {cl : List (Str × Addr)} {pos : Pos} {Q : Value → Shared → Prop} (_F₀ : Fr h₀ L s.heap m)
    (hclos : closureFor scope env = pure cl) (hcell : ∀ y ∈ scope.names, y.2 ≠ .cell) (hkind : scope.kind = .function)
    (hnames : ∀ y ∈ scope.names, y.2 = .local → scope.names.lookup y.1 = some .local) (hx : scope.names.lookup x = some .local)
    (h : wpAny (model prog w) A (eval iter env) (SrcText prog w A h₀ L m env elt x scope cl (fun s₂ => FinE h₀ L m s₂ Q)) E s)
    (hs : ∀ x, foldedSetIterable iter env x = pure x := by intro _; rfl) :
    wpAny (model prog w) A (eval (.ListComp elt [⟨.Name x px, iter, [], 0⟩] scope pos) env) Q E s := by
  rw [eval_ListComp]
  refine wpAny_comprehension_free (use := none) rfl hs hclos hkind hnames (wpAny_mono h (fun xv s₁ h₁ => ?_) fun _ _ e => e)
  obtain ⟨y, t, news, rfl, ha, hh, F, N, hsz, R⟩ := h₁
  refine wpAny_pyIter_ascii ha ?_
  have up : ∀ b o, s₁.heap.get? b = some o → (s₁.heap.push { cls := .type "str_ascii_iterator", data := .fields #[.str y t, .int 0 0] }).get? b = some o := fun b o e => Heap.get?_push_of_some _ e
  refine block_U (Walks.strAscii hh s₁.heap.objs.size y t) hsz (fun i h st => by obtain ⟨o, e, _⟩ := st; exact ⟨o, e⟩)
    (fun i h h' o nw st e e' _ _ _ => by obtain ⟨o', q, r⟩ := st; rw [e] at q; cases q; exact ⟨o, e', r⟩) hcell hkind hx ⟨_, Heap.get?_push_size _ rfl, rfl, rfl⟩ (fun b hb => ?_)
    (F.keeps up) (N.grown up) (Nat.ne_of_lt F.ns.lt) (next_free F) (fun p hp => Nat.ne_of_lt (Heap.lt_size (N p hp).1)) trivial (R _ ⟨_, rfl⟩) ?_
  · rw [List.mem_singleton.mp hb]
    show s₁.heap.objs.size < (s₁.heap.push _).objs.size
    rw [Heap.size_push]; exact Nat.lt_succ_self _
  · intro D C h tk m' ys news' F' N' o1 hn hC₀ hD₀ hCL hDL hCD offC fin
    refine ⟨m', hn, fun h'' hs'' => fin D h'' tk (F'.change hs'' hCL hC₀) (fun p hp => ?_) o1⟩
    refine ⟨hs''.extBut _ _ ?_ (N' p hp).1, (N' p hp).2⟩
    rcases List.mem_cons.mp hp with rfl | hp
    · exact Ne.symm hCD
    · exact offC p hp
theorem comp_end {h₀ : Heap} {L I C D : Addr} {m : Str → Option Value} {s₁ : Shared} {oI oC oD : Obj} {S : Led → Prop} {R : Value → Led → Prop} {y : Value} {h' : Heap} {tk : Nat} {all r1 r2 r3 : Led}
    (F : Fr h₀ L h' m) (N : News h₀ L h' all) (P1 : Pick I oI all r1) (P2 : Pick C oC r1 r2) (P3 : Pick D oD r2 r3) (o1 : ∀ p ∈ r3, p.1 ≠ I) (o2 : ∀ p ∈ r3, p.1 ≠ C) (o3 : ∀ p ∈ r3, p.1 ≠ D) (hS : S r3) (r : R y r3) :
    CompEnd h₀ L m s₁ I oI C oC D oD S R y { s₁ with heap := h', toks := tk } := by
  refine CompEnd.intro F N r3 (fun p hp => ?_) (Off3.of fun p hp => ⟨o1 p hp, o2 p hp, o3 p hp⟩) hS r
  rcases List.mem_cons.mp hp with rfl | hp
  · exact P1.mem _ (.head _)
  · rcases List.mem_cons.mp hp with rfl | hp
    · exact P1.mem _ (.tail _ (P2.mem _ (.head _)))
    · exact P1.mem _ (.tail _ (P2.mem _ (.tail _ (P3.mem _ hp))))
theorem off3_1 {I C D : Addr} {l : Led} (h : Off3 I C D l) : ∀ p ∈ l, p.1 ≠ I := fun p hp => (h.mem p hp).1
theorem off3_2 {I C D : Addr} {l : Led} (h : Off3 I C D l) : ∀ p ∈ l, p.1 ≠ C := fun p hp => (h.mem p hp).2.1
theorem off3_3 {I C D : Addr} {l : Led} (h : Off3 I C D l) : ∀ p ∈ l, p.1 ≠ D := fun p hp => (h.mem p hp).2.2
theorem off1_mem {D : Addr} : ∀ {l : Led}, Off1 D l → ∀ p ∈ l, p.1 ≠ D
  | [], _, _, h => nomatch h
  | q :: l, h, p, hp => by
    rcases List.mem_cons.mp hp with rfl | hp
    · exact h.1
    · exact off1_mem h.2 p hp
end
theorem in_lit {prog : Program} {w : World} {A : Around} {E : Value → Shared → Prop} {s : Shared} {x y : Str} {t u : Tok} {b : Bool} {Q : Value → Shared → Prop} (hb : (Builtin.Str.occurrences x y 0 x.length 1).isEmpty = !b) (h : Q (.bool b) s) :
    wpAny (model prog w) A (compareOp .In (.str y u) (.str x t)) Q E s := in_str (by rw [hb, Bool.not_not]; exact h)
theorem coll_len {c : Str} (h : IsColl c) : 0 < c.length ∧ c.length ≤ 10 := by
  rcases h with rfl | rfl | rfl <;> exact ⟨by decide +kernel, by decide +kernel⟩
theorem truthy_coll {prog : Program} {w : World} {A : Around} {E : Value → Shared → Prop} {s : Shared} {c : Str} {t : Tok} {Q : Bool → Shared → Prop} (hc : IsColl c) (h : Q true { s with toks := s.toks + 1 + 1 }) : wpAny (model prog w) A (truthy (.str c t)) Q E s := by
  have ⟨h1, h2⟩ := coll_len hc
  refine P.truthy_str (by omega) ?_
  have e : ((c.length : Int) != 0) = true := by simp only [bne_iff_ne]; omega
  rw [e]
  exact h
theorem ov_none {t : Tok} : ov none t = .none := rfl
theorem ov_some {x : Str} {t : Tok} : ov (some x) t = .str x t := rfl
/-- a Bound: its place, operator, value, affinity, collation -/
inductive BoundAt (news : Led) : Addr → Int → Str → Value → Option Str → Str → Prop
  | mk {b db : Addr} {place : Int} {op : Str} {v : Value} {led : Option Str} {coll : Str} {h1 h2 h3 h4 h5 : Int} {t1 t2 t3 t4 t5 tp to tl tc : Tok} :
    (b, instObj 571 db) ∈ news →
    (db, dictOf [ent h1 "place" t1 (.int place tp), ent h2 "op" t2 (.str op to), ent h3 "value" t3 v, ent h4 "affinity" t4 (ov led tl), ent h5 "collation" t5 (.str coll tc)] 5) ∈ news → BoundAt news b place op v led coll
theorem BoundAt.mono {news news' : Led} {b : Addr} {place : Int} {op : Str} {v : Value} {led : Option Str} {coll : Str} (h : BoundAt news b place op v led coll) (hs : ∀ p ∈ news, p ∈ news') : BoundAt news' b place op v led coll := by
  cases h with | mk a b => exact .mk (hs _ a) (hs _ b)
structure Bd where
  place : Int
  op : Str
  val : Value
  led : Option Str
  coll : Str
inductive BdsAt (news : Led) : List Value → List Bd → Prop
  | nil : BdsAt news [] []
  | cons {b : Addr} {d : Bd} {vs : List Value} {ds : List Bd} : BoundAt news b d.place d.op d.val d.led d.coll → BdsAt news vs ds → BdsAt news (.ref b :: vs) (d :: ds)
theorem BdsAt.mono {news news' : Led} {vs : List Value} {ds : List Bd} (h : BdsAt news vs ds) (hs : ∀ p ∈ news, p ∈ news') : BdsAt news' vs ds := by
  induction h with
  | nil => exact .nil
  | cons a _ ih => exact .cons (a.mono hs) ih
def IsOp (x : Str) : Prop := x = Str.ofString "=" ∨ x = Str.ofString "<" ∨ x = Str.ofString "<=" ∨ x = Str.ofString ">" ∨ x = Str.ofString ">="
def turnOp (x : Str) : Str := if x == Str.ofString "<" then Str.ofString ">" else if x == Str.ofString "<=" then Str.ofString ">=" else if x == Str.ofString ">" then Str.ofString "<" else if x == Str.ofString ">=" then Str.ofString "<=" else Str.ofString "="
def isCol (nd : Nd) (num : Int) : Bool := match nd with
  | .name n _ _ _ => n == num
  | _ => false
def orC (a b : Option Str) : Option Str := match a with
  | some x => some x
  | none => b
/-- the collation of a comparison -/
def cmpColl (l r : Nd) : Str := match orC l.exp (orC r.exp (orC l.col r.col)) with
  | some x => x
  | none => Str.ofString "binary"
def oneBound (aff : Str) (place : Int) (v : Nd) (op : Str) (val : Value) (coll : Str) : List Bd := match (cmpAff aff v.aff).1 with
  | some _ => []
  | none => [⟨place, op, val, (cmpAff aff v.aff).2, coll⟩]
def cmpBounds (num : Int) (op : Str) (l r : Nd) (lx rx : Addr) : List Bd := match l, r with
  | .name n p a c, r => if n == num then (if r.num != some num then oneBound a p r op (.ref rx) (cmpColl l r) else []) else match r with
    | .name n' p' a' c' => if n' == num then oneBound a' p' (.name n p a c) (turnOp op) (.ref lx) (cmpColl l r) else []
    | _ => []
  | l, .name n p a c => if n == num && l.num != some num then oneBound a p l (turnOp op) (.ref lx) (cmpColl l r) else []
  | _, _ => []
/-- what is known of the ledger, the frame, under a name -/
theorem fold_led {h₀ h : Heap} {L : Addr} {cur : Led} {G : Prop} (N : News h₀ L h cur) (k : let led := cur; News h₀ L h led → G) : G := k N
theorem fold_fr {h₀ h : Heap} {L : Addr} {m : Str → Option Value} {G : Prop} (F : Fr h₀ L h m) (k : let m1 := m; Fr h₀ L h m1 → G) : G := k F
def consM (a : Addr × Obj) (l : Led) : Led := a :: l
theorem two_cons {a b : Addr × Obj} {l : Led} : a :: b :: l = consM a (b :: l) := rfl
theorem two_app {a : Addr × Obj} {k l : Led} : a :: (k ++ l) = consM a (k ++ l) := rfl
theorem two_ite {α : Type} {c d : Prop} [Decidable c] [Decidable d] {a b e : α} : (if c then a else if d then b else e) = if c then a else id (if d then b else e) := rfl
theorem fold_A {α : Type} {M : Model} {A : Around} {t : Sem α} {Q : α → Shared → Prop} {E : Value → Shared → Prop} {s : Shared} (k : let A1 := A; wpAny M A1 t Q E s) : wpAny M A t Q E s := k
/-- the counter of tokens under a fresh name -/
theorem fold_tk {G : Nat → Prop} {t : Nat} (k : ∀ t, G t) : G t := k t
local macro_rules | `(tactic| kqd_sub) => `(tactic| k_extra "ktu_off1L")
local macro_rules | `(tactic| k_mem) => `(tactic| k_extra "lcg_off")
local macro_rules | `(tactic| k_all) => `(tactic| k_extra "ktu_offL")
local macro_rules | `(tactic| k_lt $h:ident) => `(tactic| skip)
local macro_rules | `(tactic| walk_at $s:str) => `(tactic| k_extra $s)
local macro_rules | `(tactic| ktd_call $t:term $q:term) => `(tactic| (k_here; (with_reducible show wpAny _ _ (call (Value.ref _) _) _ _ _); (refine' SpecW.useP (by k_asm) (by k_asm) (by k_asm) (by k_asm) (by repeat (first | exact Pick.head | apply Pick.tail | apply Pick.app)) (by k_asm) (by first | exact rfl | assumption) $t $q (by k_extra "ktr_room") (by k_extra "ktr_units") ?_); intro v9 nw9 h9 tk9 F9 N9 P9))
local macro_rules | `(tactic| k_upd) => `(tactic| k_extra "k_upd")
local macro_rules | `(tactic| k_updF) => `(tactic| k_extra "k_updF")
local macro_rules | `(tactic| k_room) => `(tactic| k_extra "k_room")
theorem fill_all : PySem.Challenge.rw_xm0762_01 = PySem.Challenge.rw_xm0762_01 ∧ hd.heap_39 = hd.heap_39 := by k_fill; exact ⟨rfl, rfl⟩
theorem rows_base_1 : True := by
  k_with_none
  k_with "subscriptTail Name" => (k_here; (first | (with_reducible show wpAny _ _ (subscriptTail _ _ (Value.ref _) (Value.int (OfNat.ofNat _) _)) _ _ _) | (with_reducible show wpAny _ _ (subscriptTail _ _ (Value.ref _) (Value.int (Int.ofNat _) _)) _ _ _) | (with_reducible show wpAny _ _ (subscriptTail _ _ (Value.ref _) (Value.int (Neg.neg _) _)) _ _ _)); (with_reducible refine item_tupleT (by k_dflt exact News.isTup (by k_asm) (by k_mem)) (by k_dflt decide) (by k_dflt decide) (by k_dflt rfl) (by k_dflt rfl) ?_); k_whole)
  k_with "subscriptTail Subscript" => (k_here; (first | (with_reducible show wpAny _ _ (subscriptTail _ _ (Value.ref _) (Value.int (OfNat.ofNat _) _)) _ _ _) | (with_reducible show wpAny _ _ (subscriptTail _ _ (Value.ref _) (Value.int (Int.ofNat _) _)) _ _ _) | (with_reducible show wpAny _ _ (subscriptTail _ _ (Value.ref _) (Value.int (Neg.neg _) _)) _ _ _)); (with_reducible refine item_tupleT (by k_dflt exact News.isTup (by k_asm) (by k_mem)) (by k_dflt decide) (by k_dflt decide) (by k_dflt rfl) (by k_dflt rfl) ?_); k_whole)
  k_with "subscriptTail Attribute" => (k_here; (first | (with_reducible show wpAny _ _ (subscriptTail _ _ (Value.ref _) (Value.int (OfNat.ofNat _) _)) _ _ _) | (with_reducible show wpAny _ _ (subscriptTail _ _ (Value.ref _) (Value.int (Int.ofNat _) _)) _ _ _) | (with_reducible show wpAny _ _ (subscriptTail _ _ (Value.ref _) (Value.int (Neg.neg _) _)) _ _ _)); (with_reducible refine item_tupleT (by k_dflt exact News.isTup (by k_asm) (by k_mem)) (by k_dflt decide) (by k_dflt decide) (by k_dflt rfl) (by k_dflt rfl) ?_); k_whole)
  k_with "call builtin:isinstance" => (k_here; (fail_if_success kit_ncls); (with_reducible show wpAny _ _ (call _ [Value.ref _, Value.ref _]) _ _ _); (with_reducible refine kin_callC (by k_dflt k_in) (by k_dflt k_inst) (by k_dflt kin_no) (by k_dflt k_is) (by k_dflt k_is) (by k_dflt k_is) (by k_dflt k_is) (by k_dflt k_is) (by k_dflt k_is) ?_); k_whole)
  k_with "eval Name" => (k_here; first | (with_reducible refine ld (by k_dflt k_asm) (by k_dflt rfl) ?_ (by k_dflt rfl) (by k_dflt rfl); k_whole) | (with_reducible refine name_K (by k_dflt k_asm) (by k_dflt k_asm) (by k_dflt k_asm) (by k_dflt k_is) ?_ (by k_dflt rfl) (by k_dflt rfl); k_whole) | (with_reducible refine name_B (by k_dflt k_asm) (by k_dflt k_asm) (by k_dflt k_asm) (by k_dflt k_is) (by k_dflt boot_fast) (by k_dflt decide) ?_ (by k_dflt rfl) (by k_dflt rfl); k_whole) | (with_reducible refine nameX_K (by k_dflt k_asm) (by k_dflt k_asm) (by k_dflt k_asm) (by k_dflt k_is) ?_ (by k_dflt rfl) (by k_dflt rfl); k_whole) | (with_reducible refine nameX_B (by k_dflt k_asm) (by k_dflt k_asm) (by k_dflt k_asm) (by k_dflt k_is) (by k_dflt boot_fast) (by k_dflt decide) ?_ (by k_dflt rfl) (by k_dflt rfl); k_whole))
  k_with "compareOp IsNot ref ref" => (top_here; refine isnot_ref_same ?_)
  k_with "spliced" => (top_here; first | with_reducible refine spliced_more ?_ (by k_dflt rfl) | with_reducible refine spliced_none ?_)
  k_with "eval Call" => with_reducible refine Call_ ?_ (by k_dflt rfl)
  k_with "ite" => (k_closed; first | with_reducible refine ite_pos (by k_dflt decide) ?_ | with_reducible refine ite_neg (by k_dflt decide) ?_)
  k_with "isTrue" => with_reducible refine isTrue_plain ?_ (by k_dflt rfl)
  k_with "exec Assign" => with_reducible refine wpAny_Assign_Name ?_ (by k_dflt rfl)
  k_with "newList" => (k_here; with_reducible refine newList_K (by k_dflt k_asm) (by k_dflt k_asm) ?_ (by k_dflt size_fits); k_whole; intro _ _ _ _ _; (try k_sweep))
  k_with "newTuple" => (k_here; kup_bare; with_reducible refine kup_newTuple (by k_dflt k_asm) (by k_dflt k_asm) ?_ (by k_dflt kmk_size); intro _ _ _ _ _; (try k_sweep))
  k_with "tb_rel" => repeat (first | exact OutN.nil | apply OutS.here | apply OutN.cons | apply OutN.app | apply OutS.cons | apply OutS.app)
  k_with "tb_start" => first | exact fresh_nil | with_reducible assumption | (refine fresh_cons ?_ ?_; (focus ((try dsimp only); k_extra "ktu_offL")); k_extra "tb_start") | (refine fresh_app ?_ ?_ <;> k_extra "tb_start") | exact freshA_of (by k_extra "ktu_offL") | exact Fresh.sub (by with_reducible assumption) (by k_extra "ktu_off1L")
  k_with "lcg_off" => ((repeat (first | with_reducible exact List.mem_cons_self | with_reducible assumption | exact List.mem_cons_self | exact List.mem_append_left _ (by with_reducible assumption) | refine' List.mem_cons_of_mem _ ?_ | refine' List.mem_append_right _ ?_)); done)
  k_with "ktu_off1L" => first | exact fun _ h => h | exact List.forall_mem_nil _ | exact fun p9 hp9 => by k_extra "lcg_off" | (refine List.forall_mem_cons.mpr ⟨by k_extra "lcg_off", by k_extra "ktu_off1L"⟩) | (refine List.forall_mem_append.mpr ⟨by k_extra "ktu_off1L", by k_extra "ktu_off1L"⟩)
  k_with "ktu_offL" => first | with_reducible assumption | exact List.forall_mem_nil _ | exact ne_of_lts (by with_reducible assumption) (fun p9 hp9 => by k_extra "lcg_off") | exact ne_of_lts2 (by with_reducible assumption) (by with_reducible assumption) (fun p9 hp9 => by k_extra "lcg_off") | exact ne_of_ltsC (by with_reducible assumption) (fun p9 hp9 => by k_extra "lcg_off") | exact ne_of_ltsC2 (by with_reducible assumption) (fun p9 hp9 => by k_extra "lcg_off") | exact ne_of_ltsC3 (by with_reducible assumption) (fun p9 hp9 => by k_extra "lcg_off") | exact FreshA.ne (by with_reducible assumption) | exact Fresh.ne (by with_reducible assumption) (by k_extra "lcg_off") | exact all_sub (by with_reducible assumption) (fun p9 hp9 => by k_extra "lcg_off") | exact all_sub (Fresh.ne' (by with_reducible assumption) (by k_extra "lcg_off")) (fun p9 hp9 => by k_extra "lcg_off") | (refine off_cons ?_ ?_; (focus k_extra "ne"); k_extra "ktu_offL") | (refine all_app ?_ ?_ <;> k_extra "ktu_offL") | exact ne_of_lts (by with_reducible assumption) (by k_extra "ktu_off1L") | exact all_sub (by with_reducible assumption) (by k_extra "ktu_off1L") | exact all_sub (Fresh.ne' (by with_reducible assumption) (by k_extra "lcg_off")) (by k_extra "ktu_off1L")
  k_with "k_room" => ((try simp only [A1]); (try simp only [depth_mark, depth_under_make, depth_under_kw, depth_in1, depth_deeper, depth_caller]); (try dsimp only [ktrTop]); omega)
  k_with "ktr_room" => first | exact room3 (by with_reducible assumption) rfl | exact room2 (by with_reducible assumption) rfl | exact room1 (by with_reducible assumption) rfl | ((try simp only [A1]); (try simp only [depth_mark, depth_under_make, depth_under_kw, depth_in1, depth_deeper, depth_caller]); (try dsimp only [ktrTop]); omega) | ((try simp only [depth_mark, depth_under_make, depth_under_kw, depth_in1, depth_deeper, depth_caller]); decide)
  k_with "ktr_units" => first | exact room3 (by with_reducible assumption) rfl | exact room2 (by with_reducible assumption) rfl | exact room1 (by with_reducible assumption) rfl | ((try simp only [A1]); (try simp only [units_in1, units_deeper, Around.mark_units, units_caller, units_under_make]); (try dsimp only [ktrTop]); omega) | ((try simp only [units_in1, units_deeper, Around.mark_units, units_caller, units_under_make]); decide)
  k_with "ktr_enter" => ((with_reducible refine enterT (by k_dflt k_is) (by k_dflt k_is) (by k_dflt k_asm) (by k_dflt k_asm) (by k_dflt k_asm) (by k_dflt k_asm) (by k_dflt k_asm) (by k_dflt (first | exact rfl | assumption)) (by first | exact room0 (by with_reducible assumption) | k_dflt k_extra "ktr_room") (by k_dflt kernel_rfl) (by k_dflt kernel_rfl) ?_); intro g' L' h' tk' Q' hq' F' N' B' X' T'; (try dsimp only at F'); (refine fold_fr F' ?_); (clear F'); intro m8 F'; (refine fold_A ?_); intro A1)
  k_with "ktr_enterO" => (refine' code_def (by k_asm) (by k_asm) (by k_asm) (by k_asm) (by k_asm) (by exact rfl) (by exact rfl) (by assumption) (by k_is) (by k_is) (by k_extra "ktr_room") (by first | exact BindsTo.of_eq rfl | exact binds_K (by k_in) rfl (by k_is) rfl rfl rfl) (by exact locs rfl) ?_ (by exact rfl) (by exact rfl) (by exact rfl) (by decide); k_whole; intro g' L' h' FG' F' N' B' X' T'; (try dsimp only); (try change wpAny _ _ _ _ _ _); (try k_fold); (refine fold_fr F' ?_); (clear F'); intro m8 F'; (refine fold_A ?_); intro A1)
  k_with "ktr_enterB" => ((with_reducible refine enterB (by k_dflt k_is) (by k_dflt k_is) (by k_dflt k_asm) (by k_dflt k_asm) (by k_dflt k_asm) (by k_dflt k_asm) (by k_dflt k_asm) (by k_dflt (first | exact rfl | assumption)) (by first | exact room0 (by with_reducible assumption) | k_dflt k_extra "ktr_room") (by k_dflt (first | exact BindsTo.of_eq rfl | exact binds_K (by k_in) rfl (by k_is) rfl rfl rfl)) (by k_dflt kernel_rfl) ?_); intro g' L' h' tk' Q' hq' F' N' B' X' T'; (refine fold_fr F' ?_); (clear F'); intro m8 F'; (refine fold_A ?_); intro A1)
  k_with "k_upd" => first | refine' Upd.head (by k_extra "ktu_offL") | refine' Upd.tail (by k_extra "ne") (by k_extra "k_upd") | refine' upd_app (by k_extra "ktu_offL") (by k_extra "k_upd")
  k_with "k_updF" => first | refine' UpdF.head (by k_extra "ktu_offL") | refine' UpdF.tail (by k_extra "ne") (by k_extra "k_updF") | refine' updF_app (by k_extra "ktu_offL") (by k_extra "k_updF")
  trivial
noncomputable def rdC : Const → Nat → Option (Value × Nat)
  | .int i, t => some (.int i t, t + 1)
  | .str x, t => some (.str x t, t + 1)
  | .bool b, t => some (.bool b, t)
  | .none, t => some (.none, t)
  | _, _ => none
/-- a local name, a constant: read at once -/
noncomputable def rdE (m : Str → Option Value) (e : PySem.Expr) (t : Nat) : Option (Value × Nat) := match e with
  | .Name x _ => @Option.rec Value (fun _ => Option (Value × Nat)) none (fun v => some (v, t)) (m x)
  | .Constant c _ _ => rdC c t
  | _ => none
noncomputable def rdL (m : Str → Option Value) : List PySem.Expr → Nat → Option (List Value × Nat)
  | [], t => some ([], t)
  | e :: r, t => @Option.rec (Value × Nat) (fun _ => Option (List Value × Nat)) none (@Prod.rec Value Nat (fun _ => Option (List Value × Nat)) fun v t1 =>
      @Option.rec (List Value × Nat) (fun _ => Option (List Value × Nat)) none (@Prod.rec (List Value) Nat (fun _ => Option (List Value × Nat)) fun vs t2 => some (v :: vs, t2)) (rdL m r t1)) (rdE m e t)
noncomputable def okE (names : List (Str × NameKind)) : PySem.Expr → Bool
  | .Name x _ => (x == ("__debug__" : Str)) == false && names.lookup x == some .local
  | .Constant _ _ _ => true
  | _ => false
noncomputable def noStar : PySem.Expr → Bool
  | .Starred _ _ => false
  | _ => true
theorem star_cons {e : PySem.Expr} {r : List PySem.Expr} {env : Env} (h : noStar e = true) : starEach (e :: r) env = (false, eval e env) :: starEach r env := by
  cases e <;> first | rfl | cases h
section
open PySem.Calls
/-- an expression that is read without a change of the heap -/
structure Rd (prog : Program) (w : World) (A : Around) (E : Value → Shared → Prop) (env : Env) (h : Heap) (g : Array GenState) (d : Drawn) (o : OsState) (t : Nat) (e : PySem.Expr) (v : Value) (t' : Nat) : Prop where
  one : noStar e = true
  two : ∀ Q : Value → Shared → Prop, Q v ⟨h, g, d, t', o⟩ → wpAny (model prog w) A (eval e env) Q E ⟨h, g, d, t, o⟩
structure Rds (prog : Program) (w : World) (A : Around) (E : Value → Shared → Prop) (env : Env) (h : Heap) (g : Array GenState) (d : Drawn) (o : OsState) (t : Nat) (es : List PySem.Expr) (vs : List Value) (t' : Nat) : Prop where
  one : ∀ e ∈ es, noStar e = true
  two : ∀ (pos : Pos) (Q : List Value → Shared → Prop), Q vs ⟨h, g, d, t', o⟩ → wpAny (model prog w) A (spliced (backTo pos (starEach es env))) Q E ⟨h, g, d, t, o⟩
section
variable {prog : Program} {w : World} {A : Around} {E : Value → Shared → Prop} {env : Env} {h : Heap} {g : Array GenState} {d : Drawn} {o : OsState} {t t1 t' : Nat}
theorem Rds.nil : Rds prog w A E env h g d o t [] [] t := ⟨List.forall_mem_nil _, fun _ _ h => args_nil h⟩
theorem Rds.cons {e : PySem.Expr} {v : Value} {es : List PySem.Expr} {vs : List Value} (a : Rd prog w A E env h g d o t e v t1) (b : Rds prog w A E env h g d o t1 es vs t') : Rds prog w A E env h g d o t (e :: es) (v :: vs) t' :=
  ⟨List.forall_mem_cons.mpr ⟨a.one, b.one⟩, fun pos _ k => args_cons (a.two _ (b.two pos _ k)) (star_cons a.one)⟩
theorem plain_of {es : List PySem.Expr} (h : ∀ e ∈ es, noStar e = true) (pos : Pos) : (backTo pos (starEach es env)).any (·.1) = false := by
  induction es with
  | nil => rfl
  | cons e es ih =>
    rw [star_cons (h e (.head _))]
    exact ih fun e he => h e (.tail _ he)
end
section
variable {prog : Program} {w : World} {A : Around} {E : Value → Shared → Prop} {cn : Str} {cs : Scope} {L a : Addr} {ccd : Value} {cl : List (Str × Addr)} {h₀ : Heap} {m mg mb : Str → Option Value} {p : Program} {loose : List Str} {mean : ExcName → Option Value} {h : Heap} {g : Array GenState} {d : Drawn} {o : OsState}
theorem Rd.fn {env : Env} (he : env = envX cn cs L a ccd cl) (F : Fr h₀ L h m) (hk : cs.kind = .function) {t : Nat} {e : PySem.Expr} {v : Value} {t' : Nat}
    (r : rdE m e t = some (v, t')) (ok : okE cs.names e = true) : Rd prog w A E env h g d o t e v t' := by
  subst he
  unfold okE at ok
  split at ok
  · rename_i x pos
    obtain ⟨h1, h2⟩ := Bool.and_eq_true_iff.mp ok
    refine ⟨rfl, fun Q hQ => ?_⟩
    change @Option.rec Value (fun _ => Option (Value × Nat)) none (fun v => some (v, t)) (m x) = _ at r
    cases hv : m x with
    | none => rw [hv] at r; cases r
    | some v' =>
      rw [hv] at r
      cases r
      exact nameX_L (s := ⟨h, g, d, t, o⟩) F hv hQ hk (eq_of_beq h2) (eq_of_beq h1)
  · rename_i c k pos
    refine ⟨rfl, fun Q hQ => ?_⟩
    change rdC c t = _ at r
    unfold rdC at r
    split at r <;> cases r
    · exact wpAny_Constant_int hQ
    · exact Calls.Constant_str hQ
    · exact wpAny_Constant_bool hQ
    · exact wpAny_Constant_none hQ
  · cases ok
theorem Rds.fn0 (F : Fr h₀ L h m) (hk : cs.kind = .function) : ∀ {es : List PySem.Expr} {t : Nat} {vs : List Value} {t' : Nat},
    rdL m es t = some (vs, t') → es.all (okE cs.names) = true → Rds prog w A E (envX cn cs L a ccd cl) h g d o t es vs t'
  | [], t, vs, t', r, ok => by cases r; exact Rds.nil
  | e :: es, t, vs, t', r, ok => by
    rw [List.all_cons] at ok
    obtain ⟨k1, k2⟩ := Bool.and_eq_true_iff.mp ok
    unfold rdL at r
    cases h1 : rdE m e t with
    | none => rw [h1] at r; cases r
    | some q =>
      obtain ⟨v, t1⟩ := q
      rw [h1] at r
      dsimp only at r
      cases h2 : rdL m es t1 with
      | none => rw [h2] at r; cases r
      | some q =>
        obtain ⟨vs', t2⟩ := q
        rw [h2] at r
        cases r
        exact Rds.cons (Rd.fn rfl F hk h1 k1) (Rds.fn0 F hk h2 k2)
theorem Rds.fn {env : Env} (he : env = envX cn cs L a ccd cl) (F : Fr h₀ L h m) (hk : cs.kind = .function) {es : List PySem.Expr} {t : Nat} {vs : List Value} {t' : Nat}
    (r : rdL m es t = some (vs, t')) (ok : es.all (okE cs.names) = true) : Rds prog w A E env h g d o t es vs t' := by
  subst he
  exact Rds.fn0 F hk r ok
theorem Rd.gl {env : Env} (he : env = envX cn cs L a ccd cl) (F : Fr h₀ L h m) (X : (hd.heap_39 w.params).In h₀) (T : Top p loose mean mg mb h₀) (hk : cs.kind = .function) {t : Nat} {x : Str} {pos : Pos} {v : Value}
    (r : nsIn (hd.heap_39 w.params) mainGlobals x = some (some v)) (ok : cs.names.lookup x = some .globalImplicit) (hd9 : (x == ("__debug__" : Str)) = false) : Rd prog w A E env h g d o t (.Name x pos) v t := by
  subst he
  exact ⟨rfl, fun Q hQ => nameX_K (s := ⟨h, g, d, t, o⟩) F X (topRead_of T) r hQ hk ok hd9⟩
theorem Rd.attr {env : Env} {t t1 : Nat} {y : Str} {py : Pos} {x C : Addr} {name : Str} {pos : Pos} {ox : Obj} {es : List DictEntry} {n : Nat} {attr : Option Value} {v : Value} (hr : Rd prog w A E env h g d o t (.Name y py) (.ref x) t1)
    (F : Fr h₀ L h m) (X : (hd.heap_39 w.params).In h₀) (I : W.InstAt h x ox C (some (dictOf es n))) (hg : plainGet (hd.heap_39 w.params) C name = true) (hh : hasDictIn (hd.heap_39 w.params) C = true)
    (ha : findIn (hd.heap_39 w.params) (.ref C) name = some attr) (hn : noGet (hd.heap_39 w.params) attr = true) (hl : getL name es = some (some v)) (hv : handedIn v = true) :
    Rd prog w A E env h g d o t (.Attribute (.Name y py) name pos) v (t1 + 1) :=
  ⟨rfl, fun _ hQ => Attribute_Name_ (hr.two _ (get_own (s := ⟨h, g, d, t1, o⟩) F X I hg hh ha hn hl hv hQ))⟩
/-- a call of a def of the text, of a class of the text, all of whose arguments are read -/
theorem call_rd {f : Str} {pf pos : Pos} {e : PySem.Expr} {es : List PySem.Expr} {v : Value} {vs : List Value} {t t' : Nat} {Q : Value → Shared → Prop} {env : Env} (he : env = envX cn cs L a ccd cl) (F : Fr h₀ L h m) (X : (hd.heap_39 w.params).In h₀) (T : Top p loose mean mg mb h₀) (hk : cs.kind = .function)
    (hx : cs.names.lookup f = some .globalImplicit) (hf : nsIn (hd.heap_39 w.params) mainGlobals f = some (some v)) (kp : keepIn (hd.heap_39 w.params) v = true)
    (r : Rds prog w A E env h g d o t (e :: es) vs t') (q : wpAny (model prog w) A (call v vs) Q E ⟨h, g, d, t', o⟩) (hd9 : (f == ("__debug__" : Str)) = false) :
    wpAny (model prog w) A (eval (.Call (.Name f pf) (e :: es) [] pos) env) Q E ⟨h, g, d, t, o⟩ := by
  subst he
  exact Call_ (nameX_K F X (topRead_of T) hf (callWith_K X kp (r.two pos _ ⟨X.keeps F.keep, q⟩) (star_cons (r.one e (.head _))) (plain_of (fun e he => r.one e (.tail _ he)) pos)) hk hx hd9)
noncomputable def isBT : Value → Bool
  | .builtin _ => true
  | .type _ => true
  | _ => false
/-- the same for a builtin, a type -/
theorem callB_rd {f : Str} {pf pos : Pos} {e : PySem.Expr} {es : List PySem.Expr} {v : Value} {vs : List Value} {t t' : Nat} {Q : Value → Shared → Prop} {env : Env} (he : env = envX cn cs L a ccd cl) (F : Fr h₀ L h m) (X : (hd.heap_39 w.params).In h₀) (T : Top p loose mean mg mb h₀) (hk : cs.kind = .function)
    (hx : cs.names.lookup f = some .globalImplicit) (hf : nsIn (hd.heap_39 w.params) mainGlobals f = some none) (hb : bootBuiltins f = some v) (hv : isBT v = true) (hn : (f == ("__name__" : Str)) = false)
    (r : Rds prog w A E env h g d o t (e :: es) vs t') (q : wpAny (model prog w) A (call v vs) Q E ⟨h, g, d, t', o⟩) (hd9 : (f == ("__debug__" : Str)) = false) :
    wpAny (model prog w) A (eval (.Call (.Name f pf) (e :: es) [] pos) env) Q E ⟨h, g, d, t, o⟩ := by
  subst he
  refine Call_ (nameX_B F X (topRead_of T) hf hb (ne_of_beq_false hn) ?_ hk hx hd9)
  cases v with
  | builtin n => exact PyProof.Rows.callWith_builtin1 (r.two pos _ q) (star_cons (r.one e (.head _))) (plain_of (fun e he => r.one e (.tail _ he)) pos)
  | type n => exact Pv.callWith_type1 (r.two pos _ q) (star_cons (r.one e (.head _))) (plain_of (fun e he => r.one e (.tail _ he)) pos)
  | _ => cases hv
end
section
variable {prog : Program} {w : World} {A : Around} {E : Value → Shared → Prop} {env : Env} {h : Heap} {g : Array GenState} {d : Drawn} {o : OsState} {t t' t2 : Nat} {es : List PySem.Expr} {vs : List Value}
theorem tup_rd {k : Nat} {pos : Pos} {Q : Value → Shared → Prop} (r : Rds prog w A E env h g d o t es vs t') (q : wpAny (model prog w) A (newTuple vs) Q E ⟨h, g, d, t', o⟩) : wpAny (model prog w) A (eval (.Tuple es k pos) env) Q E ⟨h, g, d, t, o⟩ := Tuple_ (r.two pos _ q)
theorem list_rd {pos : Pos} {Q : Value → Shared → Prop} (r : Rds prog w A E env h g d o t es vs t') (q : wpAny (model prog w) A (newList vs) Q E ⟨h, g, d, t', o⟩) : wpAny (model prog w) A (eval (.List es pos) env) Q E ⟨h, g, d, t, o⟩ := List_ (r.two pos _ q)
theorem spl_rd {pos : Pos} {Q : List Value → Shared → Prop} (r : Rds prog w A E env h g d o t es vs t') (q : Q vs ⟨h, g, d, t', o⟩) : wpAny (model prog w) A (spliced (backTo pos (starEach es env))) Q E ⟨h, g, d, t, o⟩ := r.two pos _ q
theorem eval_rd {e : PySem.Expr} {v : Value} {Q : Value → Shared → Prop} (r : Rd prog w A E env h g d o t e v t') (q : Q v ⟨h, g, d, t', o⟩) : wpAny (model prog w) A (eval e env) Q E ⟨h, g, d, t, o⟩ := r.two _ q
theorem item_rd {e i : PySem.Expr} {v u : Value} {pos : Pos} {Q : Value → Shared → Prop} (r : Rd prog w A E env h g d o t e v t') (k : Rd prog w A E env h g d o t' i u t2) (q : wpAny (model prog w) A (subscriptTail e i v u) Q E ⟨h, g, d, t2, o⟩) :
    wpAny (model prog w) A (eval (.Subscript e i pos) env) Q E ⟨h, g, d, t, o⟩ := Subscript_ (r.two _ (k.two _ q))
theorem cmp_rd {l r : PySem.Expr} {op : CmpOp} {v u : Value} {pos : Pos} {whole : Sem Value} {Q : Bool → Shared → Prop} (a : Rd prog w A E env h g d o t l v t') (b : Rd prog w A E env h g d o t' r u t2)
    (q : wpAny (model prog w) A (compareOp op v u) (fun c s₃ => wpAny (model prog w) A (truthy c) Q E s₃) E ⟨h, g, d, t2, o⟩)
    (hm : behindInMarks op r = false := by with_unfolding_all rfl) : wpAny (model prog w) A (isTrue (.Compare l [op] [r] pos) env whole) Q E ⟨h, g, d, t, o⟩ := wpAny_isTrue_Compare1 (a.two _ (b.two _ q)) hm
theorem cmpv_rd {l r : PySem.Expr} {op : CmpOp} {v u : Value} {pos : Pos} {Q : Value → Shared → Prop} (a : Rd prog w A E env h g d o t l v t') (b : Rd prog w A E env h g d o t' r u t2)
    (q : wpAny (model prog w) A (compareOp op v u) Q E ⟨h, g, d, t2, o⟩)
    (hm : behindInMarks op r = false := by with_unfolding_all rfl) : wpAny (model prog w) A (eval (.Compare l [op] [r] pos) env) Q E ⟨h, g, d, t, o⟩ := wpAny_Compare1 (a.two _ (b.two _ q)) hm
theorem bin_rd {l r : PySem.Expr} {op : Operator} {v u : Value} {pos : Pos} {Q : Value → Shared → Prop} (a : Rd prog w A E env h g d o t l v t') (b : Rd prog w A E env h g d o t' r u t2)
    (q : wpAny (model prog w) A (binaryOp op v u) Q E ⟨h, g, d, t2, o⟩) : wpAny (model prog w) A (eval (.BinOp l op r pos) env) Q E ⟨h, g, d, t, o⟩ := wpAny_BinOp (a.two _ (b.two _ q))
theorem set_rd {x value : PySem.Expr} {attr : Str} {v u : Value} {pos pos' : Pos} {Q : Flow → Shared → Prop} (a : Rd prog w A E env h g d o t value v t') (b : Rd prog w A E env h g d o t' x u t2)
    (q : wpAny (model prog w) A (setAttr u attr v) (fun _ => Q .next) E ⟨h, g, d, t2, o⟩)
    (hs : swapsWith value (some (.Attribute x attr pos')) pos.line env = pure false := by rfl) : wpAny (model prog w) A (exec (.Assign [.Attribute x attr pos'] value pos) env) Q E ⟨h, g, d, t, o⟩ := plainObj_wpAny_Assign_Attribute (a.two _ (b.two _ q)) hs
theorem ret_rd {e : PySem.Expr} {v : Value} {pos : Pos} {Q : Flow → Shared → Prop} (r : Rd prog w A E env h g d o t e v t') (q : Q (.ret v) ⟨h, g, d, t', o⟩) : wpAny (model prog w) A (exec (.Return (some e) pos) env) Q E ⟨h, g, d, t, o⟩ := wpAny_Return_some (r.two _ q)
theorem call_app {s : Shared} {f x y : Value} {Q : Value → Shared → Prop} (q : wpAny (model prog w) A (call f [x, y]) Q E s) : wpAny (model prog w) A (call f ([x] ++ [y])) Q E s := q
theorem if_cons {s : Shared} {test : PySem.Expr} {body rest : List Stmt} {pos : Pos} {Q : Flow → Shared → Prop}
    (q : wpAny (model prog w) A (isTrue test env (eval test env)) (fun b s₂ => if b then wpAny (model prog w) A (execs body env) (fun f s' => match f with | .next => wpAny (model prog w) A (execs rest env) Q E s' | f => Q f s') E s₂ else wpAny (model prog w) A (execs rest env) Q E s₂) E s) :
    wpAny (model prog w) A (execs (.If test body [] pos :: rest) env) Q E s := by
  refine wpAny_execs_cons (wpAny_If (wpAny_mono q (fun b s₂ hb => ?_) fun _ _ e => e))
  cases b with
  | true => exact hb
  | false => exact wpAny_execs_nil hb
end
end

theorem rows_rd_2 : True := by
  k_with "rd" => first | (first | with_reducible exact Rd.fn (by k_dflt (exact rfl)) (by k_dflt k_asm) (by k_dflt (first | exact rfl | assumption)) (by k_dflt (exact rfl)) (by k_dflt kernel_rfl) | ((with_reducible show Rd _ _ _ _ _ _ _ _ _ _ (Expr.Name _ _) _ _); with_reducible exact Rd.gl (by k_dflt (exact rfl)) (by k_dflt k_asm) (by k_dflt k_asm) (by k_dflt k_asm) (by k_dflt (first | exact rfl | assumption)) (by k_dflt k_is) (by k_dflt kernel_rfl) (by k_dflt kernel_rfl)) | ((with_reducible show Rd _ _ _ _ _ _ _ _ _ _ (Expr.Attribute (Expr.Name _ _) _ _) _ _); with_reducible exact Rd.attr (by k_extra "rd") (by k_dflt k_asm) (by k_dflt k_asm) (by k_dflt k_inst) (by k_dflt k_is) (by k_dflt k_is) (by k_dflt k_is) (by k_dflt k_is) (by k_dflt k_get) (by k_dflt k_handed))) | fail "row"
  k_with "rds" => first | (first | with_reducible exact Rds.fn (by k_dflt (exact rfl)) (by k_dflt k_asm) (by k_dflt (first | exact rfl | assumption)) (by k_dflt (exact rfl)) (by k_dflt kernel_rfl) | with_reducible exact Rds.nil | ((with_reducible show Rds _ _ _ _ _ _ _ _ _ _ (_ :: _) _ _); with_reducible exact Rds.cons (by k_extra "rd") (by k_extra "rds"))) | fail "row"
  k_with "eval Call" => first | ((k_here; (with_reducible show wpAny _ _ (eval (Expr.Call (Expr.Name _ _) (_ :: _) [] _) _) _ _ _); first | with_reducible refine call_rd (by k_dflt (exact rfl)) (by k_dflt k_asm) (by k_dflt k_asm) (by k_dflt k_asm) (by k_dflt (first | exact rfl | assumption)) (by k_dflt kernel_rfl) (by k_dflt k_is) (by k_dflt k_is) (by k_extra "rds") ?_ (by k_dflt kernel_rfl) | with_reducible refine callB_rd (by k_dflt (exact rfl)) (by k_dflt k_asm) (by k_dflt k_asm) (by k_dflt k_asm) (by k_dflt (first | exact rfl | assumption)) (by k_dflt kernel_rfl) (by k_dflt k_is) (by k_dflt boot_fast) (by k_dflt kernel_rfl) (by k_dflt kernel_rfl) (by k_extra "rds") ?_ (by k_dflt kernel_rfl))) | fail "row"
  k_with "eval Tuple" => first | ((k_here; with_reducible refine tup_rd (by k_extra "rds") ?_)) | fail "row"
  k_with "eval List" => first | ((k_here; with_reducible refine list_rd (by k_extra "rds") ?_)) | fail "row"
  k_with "spliced" => first | ((k_here; (with_reducible refine spl_rd (by k_extra "rds") ?_); k_dflt (try simp only [List.nil_append, List.cons_append]))) | fail "row"
  k_with "eval Subscript" => first | ((k_here; with_reducible refine item_rd (by k_extra "rd") (by k_extra "rd") ?_)) | fail "row"
  k_with "eval Attribute Name" => first | ((k_here; with_reducible refine eval_rd (by k_extra "rd") ?_)) | fail "row"
  k_with "isTrue Compare" => first | ((k_here; with_reducible refine cmp_rd (by k_extra "rd") (by k_extra "rd") ?_)) | fail "row"
  k_with "eval Compare" => first | ((k_here; with_reducible refine cmpv_rd (by k_extra "rd") (by k_extra "rd") ?_)) | fail "row"
  k_with "eval BinOp" => first | ((k_here; with_reducible refine bin_rd (by k_extra "rd") (by k_extra "rd") ?_)) | fail "row"
  k_with "exec Assign" => first | ((k_here; (with_reducible show wpAny _ _ (exec (Stmt.Assign [Expr.Attribute _ _ _] _ _) _) _ _ _); with_reducible refine set_rd (by k_extra "rd") (by k_extra "rd") ?_ (by k_dflt (exact rfl)))) | fail "row"
  k_with "exec Return some" => first | ((k_here; with_reducible refine ret_rd (by k_extra "rd") ?_)) | fail "row"
  k_with "call builtin:list.append" => first | ((k_here; with_reducible refine call_app ?_)) | fail "row"
  k_with "execs cons" => (fail_if_success k_extra "i1"); first | ((k_here; (with_reducible show wpAny _ _ (execs (Stmt.If _ _ [] _ :: _) _) _ _ _); with_reducible refine if_cons ?_)) | fail "row"
  k_with "execs cons" => (fail_if_success k_extra "f1"); ((k_here; (with_reducible show wpAny _ _ _ _ _ (Shared.mk _ _ _ (_ + _) _)); (refine fold_tk (G := fun t => wpAny _ _ _ _ _ (Shared.mk _ _ _ t _)) ?_); intro tk8))
  k_with "execs cons" => (fail_if_success k_extra "f1"); ((k_here; (rename Fr _ _ _ _ => F8); (fail_if_success (fail_if_success ((try dsimp only at F8); dsimp only [two_ite] at F8))); (refine fold_fr F8 ?_); (clear F8); intro m8 F8))
  k_with "execs cons" => (fail_if_success k_extra "f1"); ((k_here; (rename News _ _ _ _ => N8); (fail_if_success (fail_if_success ((try dsimp only at N8); dsimp only [two_cons, two_app] at N8))); (refine fold_led N8 ?_); (clear N8); intro led8 N8))
  k_with "ne" => first | (((try dsimp only); first | with_reducible assumption | with_reducible exact ne_c12 | with_reducible exact ne_c21 | with_reducible exact ne_c13 | with_reducible exact ne_c31 | exact Nat.ne_of_lt (by with_reducible assumption) | exact Nat.ne_of_gt (by with_reducible assumption) | exact ne_lt (by with_reducible assumption) (by k_extra "lcg_off") | exact ne_gt (by with_reducible assumption) (by k_extra "lcg_off") | exact ne_lt2 (by with_reducible assumption) (by with_reducible assumption) (by k_extra "lcg_off") | exact ne_gt2 (by with_reducible assumption) (by with_reducible assumption) (by k_extra "lcg_off") | exact ne_cell (by with_reducible assumption) (by k_extra "lcg_off") | exact ne_cell' (by with_reducible assumption) (by k_extra "lcg_off") | exact ne_cell2 (by with_reducible assumption) (by k_extra "lcg_off") | exact ne_cell2' (by with_reducible assumption) (by k_extra "lcg_off") | exact ne_cell3 (by with_reducible assumption) (by k_extra "lcg_off") | exact ne_cell3' (by with_reducible assumption) (by k_extra "lcg_off") | exact all_at (by with_reducible assumption) (by k_extra "lcg_off") | exact all_at' (by with_reducible assumption) (by k_extra "lcg_off") | exact Fresh.ne (by with_reducible assumption) (by k_extra "lcg_off") _ (by k_extra "lcg_off") | exact Fresh.ne' (by with_reducible assumption) (by k_extra "lcg_off") _ (by k_extra "lcg_off") | k_ne)) | fail "row"
  k_with "UnrEndW" => first | ((k_here; refine unr_end (by k_asm) (by k_asm) (by repeat (first | exact Pick.head | apply Pick.tail | apply Pick.app)) (by k_extra "ktu_offL") ⟨by k_subL, ?_⟩)) | fail "row"
  k_with "CompEnd" => first | ((k_here; refine comp_end (by k_asm) (by k_asm) (by repeat (first | exact Pick.head | apply Pick.tail | apply Pick.app)) (by repeat (first | exact Pick.head | apply Pick.tail | apply Pick.app)) (by repeat (first | exact Pick.head | apply Pick.tail | apply Pick.app)) (by k_extra "ktu_offL") (by k_extra "ktu_offL") (by k_extra "ktu_offL") (by lcg_src) ?_)) | fail "row"
  k_with "FinE" => first | (((unfold LCg.FinE); intro D' h' tk' F' N' o1'; (have o1'' := off1_mem o1'); clear o1'; (try simp only [List.nil_append, List.cons_append] at N'); (try dsimp only))) | fail "row"
  k_with "FinA" => first | (((unfold LCg.FinA); intro D' h' tk' F' N' o1'; (have o1'' := off1_mem o1'); clear o1'; (try simp only [List.nil_append, List.cons_append] at N'); (try dsimp only))) | fail "row"
  k_with "CompRest" => first | ((with_unfolding_all first | (refine LCg.CompRest.succ ?_; intro v' I' oI' C' oC' D' m' h' tk' E' hv' hC' hx' F' N' off' ne'; (have o1' := off3_1 off'); (have o2' := off3_2 off'); (have o3' := off3_3 off'); clear off'; (first | lcg_open hv' | (obtain ⟨t9', hv9'⟩ := hv'; subst hv9'))) | refine LCg.CompRest.zero ?_)) | fail "row"
  k_with "CompRestT" => first | ((with_unfolding_all first | (refine LCt.CompRestT.succ ?_; intro v' I' oI' C' oC' D' m' h' tk' E' hv' hC' hx' F' N' off' ne'; (have o1' := off3_1 off'); (have o2' := off3_2 off'); (have o3' := off3_3 off'); clear off'; (first | lcg_open hv' | (obtain ⟨t9', hv9'⟩ := hv'; subst hv9'))) | refine LCt.CompRestT.zero ?_)) | fail "row"
  trivial
noncomputable def entsOf (w : World) (l : List (Str × Nat × Value)) : List DictEntry := l.map fun q => ⟨PyData.keyHash w.params q.1, .str q.1 q.2.1, q.2.2⟩
/-- a body «self.a = e; ..»: what it stores, with the keys' tokens -/
noncomputable def setsF (m : Str → Option Value) : List Stmt → Nat → Option (List (Str × Nat × Value))
  | [], _ => some []
  | .Assign [.Attribute _ a _] e _ :: r, t => @Option.rec (Value × Nat) (fun _ => Option (List (Str × Nat × Value))) none (@Prod.rec Value Nat (fun _ => Option (List (Str × Nat × Value))) fun v t1 =>
      @Option.rec (List (Str × Nat × Value)) (fun _ => Option (List (Str × Nat × Value))) none (fun l => some ((a, t1 + 1, v) :: l)) (setsF m r (t1 + 2))) (rdE m e t)
  | _ :: _, _ => none
/-- the attributes' names are new, what stands to the right is read, the target is the object -/
noncomputable def setsOk (K : Frag) (C : Addr) (scope : List (Str × NameKind)) (self : Str) : List Str → List Stmt → Bool
  | _, [] => true
  | done, .Assign [.Attribute (.Name y _) a _] e _ :: r => y == self && okE scope (.Name y default) && okE scope e && !done.contains a && takerIn K C a == some none && setsOk K C scope self (a :: done) r
  | _, _ :: _ => false
noncomputable def swOk (env : Env) : List Stmt → Prop
  | .Assign [t] e pos :: r => swapsWith e (some t) pos.line env = pure false ∧ swOk env r
  | _ => True
section
open PySem.Calls
theorem ents_none {w : World} {a : Str} : ∀ {l : List (Str × Nat × Value)}, (∀ q ∈ l, q.1 ≠ a) → (entsOf w l).find? (·.key.isStr a) = none ∧ (entsOf w l).any (·.refKey) = false ∧ (entsOf w l).any (·.key.isStr a) = false
  | [], _ => ⟨rfl, rfl, rfl⟩
  | q :: l, h => by
    obtain ⟨i1, i2, i3⟩ := ents_none (w := w) (a := a) (l := l) fun p hp => h p (.tail _ hp)
    have e : (Value.str q.1 q.2.1).isStr a = false := beq_eq_false_iff_ne.mpr (h q (.head _))
    refine ⟨?_, ?_, ?_⟩
    · show List.find? _ (_ :: entsOf w l) = none
      rw [List.find?_cons, e]
      exact i1
    · show List.any (_ :: entsOf w l) _ = false
      rw [List.any_cons, i2]
      rfl
    · show List.any (_ :: entsOf w l) _ = false
      rw [List.any_cons, e, i3]
      rfl
theorem ents_put {w : World} {a : Str} {k v : Value} {hsh : Int} : ∀ {l : List (Str × Nat × Value)}, (∀ q ∈ l, q.1 ≠ a) → putL a hsh k v (entsOf w l) = entsOf w l ++ [⟨hsh, k, v⟩]
  | [], _ => rfl
  | q :: l, h => by
    have e : (Value.str q.1 q.2.1).isStr a = false := beq_eq_false_iff_ne.mpr (h q (.head _))
    show putL a hsh k v (_ :: entsOf w l) = _ :: entsOf w l ++ [_]
    unfold putL
    rw [e, ents_put (w := w) (l := l) fun p hp => h p (.tail _ hp)]
    rfl
variable {prog : Program} {w : World} {A : Around} {E : Value → Shared → Prop} {cn : Str} {cs : Scope} {L a : Addr} {ccd : Value} {cl : List (Str × Addr)} {h₀ : Heap} {m : Str → Option Value} {x dx C : Addr} {news : Led} {self : Str}
theorem sets_ok (hk : cs.kind = .function) (X : (hd.heap_39 w.params).In h₀) (hself : m self = some (.ref x)) (hs : findIn (hd.heap_39 w.params) (.ref C) "__setattr__" = some (some (.builtin "object.__setattr__")))
    (hp : plainOver (hd.heap_39 w.params) C = true) (hh : hasDictIn (hd.heap_39 w.params) C = true) (off : ∀ p ∈ news, p.1 ≠ dx) (ne : x ≠ dx) :
    ∀ (body : List Stmt) (done l : List (Str × Nat × Value)) (names : List Str) (h : Heap) (g : Array GenState) (d : Drawn) (o : OsState) (t : Nat) (Q : Flow → Shared → Prop), names = done.reverse.map (·.1) → (done ++ l).length ≤ 1000 → setsF m body t = some l → setsOk (hd.heap_39 w.params) C cs.names self names body = true → swOk (envX cn cs L a ccd cl) body →
      Fr h₀ L h m → News h₀ L h ((x, instObj C dx) :: (dx, dictOf (entsOf w done) done.length) :: news) →
      (∀ h' t', Fr h₀ L h' m → News h₀ L h' ((x, instObj C dx) :: (dx, dictOf (entsOf w (done ++ l)) (done ++ l).length) :: news) → Q .next ⟨h', g, d, t', o⟩) →
      wpAny (model prog w) A (execs body (envX cn cs L a ccd cl)) Q E ⟨h, g, d, t, o⟩ := by
  intro body
  induction body with
  | nil =>
    intro done l names h g d o t Q hn hz r ok sw F N k
    cases r
    rw [List.append_nil] at k
    exact wpAny_execs_nil (k h t F N)
  | cons st rest ih =>
    intro done l names h g d o t Q hn hz r ok sw F N k
    unfold setsOk at ok
    split at ok
    · rename_i heq; cases heq
    · rename_i nm dn bs y py b pa e pos r' heq
      cases heq
      simp only [Bool.and_eq_true, Bool.not_eq_true'] at ok
      obtain ⟨⟨⟨⟨⟨k1, k2⟩, k3⟩, k4⟩, k5⟩, k6⟩ := ok
      have ey : y = self := eq_of_beq k1
      subst ey
      unfold setsF at r
      cases h1 : rdE m e t with
      | none => rw [h1] at r; cases r
      | some q =>
        obtain ⟨v, t1⟩ := q
        rw [h1] at r
        dsimp only at r
        cases h2 : setsF m rest (t1 + 2) with
        | none => rw [h2] at r; cases r
        | some l' =>
          rw [h2] at r
          cases r
          have nw : ∀ q ∈ done, q.1 ≠ b := fun q hq e => by
            subst e
            have : nm.contains q.1 = true := by
              rw [hn]
              exact List.contains_iff_mem.mpr (List.mem_map_of_mem (List.mem_reverse.mpr hq))
            rw [this] at k4
            cases k4
          obtain ⟨f1, f2, f3⟩ := ents_none (w := w) nw
          have I : W.InstAt h x (instObj C dx) C (some (dictOf (entsOf w done) done.length)) := InstAt.of_news N (.head _) (.tail _ (.head _))
          have hlen : ∀ z : List (Str × Nat × Value), (entsOf w z).length = z.length := fun z => List.length_map ..
          refine wpAny_execs_cons (set_rd (u := .ref x) (t2 := t1) (Rd.fn rfl F hk h1 k3) (Rd.fn rfl F hk (show rdE m (.Name y py) t1 = some (.ref x, t1) by show @Option.rec Value (fun _ => Option (Value × Nat)) none (fun v => some (v, t1)) (m y) = _; rw [hself]) k2) ?_ sw.1)
          refine set_dict (s := ⟨h, g, d, t1, o⟩) (es' := entsOf w (done ++ [(b, t1 + 1, v)])) (n' := (done ++ [(b, t1 + 1, v)]).length) F X N I rfl hs hp (eq_of_beq k5) hh ?_ ?_ (.tail ne (.head off)) ?_ (fun h' F' N' => ?_)
          · unfold getL
            rw [f1]
            simp [f2]
          · refine Prod.ext ?_ ?_
            · show putL b _ _ v (entsOf w done) = _
              rw [ents_put nw]
              unfold entsOf
              rw [List.map_append]
              rfl
            · show putN b (entsOf w done) done.length = _
              unfold putN
              rw [f3, List.length_append]
              rfl
          · rw [hlen]
            have := hz
            simp only [List.length_append, List.length_cons, List.length_nil] at this ⊢
            omega
          · refine ih (done ++ [(b, t1 + 1, v)]) l' (b :: nm) h' g d o (t1 + 2) Q ?_ ?_ h2 k6 sw.2 F' N' ?_
            · rw [hn, List.reverse_append]
              rfl
            · rw [List.append_assoc]
              exact hz
            · rw [List.append_assoc]
              exact k
    · cases ok
end
section
variable {name qual : Str} {params : Arguments} {body : List Stmt} {scope : Scope} {dV kV doc pm cdv ct oc : Value} {an od : Option Addr} {osl : Array (Option Value)} {C fI : Addr} {self : Str}
  {prog : Program} {w : World} {p : Program} {loose : List Str} {mean : ExcName → Option Value} {mg mb : Str → Option Value}
  {dp un : Nat} {gd : Option (List Code)} {cn : Str} {cs : Scope} {a : Addr} {ccd : Value} {cl : List (Str × Addr)} {outer : List Env} {A₀ : Around} {base h₀ : Heap} {L : Addr} {m : Str → Option Value} {s : Shared} {Q E : Value → Shared → Prop} {news : Led} {vs : List Value} {l : Addr → Nat → List (Str × Nat × Value)}
theorem make_rd (hm : makesIn (hd.heap_39 w.params) C = true) (hi : findIn (hd.heap_39 w.params) (.ref C) "__init__" = some (some (.ref fI))) (hf : isFn (hd.heap_39 w.params) (.ref fI) = true)
    (ho : (hd.heap_39 w.params).lookup fI = some ⟨oc, od, .func (fnOf name qual params body scope dV kV doc pm an cdv ct), osl⟩) (hcd : codeIn (hd.heap_39 w.params) cdv qual = true)
    (hs : findIn (hd.heap_39 w.params) (.ref C) "__setattr__" = some (some (.builtin "object.__setattr__"))) (hp : plainOver (hd.heap_39 w.params) C = true) (hh : hasDictIn (hd.heap_39 w.params) C = true)
    (B : Below A₀ base outer h₀) (F : Fr h₀ L s.heap m) (X : (hd.heap_39 w.params).In h₀) (N : News h₀ L s.heap news) (T : Top p loose mean mg mb h₀) (hk : cs.kind = .function) (hroom : dp + 1 < recursionLimit)
    (hb : ∀ x, bindArgs (fnOf name qual params body scope dV kV doc pm an cdv ct) ⟨.ref x :: vs, []⟩ = pure ((params.args.map (·.arg)).zip (.ref x :: vs))) (ok : ∀ x, defOk ((params.args.map (·.arg)).zip (.ref x :: vs)) scope = true)
    (hself : ∀ x, mOf params.args (.ref x :: vs) self = some (.ref x)) (hr : ∀ x t, setsF (mOf params.args (.ref x :: vs)) body t = some (l x t)) (hz : ∀ x t, Nat.ble (l x t).length 1000 = true) (so : setsOk (hd.heap_39 w.params) C scope.names self [] body = true) (sw : ∀ L', swOk (envOf qual scope L' fI cdv) body)
    (k : ∀ x dx h' t t', Fr h₀ L h' m → News h₀ L h' ((x, instObj C dx) :: (dx, dictOf (entsOf w (l x t)) (l x t).length) :: news) → (∀ p ∈ news, p.1 < dx) → @LT.lt Nat _ dx x → Q (.ref x) { s with heap := h', toks := t' }) :
    wpAny (model prog w) (ktrTop dp un gd cn cs L a ccd cl outer) (call (.ref C) vs) Q E s := by
  refine call_cls F X N hm hi hf fun x dx h1 F1 N1 l1 l2 => ?_
  have ok' := ok x
  unfold defOk at ok'
  simp only [Bool.and_eq_true, Bool.not_eq_true'] at ok'
  obtain ⟨⟨⟨⟨o1, o2⟩, o3⟩, o4⟩, o5⟩ := ok'
  refine code_def (s := { s with heap := h1 }) B F1 X N1 T rfl rfl hk ho hcd hroom (BindsTo.of_eq (hb x)) (fun y hy => eq_of_beq (List.all_eq_true.mp o1 y hy)) (fun g' L' h' FG F' N' B' X' T' => ?_) o4 o5 (eq_of_beq o3) (fun x hx e => ?_)
  · refine sets_ok (eq_of_beq o3) X' (hself x) hs hp hh (fun p hp => Nat.ne_of_lt (l1 p hp)) (Nat.ne_of_gt l2) body [] _ [] _ _ _ _ _ _ rfl (Nat.le_of_ble_eq_true (hz x _)) (hr x _) so (sw _) (by rw [show mOf params.args (.ref x :: vs) = _ from funext (mOf_eq params.args (.ref x :: vs))]; exact F') N' (fun h2 t2 F2 N2 => ?_)
    refine leaveK_ F2 N2 fun F3 N3 => ⟨rfl, ?_⟩
    exact k x dx h2 _ t2 F3 N3 l1 l2
  · have := List.all_eq_true.mp o2 x hx
    rw [e] at this
    cases this
end


/-- a loop over items, of any number, by what holds between the turns -/
theorem items_inv {α : Type} {prog : Program} {w : World} {A : Around} {E : Value → Shared → Prop} {s : Shared} {env : Env} {h₀ : Heap} {target : PySem.Expr} {body : List Stmt} {Q : Flow → Shared → Prop} {I : Addr} {ty : String} {keep : Led}
    (f : α → Itm) (V : α → Value → Prop) (hf : ∀ p v h, (f p).Is v h → V p v) (Inv : List α → (Str → Option Value) → Led → Prop) (hk : ∀ ps m news, Inv ps m news → SubL keep news)
    (turn : ∀ p ps m news h tk o v, Inv (p :: ps) m news → V p v → o.cls = .type ty → Fr h₀ env.locals h m → News h₀ env.locals h ((I, o) :: news) →
      wpAny (model prog w) A (assign target env v) (fun _ s₂ => wpAny (model prog w) A (execs body env) (UnrPostW h₀ env.locals { s with heap := h, toks := tk } [(I, o)] (fun m' n' => Inv ps m' n') Q) E s₂) E { s with heap := h, toks := tk })
    (stop : ∀ m news h tk, Inv [] m news → Fr h₀ env.locals h m → News h₀ env.locals h news → Q .next { s with heap := h, toks := tk }) :
    ∀ ps m news, Inv ps m news → ItemsRest prog w A E h₀ env target body Q s [(I, ty)] keep (ps.map f) m news := by
  intro ps
  induction ps with
  | nil =>
    intro m news hm
    exact fun h tk F N => stop m news h tk hm F N
  | cons p ps ih =>
    intro m news hm v h tk e F
    refine AllObj.cons fun o hc => AllObj.nil fun N => ?_
    refine wpAny_mono (turn p ps m news h tk o v hm (hf p v h e) hc F N) (fun _ s₂ h₂ => wpAny_mono h₂ (fun fl s₃ q => ?_) fun _ _ e => e) fun _ _ e => e
    have fin : ∀ s₃, UnrEndW h₀ env.locals { s with heap := h, toks := tk } [(I, o)] (fun m' n' => Inv ps m' n') s₃ →
        UnrEndW h₀ env.locals { s with heap := h, toks := tk } [(I, o)] (fun m' n' => SubL keep n' ∧ ItemsRest prog w A E h₀ env target body Q s [(I, ty)] keep (ps.map f) m' n') s₃ := by
      rintro s₃ ⟨h', tk', m', news', e, F', N', off, r⟩
      exact ⟨h', tk', m', news', e, F', N', off, hk _ _ _ r, ih _ _ r⟩
    cases fl with
    | ret v => exact q
    | brk => exact q
    | next => exact fin _ q
    | cont => exact fin _ q
section
open LCg LCt
variable {prog : Program} {w : World} {A : Around} {h₀ : Heap} {L : Addr} {m : Str → Option Value} {env : Env} {elt ct : PySem.Expr} {x : Str} {scope : Scope} {cl : List (Str × Addr)} {s : Shared} {S : Led → Prop} {P : Nat → Value → Prop} {Fin : List Value → Led → Prop}
theorem comp_inv (n : Nat) (Inv : Nat → List Value → Led → Prop)
    (turn : ∀ i ys news v I oI C oC D m₂ h tk (E' : Value → Shared → Prop), i < n → Inv i ys news → P i v → NsObj oC m₂ → m₂ x = some v → Fr h₀ L h m → News h₀ L h ((I, oI) :: (C, oC) :: (D, lst ys) :: news) → Off3 I C D news → ((@Ne Nat I C) ∧ (@Ne Nat I D) ∧ (@Ne Nat C D)) →
      wpAny (model prog w) A (eval elt (compEnvC scope cl C env)) (CompEnd h₀ L m { s with heap := h, toks := tk } I oI C oC D (lst ys) S (fun y news' => Inv (i + 1) (ys ++ [y]) news')) E' { s with heap := h, toks := tk })
    (stop : ∀ ys news, Inv n ys news → Fin ys news) : ∀ k i ys news, k + i = n → Inv i ys news → CompRest prog w A h₀ L m env elt x scope cl s S P Fin k i ys news := by
  intro k
  induction k with
  | zero => intro i ys news e h; obtain rfl : i = n := by omega
            exact CompRest.zero (stop ys news h)
  | succ k ih =>
    intro i ys news e h
    refine CompRest.succ ?_
    intro v I oI C oC D m₂ h' tk E' hv hC hx F N off ne
    refine wpAny_mono (turn i ys news v I oI C oC D m₂ h' tk E' (by omega) h hv hC hx F N off ne) (fun y s₄ h₄ => ?_) fun _ _ e => e
    obtain ⟨h₅, tk₅, news₅, e₅, F₅, N₅, o₅, S₅, r₅⟩ := h₄
    exact ⟨h₅, tk₅, news₅, e₅, F₅, N₅, o₅, S₅, ih _ _ _ (by omega) r₅⟩
/-- a comprehension with a test that drops every item -/
theorem comp_none (n : Nat) {news : Led}
    (turn : ∀ i v I oI C oC D m₂ h tk (E' : Value → Shared → Prop) (Q' : Bool → Shared → Prop), i < n → P i v → NsObj oC m₂ → m₂ x = some v → Fr h₀ L h m → News h₀ L h ((I, oI) :: (C, oC) :: (D, lst []) :: news) → Off3 I C D news → ((@Ne Nat I C) ∧ (@Ne Nat I D) ∧ (@Ne Nat C D)) →
      (∀ h' tk', Fr h₀ L h' m → News h₀ L h' ((I, oI) :: (C, oC) :: (D, lst []) :: news) → Q' false { s with heap := h', toks := tk' }) →
      wpAny (model prog w) A (isTrue ct (compEnvC scope cl C env) (eval ct (compEnvC scope cl C env))) Q' E' { s with heap := h, toks := tk })
    (hS : S news) (stop : Fin [] news) : ∀ k i, k + i = n → CompRestT prog w A h₀ L m env ct elt x scope cl s S P Fin k i [] news := by
  intro k
  induction k with
  | zero => intro i e; exact CompRestT.zero stop
  | succ k ih =>
    intro i e
    refine CompRestT.succ ?_
    intro v I oI C oC D m₂ h' tk E' hv hC hx F N off ne
    refine turn i v I oI C oC D m₂ h' tk E' _ (by omega) hv hC hx F N off ne fun h₂ tk₂ F₂ N₂ => ?_
    rw [if_neg Bool.false_ne_true]
    exact ⟨h₂, tk₂, news, rfl, F₂, N₂, off, hS, ih _ (by omega)⟩
end
section
variable {prog : Program} {w : World} {A : Around} {E : Value → Shared → Prop} {s : Shared} {env : Env} {h₀ : Heap} {body : List Stmt} {Q : Flow → Shared → Prop}
/-- a loop over a range -/
theorem iter_range {tn : Str} {tp : Pos} {r : Addr} {n : Nat} {t u v : Tok} {m₀ : Str → Option Value} {news : Led} (hh : A.handled = none) (hr : IsRange s.heap r 0 n 1 t u v) (hn : n ≤ 64)
    (F : Fr h₀ env.locals s.heap m₀) (N : News h₀ env.locals s.heap news)
    (rest₀ : ∀ I : Addr, (∀ p ∈ news, p.1 < I) → ItemsRest prog w A E h₀ env (.Name tn tp) body Q s [(I, "range_iterator")] [] ((List.range n).map fun (i : Nat) => Itm.tok fun u => .int (i : Int) u) m₀ news) :
    wpAny (model prog w) A (pyIter (.ref r)) (fun it s₂ => TurnsAt prog w A h₀ env (.Name tn tp) body Q E it s₂) E s := by
  have hsz : Builtin.Range.rangeSize 0 (n : Int) 1 = ((n : Nat) : Int) := by rw [rangeSize_nat]; omega
  have hsm : Builtin.Range.small 0 (n : Int) 1 = true := small_one (by omega) (by omega) (by omega) (by omega)
  refine wpAny_pyIter_range hr hsm ?_
  have up : ∀ b o, s.heap.get? b = some o → (s.heap.push { cls := .type "range_iterator", data := .fields #[rawInt 0, rawInt (Builtin.Range.rangeSize 0 (n : Int) 1), rawInt 1] }).get? b = some o := fun b o e => Heap.get?_push_of_some _ e
  refine ktu_core (tk0 := s.toks) (keep := []) (KTurns.ofWalks (Walks.range hh s.heap.objs.size 0 1 n).bound fun i v s Q E st q => wpAny_pure q) (by simp) ?_ ?_ ?_ ?_ ?_ ?_ ?_ ?_ (F.push _) (fun p hp => ⟨up _ _ (N p hp).1, (N p hp).2⟩) trivial (rest₀ _ fun p hp => Heap.lt_size (N p hp).1)
  · rintro i v h ⟨hi, t, rfl⟩
    exact ⟨Itm.tok fun u => .int (i : Int) u, by simp [hi], t, by rw [Int.mul_one, Int.zero_add]⟩
  · intro i h st
    exact ⟨[(s.heap.objs.size, _)], ⟨⟨rfl, rfl⟩, trivial⟩, fun p hp => by rw [List.mem_singleton.mp hp]; exact st⟩
  · intro b hb
    have hb' : b = s.heap.objs.size := by simpa using hb
    exact ⟨by simp [hb'], by rw [hb']; exact next_free F⟩
  · intro b hb
    simpa using hb
  · intro b hb
    exact .inl (by simpa using hb)
  · intro hI
    exact absurd F.ns.lt ((List.mem_singleton.mp hI) ▸ Nat.lt_irrefl _)
  · intro p hp hI
    exact absurd (Heap.lt_size (N p hp).1) ((List.mem_singleton.mp hI) ▸ Nat.lt_irrefl _)
  · show IsRangeIter _ _ _ _ _
    rw [hsz]
    simpa using Heap.get?_push_size _ rfl
end
theorem unr_s {h₀ : Heap} {L I : Addr} {oI : Obj} {R : (Str → Option Value) → Led → Prop} {s₁ : Shared} {h' : Heap} {tk : Nat} {m' : Str → Option Value} {all rest : Led}
    (F : Fr h₀ L h' m') (N : News h₀ L h' all) (hs : ∀ p ∈ (I, oI) :: rest, p ∈ all) (off : ∀ p ∈ rest, p.1 ≠ I) (r : R m' rest) : UnrEndW h₀ L s₁ [(I, oI)] R { s₁ with heap := h', toks := tk } :=
  ⟨h', tk, m', rest, rfl, F, News.sub N hs, fun p hp q hq => by rw [List.mem_singleton.mp hq]; exact off p hp, r⟩

section
local macro_rules | `(tactic| mul_fits) => `(tactic| with_unfolding_all exact mulOk_fmod _ _)
theorem take_spec (aS : Addr) (σ : Src) (top : Int) (tt : Tok) (rest : Led) (ht : 1 ≤ top ∧ top ≤ 12) (hne : ∀ p ∈ rest, p.1 ≠ aS) :
    Spec 3 655 [.ref aS, .int top tt] ((aS, srcO σ) :: rest)
      (fun news' v => ∃ d td σ', 0 ≤ d ∧ d < top ∧ v = .int d td ∧ news' = (aS, srcO σ') :: rest) := Carry.out (by exact Carry.mk : Carry ((by
  obtain ⟨x, y, tx, ty, n⟩ := σ
  unfold Spec srcO
  intro prog w p loose mean mg mb dp un gd cn cs a ccd cl outer A₀ base h₀ L m s Q E B F X N T hk hd hu hret
  k_dflt k_extra "ktr_enter"
  k_steps
  all_goals (refine endV (by k_asm) (by k_asm) (by k_asm) (fun _ _ F9 N9 => hret _ _ _ _ F9 N9 ?_); refine ⟨_, _, ⟨_, _, _, _, _⟩, ?_, ?_, rfl, rfl⟩)
  · exact Int.fmod_nonneg_of_pos _ (by omega)
  · exact Int.fmod_lt_of_pos _ (by omega)
  · exact Int.fmod_nonneg_of_pos _ (by omega)
  · exact Int.fmod_lt_of_pos _ (by omega)
  done
  : Spec 3 655 [.ref aS, .int top tt] ((aS, srcO σ) :: rest) (fun news' v => ∃ d td σ', 0 ≤ d ∧ d < top ∧ v = .int d td ∧ news' = (aS, srcO σ') :: rest)) :))

end

theorem take_specu {prog9 : Program} {w9 : World} {p9 : Program} {loose9 : List Str} {mean9 : ExcName → Option Value} {mg9 mb9 : Str → Option Value} {dp9 un9 : Nat} {gd9 : Option (List Code)} {cn9 : Str} {cs9 : Scope} {a9 : Addr} {ccd9 : Value} {cl9 : List (Str × Addr)} {outer9 : List Env} {A₀9 : Around} {base9 h₀9 : Heap} {L9 : Addr} {m9 : Str → Option Value} {hh9 : Heap} {gg9 : Array GenState} {dd9 : Drawn} {tt9 : Nat} {oo9 : OsState} {Q9 E9 : Value → Shared → Prop} {A9 : Around} {cur9 : Led} (aS : Addr) (σ : Src) (top : Int) (tt : Tok) (rest : Led) (hA9 : A9 = ktrTop dp9 un9 gd9 cn9 cs9 L9 a9 ccd9 cl9 outer9) (B9 : Below A₀9 base9 outer9 h₀9) (F9 : Fr h₀9 L9 hh9 m9) (X9 : (hd.heap_39 w9.params).In h₀9) (N9 : News h₀9 L9 hh9 cur9) (K9 : Pick aS (srcO σ) cur9 (rest)) (T9 : Top p9 loose9 mean9 mg9 mb9 h₀9) (hk9 : cs9.kind = .function) (ht : 1 ≤ top ∧ top ≤ 12) (hne : ∀ p ∈ rest, p.1 ≠ aS) (hd9 : dp9 + 3 < recursionLimit) (hu9 : un9 + 8 * 3 < cLine)
    (ret9 : ∀ d td σ', (0 ≤ d) → (d < top) → ∀ h9 tk9, Fr h₀9 L9 h9 m9 → News h₀9 L9 h9 ((aS, srcO σ') :: rest) → Q9 (.int d td) ⟨h9, gg9, dd9, tk9, oo9⟩) :
    wpAny (model prog9 w9) A9 (call (.ref 655) [.ref aS, .int top tt]) Q9 E9 ⟨hh9, gg9, dd9, tt9, oo9⟩ := by
  subst hA9
  refine Spec.useP B9 F9 X9 N9 K9 T9 hk9 (take_spec aS σ top tt rest ht hne) hd9 hu9 fun v nw8 h8 tk8 F8 N8 P8 => ?_
  obtain ⟨d, td, σ', c0, c1, rfl, rfl⟩ := P8
  exact ret9 d td σ' c0 c1 h8 tk8 F8 N8
theorem rows_take_1 : True := by
  k_with "call ref" => first | (k_here; (with_reducible show wpAny _ _ (call (Value.ref 655) _) _ _ _); (with_reducible refine take_specu _ _ _ _ _ (by k_dflt (exact rfl)) (by k_dflt (k_asm)) (by k_dflt (k_asm)) (by k_dflt (k_asm)) (by k_dflt (k_asm)) (by k_dflt (repeat (first | exact Pick.head | apply Pick.tail | apply Pick.app))) (by k_dflt (k_asm)) (by k_dflt (first | exact rfl | assumption)) (by k_dflt (omega)) (by k_dflt (k_extra "ktu_offL")) (by k_dflt (k_extra "ktr_room")) (by k_dflt (k_extra "ktr_units")) ?_); intro d9 td9 σ9 lo9 hi9 h9 tk9 F9 N9; (try k_sweep); (try k_fold)) | fail "row"
  trivial
section
theorem rows_one_1 : True := by
  k_with "subscriptTail" => (fail_if_success k_extra "oone"); first | ((k_here; (with_reducible show wpAny _ _ (subscriptTail _ _ (Value.ref _) (Value.int _ _)) _ _ _); k_dflt (refine' item_sym (by k_asm) (by k_extra "lcg_off") (by omega) (by omega) (by omega) ?_; k_whole))) | fail "row"
  k_with "subscriptTail Name" => (fail_if_success k_extra "oone"); first | ((k_here; (with_reducible show wpAny _ _ (subscriptTail _ _ (Value.ref _) (Value.int _ _)) _ _ _); k_dflt (refine' item_sym (by k_asm) (by k_extra "lcg_off") (by omega) (by omega) (by omega) ?_; k_whole))) | fail "row"
  k_with "subscriptTail Subscript" => (fail_if_success k_extra "oone"); first | ((k_here; (with_reducible show wpAny _ _ (subscriptTail _ _ (Value.ref _) (Value.int _ _)) _ _ _); k_dflt (refine' item_sym (by k_asm) (by k_extra "lcg_off") (by omega) (by omega) (by omega) ?_; k_whole))) | fail "row"
  k_with "subscriptTail Attribute" => (fail_if_success k_extra "oone"); first | ((k_here; (with_reducible show wpAny _ _ (subscriptTail _ _ (Value.ref _) (Value.int _ _)) _ _ _); k_dflt (refine' item_sym (by k_asm) (by k_extra "lcg_off") (by omega) (by omega) (by omega) ?_; k_whole))) | fail "row"
  k_with "call builtin:len" => (fail_if_success k_extra "oone"); first | ((k_here; (with_reducible show wpAny _ _ (call (Value.builtin "len") [Value.ref _]) _ _ _); k_dflt (refine' len_sym (by k_asm) (by k_extra "lcg_off") (by omega) ?_; k_whole))) | fail "row"
  trivial
theorem one_spec (aS : Addr) (σ : Src) (tL : Addr) (vs : List Value) (n : Nat) (rest : Led) (hm : (tL, W.listOf vs.toArray n) ∈ rest) (hl : 1 ≤ vs.length ∧ vs.length ≤ 12) (hne : ∀ p ∈ rest, p.1 ≠ aS) :
    Spec 5 662 [.ref aS, .ref tL] ((aS, srcO σ) :: rest)
      (fun news' v => ∃ i σ', i < vs.length ∧ v = vs.getD i .none ∧ news' = (aS, srcO σ') :: rest) := Carry.out (by exact Carry.mk : Carry ((by
  unfold Spec
  intro prog w p loose mean mg mb dp un gd cn cs a ccd cl outer A₀ base h₀ L m s Q E B F X N T hk hd hu hret
  k_dflt k_extra "ktr_enter"
  k_steps
  all_goals (refine endV (by k_asm) (by k_asm) (by k_asm) (fun _ _ F9 N9 => hret _ _ _ _ F9 N9 ?_); exact ⟨_, _, by omega, rfl, rfl⟩)
  done
  : Spec 5 662 [.ref aS, .ref tL] ((aS, srcO σ) :: rest) (fun news' v => ∃ i σ', i < vs.length ∧ v = vs.getD i .none ∧ news' = (aS, srcO σ') :: rest)) :))

end

theorem one_specu {prog9 : Program} {w9 : World} {p9 : Program} {loose9 : List Str} {mean9 : ExcName → Option Value} {mg9 mb9 : Str → Option Value} {dp9 un9 : Nat} {gd9 : Option (List Code)} {cn9 : Str} {cs9 : Scope} {a9 : Addr} {ccd9 : Value} {cl9 : List (Str × Addr)} {outer9 : List Env} {A₀9 : Around} {base9 h₀9 : Heap} {L9 : Addr} {m9 : Str → Option Value} {hh9 : Heap} {gg9 : Array GenState} {dd9 : Drawn} {tt9 : Nat} {oo9 : OsState} {Q9 E9 : Value → Shared → Prop} {A9 : Around} {cur9 : Led} (aS : Addr) (σ : Src) (tL : Addr) (vs : List Value) (n : Nat) (rest : Led) (hA9 : A9 = ktrTop dp9 un9 gd9 cn9 cs9 L9 a9 ccd9 cl9 outer9) (B9 : Below A₀9 base9 outer9 h₀9) (F9 : Fr h₀9 L9 hh9 m9) (X9 : (hd.heap_39 w9.params).In h₀9) (N9 : News h₀9 L9 hh9 cur9) (K9 : Pick aS (srcO σ) cur9 (rest)) (T9 : Top p9 loose9 mean9 mg9 mb9 h₀9) (hk9 : cs9.kind = .function) (hm : (tL, W.listOf vs.toArray n) ∈ rest) (hl : 1 ≤ vs.length ∧ vs.length ≤ 12) (hne : ∀ p ∈ rest, p.1 ≠ aS) (hd9 : dp9 + 5 < recursionLimit) (hu9 : un9 + 8 * 5 < cLine)
    (ret9 : ∀ i σ', (i < vs.length) → ∀ h9 tk9, Fr h₀9 L9 h9 m9 → News h₀9 L9 h9 ((aS, srcO σ') :: rest) → Q9 (vs.getD i .none) ⟨h9, gg9, dd9, tk9, oo9⟩) :
    wpAny (model prog9 w9) A9 (call (.ref 662) [.ref aS, .ref tL]) Q9 E9 ⟨hh9, gg9, dd9, tt9, oo9⟩ := by
  subst hA9
  refine Spec.useP B9 F9 X9 N9 K9 T9 hk9 (one_spec aS σ tL vs n rest hm hl hne) hd9 hu9 fun v nw8 h8 tk8 F8 N8 P8 => ?_
  obtain ⟨i, σ', c0, rfl, rfl⟩ := P8
  exact ret9 i σ' c0 h8 tk8 F8 N8
theorem rows_one_2 : True := by
  k_with "oone" => skip
  k_with "call ref" => first | (k_here; (with_reducible show wpAny _ _ (call (Value.ref 662) _) _ _ _); (with_reducible refine one_specu _ _ _ _ _ _ (by k_dflt (exact rfl)) (by k_dflt (k_asm)) (by k_dflt (k_asm)) (by k_dflt (k_asm)) (by k_dflt (k_asm)) (by k_dflt (repeat (first | exact Pick.head | apply Pick.tail | apply Pick.app))) (by k_dflt (k_asm)) (by k_dflt (first | exact rfl | assumption)) (by k_dflt (k_extra "lcg_off")) (by k_dflt (exact ⟨Nat.le_of_ble_eq_true rfl, Nat.le_of_ble_eq_true rfl⟩)) (by k_dflt (k_extra "ktu_offL")) (by k_dflt (k_extra "ktr_room")) (by k_dflt (k_extra "ktr_units")) ?_); intro i9 σ9 hi9 h9 tk9 F9 N9; (try k_sweep); (try k_fold)) | fail "row"
  trivial
theorem name_specu {prog9 : Program} {w9 : World} {p9 : Program} {loose9 : List Str} {mean9 : ExcName → Option Value} {mg9 mb9 : Str → Option Value} {dp9 un9 : Nat} {gd9 : Option (List Code)} {cn9 : Str} {cs9 : Scope} {a9 : Addr} {ccd9 : Value} {cl9 : List (Str × Addr)} {outer9 : List Env} {A₀9 : Around} {base9 h₀9 : Heap} {L9 : Addr} {m9 : Str → Option Value} {hh9 : Heap} {gg9 : Array GenState} {dd9 : Drawn} {tt9 : Nat} {oo9 : OsState} {Q9 E9 : Value → Shared → Prop} {A9 : Around} (tb : Str) (co : Str) (tt : Tok) (tu : Tok) {news : Led} (hA9 : A9 = ktrTop dp9 un9 gd9 cn9 cs9 L9 a9 ccd9 cl9 outer9) (B9 : Below A₀9 base9 outer9 h₀9) (F9 : Fr h₀9 L9 hh9 m9) (X9 : (hd.heap_39 w9.params).In h₀9) (N9 : News h₀9 L9 hh9 news) (T9 : Top p9 loose9 mean9 mg9 mb9 h₀9) (hk9 : cs9.kind = .function) (hd9 : dp9 + 1 < recursionLimit)
    (ret9 : ∀ x dx h1 h2 h3 h4 h5 t1 t2 t3 t4 t5 tz, (∀ p ∈ news, p.1 < dx) → @LT.lt Nat _ dx x → ∀ h9 tk9, Fr h₀9 L9 h9 m9 → News h₀9 L9 h9 ((x, instObj 116 dx) :: (dx, dictOf [ent h1 "table" t1 (.str tb tt), ent h2 "column" t2 (.str co tu), ent h3 "source" t3 .none, ent h4 "place" t4 .none, ent h5 "depth" t5 (.int 0 tz)] 5) :: news) → Q9 (.ref x) ⟨h9, gg9, dd9, tk9, oo9⟩) :
    wpAny (model prog9 w9) A9 (call (.ref 116) [.str tb tt, .str co tu]) Q9 E9 ⟨hh9, gg9, dd9, tt9, oo9⟩ := by
  subst hA9
  refine make_rd (s := ⟨hh9, gg9, dd9, tt9, oo9⟩) (self := Str.ofString "self") (by k_is) (by k_is) (by k_is) (by k_is) (by k_is) (by k_is) (by k_is) (by k_is) B9 F9 X9 N9 T9 hk9 hd9 (fun _ => by kernel_rfl) (fun _ => by kernel_rfl) (fun _ => rfl) (fun _ _ => rfl) (fun _ _ => rfl) (by kernel_rfl) (fun _ => by repeat (first | exact True.intro | refine And.intro rfl ?_)) ?_
  exact fun x dx h' t t' F' N' l1 l2 => ret9 _ _ _ _ _ _ _ _ _ _ _ _ _ l1 l2 _ _ F' N'
theorem litc_specu {prog9 : Program} {w9 : World} {p9 : Program} {loose9 : List Str} {mean9 : ExcName → Option Value} {mg9 mb9 : Str → Option Value} {dp9 un9 : Nat} {gd9 : Option (List Code)} {cn9 : Str} {cs9 : Scope} {a9 : Addr} {ccd9 : Value} {cl9 : List (Str × Addr)} {outer9 : List Env} {A₀9 : Around} {base9 h₀9 : Heap} {L9 : Addr} {m9 : Str → Option Value} {hh9 : Heap} {gg9 : Array GenState} {dd9 : Drawn} {tt9 : Nat} {oo9 : OsState} {Q9 E9 : Value → Shared → Prop} {A9 : Around} (v1 : Value) {news : Led} (hA9 : A9 = ktrTop dp9 un9 gd9 cn9 cs9 L9 a9 ccd9 cl9 outer9) (B9 : Below A₀9 base9 outer9 h₀9) (F9 : Fr h₀9 L9 hh9 m9) (X9 : (hd.heap_39 w9.params).In h₀9) (N9 : News h₀9 L9 hh9 news) (T9 : Top p9 loose9 mean9 mg9 mb9 h₀9) (hk9 : cs9.kind = .function) (hd9 : dp9 + 1 < recursionLimit)
    (ret9 : ∀ x dx h1 t1, (∀ p ∈ news, p.1 < dx) → @LT.lt Nat _ dx x → ∀ h9 tk9, Fr h₀9 L9 h9 m9 → News h₀9 L9 h9 ((x, instObj 90 dx) :: (dx, dictOf [ent h1 "value" t1 v1] 1) :: news) → Q9 (.ref x) ⟨h9, gg9, dd9, tk9, oo9⟩) :
    wpAny (model prog9 w9) A9 (call (.ref 90) [v1]) Q9 E9 ⟨hh9, gg9, dd9, tt9, oo9⟩ := by
  subst hA9
  refine make_rd (s := ⟨hh9, gg9, dd9, tt9, oo9⟩) (self := Str.ofString "self") (by k_is) (by k_is) (by k_is) (by k_is) (by k_is) (by k_is) (by k_is) (by k_is) B9 F9 X9 N9 T9 hk9 hd9 (fun _ => by kernel_rfl) (fun _ => by kernel_rfl) (fun _ => rfl) (fun _ _ => rfl) (fun _ _ => rfl) (by kernel_rfl) (fun _ => by repeat (first | exact True.intro | refine And.intro rfl ?_)) ?_
  exact fun x dx h' t t' F' N' l1 l2 => ret9 _ _ _ _ l1 l2 _ _ F' N'
theorem unc_specu {prog9 : Program} {w9 : World} {p9 : Program} {loose9 : List Str} {mean9 : ExcName → Option Value} {mg9 mb9 : Str → Option Value} {dp9 un9 : Nat} {gd9 : Option (List Code)} {cn9 : Str} {cs9 : Scope} {a9 : Addr} {ccd9 : Value} {cl9 : List (Str × Addr)} {outer9 : List Env} {A₀9 : Around} {base9 h₀9 : Heap} {L9 : Addr} {m9 : Str → Option Value} {hh9 : Heap} {gg9 : Array GenState} {dd9 : Drawn} {tt9 : Nat} {oo9 : OsState} {Q9 E9 : Value → Shared → Prop} {A9 : Around} (v1 : Value) (v2 : Value) {news : Led} (hA9 : A9 = ktrTop dp9 un9 gd9 cn9 cs9 L9 a9 ccd9 cl9 outer9) (B9 : Below A₀9 base9 outer9 h₀9) (F9 : Fr h₀9 L9 hh9 m9) (X9 : (hd.heap_39 w9.params).In h₀9) (N9 : News h₀9 L9 hh9 news) (T9 : Top p9 loose9 mean9 mg9 mb9 h₀9) (hk9 : cs9.kind = .function) (hd9 : dp9 + 1 < recursionLimit)
    (ret9 : ∀ x dx h1 h2 t1 t2, (∀ p ∈ news, p.1 < dx) → @LT.lt Nat _ dx x → ∀ h9 tk9, Fr h₀9 L9 h9 m9 → News h₀9 L9 h9 ((x, instObj 142 dx) :: (dx, dictOf [ent h1 "op" t1 v1, ent h2 "operand" t2 v2] 2) :: news) → Q9 (.ref x) ⟨h9, gg9, dd9, tk9, oo9⟩) :
    wpAny (model prog9 w9) A9 (call (.ref 142) [v1, v2]) Q9 E9 ⟨hh9, gg9, dd9, tt9, oo9⟩ := by
  subst hA9
  refine make_rd (s := ⟨hh9, gg9, dd9, tt9, oo9⟩) (self := Str.ofString "self") (by k_is) (by k_is) (by k_is) (by k_is) (by k_is) (by k_is) (by k_is) (by k_is) B9 F9 X9 N9 T9 hk9 hd9 (fun _ => by kernel_rfl) (fun _ => by kernel_rfl) (fun _ => rfl) (fun _ _ => rfl) (fun _ _ => rfl) (by kernel_rfl) (fun _ => by repeat (first | exact True.intro | refine And.intro rfl ?_)) ?_
  exact fun x dx h' t t' F' N' l1 l2 => ret9 _ _ _ _ _ _ l1 l2 _ _ F' N'
theorem binc_specu {prog9 : Program} {w9 : World} {p9 : Program} {loose9 : List Str} {mean9 : ExcName → Option Value} {mg9 mb9 : Str → Option Value} {dp9 un9 : Nat} {gd9 : Option (List Code)} {cn9 : Str} {cs9 : Scope} {a9 : Addr} {ccd9 : Value} {cl9 : List (Str × Addr)} {outer9 : List Env} {A₀9 : Around} {base9 h₀9 : Heap} {L9 : Addr} {m9 : Str → Option Value} {hh9 : Heap} {gg9 : Array GenState} {dd9 : Drawn} {tt9 : Nat} {oo9 : OsState} {Q9 E9 : Value → Shared → Prop} {A9 : Around} (v1 : Value) (v2 : Value) (v3 : Value) {news : Led} (hA9 : A9 = ktrTop dp9 un9 gd9 cn9 cs9 L9 a9 ccd9 cl9 outer9) (B9 : Below A₀9 base9 outer9 h₀9) (F9 : Fr h₀9 L9 hh9 m9) (X9 : (hd.heap_39 w9.params).In h₀9) (N9 : News h₀9 L9 hh9 news) (T9 : Top p9 loose9 mean9 mg9 mb9 h₀9) (hk9 : cs9.kind = .function) (hd9 : dp9 + 1 < recursionLimit)
    (ret9 : ∀ x dx h1 h2 h3 t1 t2 t3, (∀ p ∈ news, p.1 < dx) → @LT.lt Nat _ dx x → ∀ h9 tk9, Fr h₀9 L9 h9 m9 → News h₀9 L9 h9 ((x, instObj 168 dx) :: (dx, dictOf [ent h1 "op" t1 v1, ent h2 "left" t2 v2, ent h3 "right" t3 v3] 3) :: news) → Q9 (.ref x) ⟨h9, gg9, dd9, tk9, oo9⟩) :
    wpAny (model prog9 w9) A9 (call (.ref 168) [v1, v2, v3]) Q9 E9 ⟨hh9, gg9, dd9, tt9, oo9⟩ := by
  subst hA9
  refine make_rd (s := ⟨hh9, gg9, dd9, tt9, oo9⟩) (self := Str.ofString "self") (by k_is) (by k_is) (by k_is) (by k_is) (by k_is) (by k_is) (by k_is) (by k_is) B9 F9 X9 N9 T9 hk9 hd9 (fun _ => by kernel_rfl) (fun _ => by kernel_rfl) (fun _ => rfl) (fun _ _ => rfl) (fun _ _ => rfl) (by kernel_rfl) (fun _ => by repeat (first | exact True.intro | refine And.intro rfl ?_)) ?_
  exact fun x dx h' t t' F' N' l1 l2 => ret9 _ _ _ _ _ _ _ _ l1 l2 _ _ F' N'
theorem btwc_specu {prog9 : Program} {w9 : World} {p9 : Program} {loose9 : List Str} {mean9 : ExcName → Option Value} {mg9 mb9 : Str → Option Value} {dp9 un9 : Nat} {gd9 : Option (List Code)} {cn9 : Str} {cs9 : Scope} {a9 : Addr} {ccd9 : Value} {cl9 : List (Str × Addr)} {outer9 : List Env} {A₀9 : Around} {base9 h₀9 : Heap} {L9 : Addr} {m9 : Str → Option Value} {hh9 : Heap} {gg9 : Array GenState} {dd9 : Drawn} {tt9 : Nat} {oo9 : OsState} {Q9 E9 : Value → Shared → Prop} {A9 : Around} (v1 : Value) (v2 : Value) (v3 : Value) (v4 : Value) {news : Led} (hA9 : A9 = ktrTop dp9 un9 gd9 cn9 cs9 L9 a9 ccd9 cl9 outer9) (B9 : Below A₀9 base9 outer9 h₀9) (F9 : Fr h₀9 L9 hh9 m9) (X9 : (hd.heap_39 w9.params).In h₀9) (N9 : News h₀9 L9 hh9 news) (T9 : Top p9 loose9 mean9 mg9 mb9 h₀9) (hk9 : cs9.kind = .function) (hd9 : dp9 + 1 < recursionLimit)
    (ret9 : ∀ x dx h1 h2 h3 h4 t1 t2 t3 t4, (∀ p ∈ news, p.1 < dx) → @LT.lt Nat _ dx x → ∀ h9 tk9, Fr h₀9 L9 h9 m9 → News h₀9 L9 h9 ((x, instObj 194 dx) :: (dx, dictOf [ent h1 "value" t1 v1, ent h2 "low" t2 v2, ent h3 "high" t3 v3, ent h4 "negated" t4 v4] 4) :: news) → Q9 (.ref x) ⟨h9, gg9, dd9, tk9, oo9⟩) :
    wpAny (model prog9 w9) A9 (call (.ref 194) [v1, v2, v3, v4]) Q9 E9 ⟨hh9, gg9, dd9, tt9, oo9⟩ := by
  subst hA9
  refine make_rd (s := ⟨hh9, gg9, dd9, tt9, oo9⟩) (self := Str.ofString "self") (by k_is) (by k_is) (by k_is) (by k_is) (by k_is) (by k_is) (by k_is) (by k_is) B9 F9 X9 N9 T9 hk9 hd9 (fun _ => by kernel_rfl) (fun _ => by kernel_rfl) (fun _ => rfl) (fun _ _ => rfl) (fun _ _ => rfl) (by kernel_rfl) (fun _ => by repeat (first | exact True.intro | refine And.intro rfl ?_)) ?_
  exact fun x dx h' t t' F' N' l1 l2 => ret9 _ _ _ _ _ _ _ _ _ _ l1 l2 _ _ F' N'
theorem inlc_specu {prog9 : Program} {w9 : World} {p9 : Program} {loose9 : List Str} {mean9 : ExcName → Option Value} {mg9 mb9 : Str → Option Value} {dp9 un9 : Nat} {gd9 : Option (List Code)} {cn9 : Str} {cs9 : Scope} {a9 : Addr} {ccd9 : Value} {cl9 : List (Str × Addr)} {outer9 : List Env} {A₀9 : Around} {base9 h₀9 : Heap} {L9 : Addr} {m9 : Str → Option Value} {hh9 : Heap} {gg9 : Array GenState} {dd9 : Drawn} {tt9 : Nat} {oo9 : OsState} {Q9 E9 : Value → Shared → Prop} {A9 : Around} (v1 : Value) (v2 : Value) (v3 : Value) {news : Led} (hA9 : A9 = ktrTop dp9 un9 gd9 cn9 cs9 L9 a9 ccd9 cl9 outer9) (B9 : Below A₀9 base9 outer9 h₀9) (F9 : Fr h₀9 L9 hh9 m9) (X9 : (hd.heap_39 w9.params).In h₀9) (N9 : News h₀9 L9 hh9 news) (T9 : Top p9 loose9 mean9 mg9 mb9 h₀9) (hk9 : cs9.kind = .function) (hd9 : dp9 + 1 < recursionLimit)
    (ret9 : ∀ x dx h1 h2 h3 t1 t2 t3, (∀ p ∈ news, p.1 < dx) → @LT.lt Nat _ dx x → ∀ h9 tk9, Fr h₀9 L9 h9 m9 → News h₀9 L9 h9 ((x, instObj 220 dx) :: (dx, dictOf [ent h1 "value" t1 v1, ent h2 "items" t2 v2, ent h3 "negated" t3 v3] 3) :: news) → Q9 (.ref x) ⟨h9, gg9, dd9, tk9, oo9⟩) :
    wpAny (model prog9 w9) A9 (call (.ref 220) [v1, v2, v3]) Q9 E9 ⟨hh9, gg9, dd9, tt9, oo9⟩ := by
  subst hA9
  refine make_rd (s := ⟨hh9, gg9, dd9, tt9, oo9⟩) (self := Str.ofString "self") (by k_is) (by k_is) (by k_is) (by k_is) (by k_is) (by k_is) (by k_is) (by k_is) B9 F9 X9 N9 T9 hk9 hd9 (fun _ => by kernel_rfl) (fun _ => by kernel_rfl) (fun _ => rfl) (fun _ _ => rfl) (fun _ _ => rfl) (by kernel_rfl) (fun _ => by repeat (first | exact True.intro | refine And.intro rfl ?_)) ?_
  exact fun x dx h' t t' F' N' l1 l2 => ret9 _ _ _ _ _ _ _ _ l1 l2 _ _ F' N'
theorem castc_specu {prog9 : Program} {w9 : World} {p9 : Program} {loose9 : List Str} {mean9 : ExcName → Option Value} {mg9 mb9 : Str → Option Value} {dp9 un9 : Nat} {gd9 : Option (List Code)} {cn9 : Str} {cs9 : Scope} {a9 : Addr} {ccd9 : Value} {cl9 : List (Str × Addr)} {outer9 : List Env} {A₀9 : Around} {base9 h₀9 : Heap} {L9 : Addr} {m9 : Str → Option Value} {hh9 : Heap} {gg9 : Array GenState} {dd9 : Drawn} {tt9 : Nat} {oo9 : OsState} {Q9 E9 : Value → Shared → Prop} {A9 : Around} (v1 : Value) (v2 : Value) {news : Led} (hA9 : A9 = ktrTop dp9 un9 gd9 cn9 cs9 L9 a9 ccd9 cl9 outer9) (B9 : Below A₀9 base9 outer9 h₀9) (F9 : Fr h₀9 L9 hh9 m9) (X9 : (hd.heap_39 w9.params).In h₀9) (N9 : News h₀9 L9 hh9 news) (T9 : Top p9 loose9 mean9 mg9 mb9 h₀9) (hk9 : cs9.kind = .function) (hd9 : dp9 + 1 < recursionLimit)
    (ret9 : ∀ x dx h1 h2 t1 t2, (∀ p ∈ news, p.1 < dx) → @LT.lt Nat _ dx x → ∀ h9 tk9, Fr h₀9 L9 h9 m9 → News h₀9 L9 h9 ((x, instObj 374 dx) :: (dx, dictOf [ent h1 "value" t1 v1, ent h2 "type_name" t2 v2] 2) :: news) → Q9 (.ref x) ⟨h9, gg9, dd9, tk9, oo9⟩) :
    wpAny (model prog9 w9) A9 (call (.ref 374) [v1, v2]) Q9 E9 ⟨hh9, gg9, dd9, tt9, oo9⟩ := by
  subst hA9
  refine make_rd (s := ⟨hh9, gg9, dd9, tt9, oo9⟩) (self := Str.ofString "self") (by k_is) (by k_is) (by k_is) (by k_is) (by k_is) (by k_is) (by k_is) (by k_is) B9 F9 X9 N9 T9 hk9 hd9 (fun _ => by kernel_rfl) (fun _ => by kernel_rfl) (fun _ => rfl) (fun _ _ => rfl) (fun _ _ => rfl) (by kernel_rfl) (fun _ => by repeat (first | exact True.intro | refine And.intro rfl ?_)) ?_
  exact fun x dx h' t t' F' N' l1 l2 => ret9 _ _ _ _ _ _ l1 l2 _ _ F' N'
theorem collc_specu {prog9 : Program} {w9 : World} {p9 : Program} {loose9 : List Str} {mean9 : ExcName → Option Value} {mg9 mb9 : Str → Option Value} {dp9 un9 : Nat} {gd9 : Option (List Code)} {cn9 : Str} {cs9 : Scope} {a9 : Addr} {ccd9 : Value} {cl9 : List (Str × Addr)} {outer9 : List Env} {A₀9 : Around} {base9 h₀9 : Heap} {L9 : Addr} {m9 : Str → Option Value} {hh9 : Heap} {gg9 : Array GenState} {dd9 : Drawn} {tt9 : Nat} {oo9 : OsState} {Q9 E9 : Value → Shared → Prop} {A9 : Around} (v1 : Value) (v2 : Value) {news : Led} (hA9 : A9 = ktrTop dp9 un9 gd9 cn9 cs9 L9 a9 ccd9 cl9 outer9) (B9 : Below A₀9 base9 outer9 h₀9) (F9 : Fr h₀9 L9 hh9 m9) (X9 : (hd.heap_39 w9.params).In h₀9) (N9 : News h₀9 L9 hh9 news) (T9 : Top p9 loose9 mean9 mg9 mb9 h₀9) (hk9 : cs9.kind = .function) (hd9 : dp9 + 1 < recursionLimit)
    (ret9 : ∀ x dx h1 h2 t1 t2, (∀ p ∈ news, p.1 < dx) → @LT.lt Nat _ dx x → ∀ h9 tk9, Fr h₀9 L9 h9 m9 → News h₀9 L9 h9 ((x, instObj 400 dx) :: (dx, dictOf [ent h1 "value" t1 v1, ent h2 "collation" t2 v2] 2) :: news) → Q9 (.ref x) ⟨h9, gg9, dd9, tk9, oo9⟩) :
    wpAny (model prog9 w9) A9 (call (.ref 400) [v1, v2]) Q9 E9 ⟨hh9, gg9, dd9, tt9, oo9⟩ := by
  subst hA9
  refine make_rd (s := ⟨hh9, gg9, dd9, tt9, oo9⟩) (self := Str.ofString "self") (by k_is) (by k_is) (by k_is) (by k_is) (by k_is) (by k_is) (by k_is) (by k_is) B9 F9 X9 N9 T9 hk9 hd9 (fun _ => by kernel_rfl) (fun _ => by kernel_rfl) (fun _ => rfl) (fun _ _ => rfl) (fun _ _ => rfl) (by kernel_rfl) (fun _ => by repeat (first | exact True.intro | refine And.intro rfl ?_)) ?_
  exact fun x dx h' t t' F' N' l1 l2 => ret9 _ _ _ _ _ _ l1 l2 _ _ F' N'
theorem bndc_specu {prog9 : Program} {w9 : World} {p9 : Program} {loose9 : List Str} {mean9 : ExcName → Option Value} {mg9 mb9 : Str → Option Value} {dp9 un9 : Nat} {gd9 : Option (List Code)} {cn9 : Str} {cs9 : Scope} {a9 : Addr} {ccd9 : Value} {cl9 : List (Str × Addr)} {outer9 : List Env} {A₀9 : Around} {base9 h₀9 : Heap} {L9 : Addr} {m9 : Str → Option Value} {hh9 : Heap} {gg9 : Array GenState} {dd9 : Drawn} {tt9 : Nat} {oo9 : OsState} {Q9 E9 : Value → Shared → Prop} {A9 : Around} (v1 : Value) (v2 : Value) (v3 : Value) (v4 : Value) (v5 : Value) {news : Led} (hA9 : A9 = ktrTop dp9 un9 gd9 cn9 cs9 L9 a9 ccd9 cl9 outer9) (B9 : Below A₀9 base9 outer9 h₀9) (F9 : Fr h₀9 L9 hh9 m9) (X9 : (hd.heap_39 w9.params).In h₀9) (N9 : News h₀9 L9 hh9 news) (T9 : Top p9 loose9 mean9 mg9 mb9 h₀9) (hk9 : cs9.kind = .function) (hd9 : dp9 + 1 < recursionLimit)
    (ret9 : ∀ x dx h1 h2 h3 h4 h5 t1 t2 t3 t4 t5, (∀ p ∈ news, p.1 < dx) → @LT.lt Nat _ dx x → ∀ h9 tk9, Fr h₀9 L9 h9 m9 → News h₀9 L9 h9 ((x, instObj 571 dx) :: (dx, dictOf [ent h1 "place" t1 v1, ent h2 "op" t2 v2, ent h3 "value" t3 v3, ent h4 "affinity" t4 v4, ent h5 "collation" t5 v5] 5) :: news) → Q9 (.ref x) ⟨h9, gg9, dd9, tk9, oo9⟩) :
    wpAny (model prog9 w9) A9 (call (.ref 571) [v1, v2, v3, v4, v5]) Q9 E9 ⟨hh9, gg9, dd9, tt9, oo9⟩ := by
  subst hA9
  refine make_rd (s := ⟨hh9, gg9, dd9, tt9, oo9⟩) (self := Str.ofString "self") (by k_is) (by k_is) (by k_is) (by k_is) (by k_is) (by k_is) (by k_is) (by k_is) B9 F9 X9 N9 T9 hk9 hd9 (fun _ => by kernel_rfl) (fun _ => by kernel_rfl) (fun _ => rfl) (fun _ _ => rfl) (fun _ _ => rfl) (by kernel_rfl) (fun _ => by repeat (first | exact True.intro | refine And.intro rfl ?_)) ?_
  exact fun x dx h' t t' F' N' l1 l2 => ret9 _ _ _ _ _ _ _ _ _ _ _ _ l1 l2 _ _ F' N'

theorem rows_names_1 : True := by
  k_with "call ref" => first | ((k_here; (with_reducible show wpAny _ _ (call (Value.ref 116) _) _ _ _); (with_reducible refine name_specu _ _ _ _ (by k_dflt (exact rfl)) (by k_dflt (k_asm)) (by k_dflt (k_asm)) (by k_dflt (k_asm)) (by k_dflt (k_asm)) (by k_dflt (k_asm)) (by k_dflt (first | exact rfl | assumption)) (by k_dflt (k_extra "ktr_room")) ?_); intro x9 dx9 h91 h92 h93 h94 h95 t91 t92 t93 t94 t95 tz9 l91 l92 h9 tk9 F9 N9; (try k_sweep); (try k_fold))) | fail "row"
  k_with "call ref" => first | ((k_here; (with_reducible show wpAny _ _ (call (Value.ref 90) _) _ _ _); (with_reducible refine litc_specu _ (by k_dflt (exact rfl)) (by k_dflt (k_asm)) (by k_dflt (k_asm)) (by k_dflt (k_asm)) (by k_dflt (k_asm)) (by k_dflt (k_asm)) (by k_dflt (first | exact rfl | assumption)) (by k_dflt (k_extra "ktr_room")) ?_); intro x9 dx9 h91 t91 l91 l92 h9 tk9 F9 N9; (try k_sweep); (try k_fold))) | fail "row"
  k_with "call ref" => first | ((k_here; (with_reducible show wpAny _ _ (call (Value.ref 142) _) _ _ _); (with_reducible refine unc_specu _ _ (by k_dflt (exact rfl)) (by k_dflt (k_asm)) (by k_dflt (k_asm)) (by k_dflt (k_asm)) (by k_dflt (k_asm)) (by k_dflt (k_asm)) (by k_dflt (first | exact rfl | assumption)) (by k_dflt (k_extra "ktr_room")) ?_); intro x9 dx9 h91 h92 t91 t92 l91 l92 h9 tk9 F9 N9; (try k_sweep); (try k_fold))) | fail "row"
  k_with "call ref" => first | ((k_here; (with_reducible show wpAny _ _ (call (Value.ref 168) _) _ _ _); (with_reducible refine binc_specu _ _ _ (by k_dflt (exact rfl)) (by k_dflt (k_asm)) (by k_dflt (k_asm)) (by k_dflt (k_asm)) (by k_dflt (k_asm)) (by k_dflt (k_asm)) (by k_dflt (first | exact rfl | assumption)) (by k_dflt (k_extra "ktr_room")) ?_); intro x9 dx9 h91 h92 h93 t91 t92 t93 l91 l92 h9 tk9 F9 N9; (try k_sweep); (try k_fold))) | fail "row"
  k_with "call ref" => first | ((k_here; (with_reducible show wpAny _ _ (call (Value.ref 194) _) _ _ _); (with_reducible refine btwc_specu _ _ _ _ (by k_dflt (exact rfl)) (by k_dflt (k_asm)) (by k_dflt (k_asm)) (by k_dflt (k_asm)) (by k_dflt (k_asm)) (by k_dflt (k_asm)) (by k_dflt (first | exact rfl | assumption)) (by k_dflt (k_extra "ktr_room")) ?_); intro x9 dx9 h91 h92 h93 h94 t91 t92 t93 t94 l91 l92 h9 tk9 F9 N9; (try k_sweep); (try k_fold))) | fail "row"
  k_with "call ref" => first | ((k_here; (with_reducible show wpAny _ _ (call (Value.ref 220) _) _ _ _); (with_reducible refine inlc_specu _ _ _ (by k_dflt (exact rfl)) (by k_dflt (k_asm)) (by k_dflt (k_asm)) (by k_dflt (k_asm)) (by k_dflt (k_asm)) (by k_dflt (k_asm)) (by k_dflt (first | exact rfl | assumption)) (by k_dflt (k_extra "ktr_room")) ?_); intro x9 dx9 h91 h92 h93 t91 t92 t93 l91 l92 h9 tk9 F9 N9; (try k_sweep); (try k_fold))) | fail "row"
  k_with "call ref" => first | ((k_here; (with_reducible show wpAny _ _ (call (Value.ref 374) _) _ _ _); (with_reducible refine castc_specu _ _ (by k_dflt (exact rfl)) (by k_dflt (k_asm)) (by k_dflt (k_asm)) (by k_dflt (k_asm)) (by k_dflt (k_asm)) (by k_dflt (k_asm)) (by k_dflt (first | exact rfl | assumption)) (by k_dflt (k_extra "ktr_room")) ?_); intro x9 dx9 h91 h92 t91 t92 l91 l92 h9 tk9 F9 N9; (try k_sweep); (try k_fold))) | fail "row"
  k_with "call ref" => first | ((k_here; (with_reducible show wpAny _ _ (call (Value.ref 400) _) _ _ _); (with_reducible refine collc_specu _ _ (by k_dflt (exact rfl)) (by k_dflt (k_asm)) (by k_dflt (k_asm)) (by k_dflt (k_asm)) (by k_dflt (k_asm)) (by k_dflt (k_asm)) (by k_dflt (first | exact rfl | assumption)) (by k_dflt (k_extra "ktr_room")) ?_); intro x9 dx9 h91 h92 t91 t92 l91 l92 h9 tk9 F9 N9; (try k_sweep); (try k_fold))) | fail "row"
  k_with "call ref" => first | ((k_here; (with_reducible show wpAny _ _ (call (Value.ref 571) _) _ _ _); (with_reducible refine bndc_specu _ _ _ _ _ (by k_dflt (exact rfl)) (by k_dflt (k_asm)) (by k_dflt (k_asm)) (by k_dflt (k_asm)) (by k_dflt (k_asm)) (by k_dflt (k_asm)) (by k_dflt (first | exact rfl | assumption)) (by k_dflt (k_extra "ktr_room")) ?_); intro x9 dx9 h91 h92 h93 h94 h95 t91 t92 t93 t94 t95 l91 l92 h9 tk9 F9 N9; (try k_sweep); (try k_fold))) | fail "row"
  trivial
section
theorem rows_bound_1 : True := by
  k_with "subscriptTail" => (fail_if_success k_extra "obound"); first | ((k_here; (with_reducible show wpAny _ _ (subscriptTail _ _ (Value.ref _) (Value.int _ _)) _ _ _); k_dflt (refine' item_col (by k_asm) (by k_extra "lcg_off") (by omega) (by omega) (by with_reducible assumption) (by with_reducible assumption) ?_; k_whole); intro m8 ia8 ic8)) | fail "row"
  k_with "subscriptTail Name" => (fail_if_success k_extra "obound"); first | ((k_here; (with_reducible show wpAny _ _ (subscriptTail _ _ (Value.ref _) (Value.int _ _)) _ _ _); k_dflt (refine' item_col (by k_asm) (by k_extra "lcg_off") (by omega) (by omega) (by with_reducible assumption) (by with_reducible assumption) ?_; k_whole); intro m8 ia8 ic8)) | fail "row"
  k_with "subscriptTail Subscript" => (fail_if_success k_extra "obound"); first | ((k_here; (with_reducible show wpAny _ _ (subscriptTail _ _ (Value.ref _) (Value.int _ _)) _ _ _); k_dflt (refine' item_col (by k_asm) (by k_extra "lcg_off") (by omega) (by omega) (by with_reducible assumption) (by with_reducible assumption) ?_; k_whole); intro m8 ia8 ic8)) | fail "row"
  k_with "subscriptTail Attribute" => (fail_if_success k_extra "obound"); first | ((k_here; (with_reducible show wpAny _ _ (subscriptTail _ _ (Value.ref _) (Value.int _ _)) _ _ _); k_dflt (refine' item_col (by k_asm) (by k_extra "lcg_off") (by omega) (by omega) (by with_reducible assumption) (by with_reducible assumption) ?_; k_whole); intro m8 ia8 ic8)) | fail "row"
  trivial
theorem bound_spec (nd one : Addr) (num place : Int) (tp tz : Tok) (col : Nat → Col) (news : Led) (hr : RawName news nd) (hs : SourceAt news one num col) (h1 : -1 ≤ place) (h2 : place < 3) :
    SpecN 6 641 [.ref nd, .ref one, .int place tp, .int 0 tz] news (fun pre v => ∃ x, v = .ref x ∧ NameAt pre x num place (colAff col place) (colColl col place)) := Carry.out (by exact Carry.mk : Carry ((by
  unfold SpecN Spec
  intro prog w p loose mean mg mb dp un gd cn cs a ccd cl outer A₀ base h₀ L m s Q E B F X N T hk hd hu hret
  cases hs with | mk s1 s2 s3 s4 s5 =>
  cases hr with | mk r1 r2 =>
  k_dflt k_extra "ktr_enter"
  k_steps
  all_goals refine finN hret (by k_asm) (by k_asm) (by k_asm) (by k_extra "tb_rel") (by k_extra "tb_start") ?_
  · rename (place < 0) => hlt
    rw [colAff_lt hlt, colColl_lt hlt]
    exact ⟨_, rfl, .mk (by k_extra "lcg_off") (by k_extra "lcg_off")⟩
  · rename (¬ place < 0) => hge
    rw [colAff_ge hge, colColl_ge hge]
    exact ⟨_, rfl, .mk (by k_extra "lcg_off") (by k_extra "lcg_off")⟩
  done
  : SpecN 6 641 [.ref nd, .ref one, .int place tp, .int 0 tz] news (fun pre v => ∃ x, v = .ref x ∧ NameAt pre x num place (colAff col place) (colColl col place))) :))

end

theorem bound_specu {prog9 : Program} {w9 : World} {p9 : Program} {loose9 : List Str} {mean9 : ExcName → Option Value} {mg9 mb9 : Str → Option Value} {dp9 un9 : Nat} {gd9 : Option (List Code)} {cn9 : Str} {cs9 : Scope} {a9 : Addr} {ccd9 : Value} {cl9 : List (Str × Addr)} {outer9 : List Env} {A₀9 : Around} {base9 h₀9 : Heap} {L9 : Addr} {m9 : Str → Option Value} {hh9 : Heap} {gg9 : Array GenState} {dd9 : Drawn} {tt9 : Nat} {oo9 : OsState} {Q9 E9 : Value → Shared → Prop} {A9 : Around} (nd one : Addr) (num place : Int) (tp tz : Tok) (col : Nat → Col) (news : Led) (hA9 : A9 = ktrTop dp9 un9 gd9 cn9 cs9 L9 a9 ccd9 cl9 outer9) (B9 : Below A₀9 base9 outer9 h₀9) (F9 : Fr h₀9 L9 hh9 m9) (X9 : (hd.heap_39 w9.params).In h₀9) (N9 : News h₀9 L9 hh9 news) (T9 : Top p9 loose9 mean9 mg9 mb9 h₀9) (hk9 : cs9.kind = .function) (hr : RawName news nd) (hs : SourceAt news one num col) (h1 : -1 ≤ place) (h2 : place < 3) (hd9 : dp9 + 6 < recursionLimit) (hu9 : un9 + 8 * 6 < cLine)
    (ret9 : ∀ pre, Fresh news pre → ∀ x, (NameAt pre x num place (colAff col place) (colColl col place)) → ∀ h9 tk9, Fr h₀9 L9 h9 m9 → News h₀9 L9 h9 (pre ++ news) → Q9 (.ref x) ⟨h9, gg9, dd9, tk9, oo9⟩) :
    wpAny (model prog9 w9) A9 (call (.ref 641) [.ref nd, .ref one, .int place tp, .int 0 tz]) Q9 E9 ⟨hh9, gg9, dd9, tt9, oo9⟩ := by
  subst hA9
  refine Spec.useN B9 F9 X9 N9 T9 hk9 (bound_spec nd one num place tp tz col news hr hs h1 h2) hd9 hu9 fun v nw8 h8 tk8 F8 N8 P8 => ?_
  obtain ⟨pre, rfl, fr, x, rfl, c1⟩ := P8
  exact ret9 pre fr x c1 h8 tk8 F8 N8
theorem rows_bound_2 : True := by
  k_with "obound" => skip
  k_with "call ref" => first | (k_here; (with_reducible show wpAny _ _ (call (Value.ref 641) _) _ _ _); (with_reducible refine bound_specu _ _ _ _ _ _ _ _ (by k_dflt (exact rfl)) (by k_dflt (k_asm)) (by k_dflt (k_asm)) (by k_dflt (k_asm)) (by k_dflt (k_asm)) (by k_dflt (k_asm)) (by k_dflt (first | exact rfl | assumption)) (by k_dflt (exact RawName.mk (by k_extra "lcg_off") (by k_extra "lcg_off"))) (by k_dflt (exact SourceAt.mono (by with_reducible assumption) (fun p9 hp9 => by k_extra "lcg_off"))) (by k_dflt (omega)) (by k_dflt (omega)) (by k_dflt (k_extra "ktr_room")) (by k_dflt (k_extra "ktr_units")) ?_); intro pre9 fr9 x9 R9 h9 tk9 F9 N9; (try k_sweep); (try k_fold)) | fail "row"
  trivial
section
theorem rows_column_1 : True := by
  k_with "subscriptTail" => (fail_if_success k_extra "ocolumn"); first | ((k_here; (with_reducible show wpAny _ _ (subscriptTail _ _ (Value.ref _) (Value.int _ _)) _ _ _); k_dflt (refine' item_col (by k_asm) (by k_extra "lcg_off") (by omega) (by omega) (by with_reducible assumption) (by with_reducible assumption) ?_; k_whole); intro m8 ia8 ic8)) | fail "row"
  k_with "subscriptTail Name" => (fail_if_success k_extra "ocolumn"); first | ((k_here; (with_reducible show wpAny _ _ (subscriptTail _ _ (Value.ref _) (Value.int _ _)) _ _ _); k_dflt (refine' item_col (by k_asm) (by k_extra "lcg_off") (by omega) (by omega) (by with_reducible assumption) (by with_reducible assumption) ?_; k_whole); intro m8 ia8 ic8)) | fail "row"
  k_with "subscriptTail Subscript" => (fail_if_success k_extra "ocolumn"); first | ((k_here; (with_reducible show wpAny _ _ (subscriptTail _ _ (Value.ref _) (Value.int _ _)) _ _ _); k_dflt (refine' item_col (by k_asm) (by k_extra "lcg_off") (by omega) (by omega) (by with_reducible assumption) (by with_reducible assumption) ?_; k_whole); intro m8 ia8 ic8)) | fail "row"
  k_with "subscriptTail Attribute" => (fail_if_success k_extra "ocolumn"); first | ((k_here; (with_reducible show wpAny _ _ (subscriptTail _ _ (Value.ref _) (Value.int _ _)) _ _ _); k_dflt (refine' item_col (by k_asm) (by k_extra "lcg_off") (by omega) (by omega) (by with_reducible assumption) (by with_reducible assumption) ?_; k_whole); intro m8 ia8 ic8)) | fail "row"
  trivial
theorem column_spec (aS : Addr) (σ : Src) (one : Addr) (num : Int) (col : Nat → Col) (rest : Led) (hs : SourceAt rest one num col) (hne : ∀ p ∈ rest, p.1 ≠ aS) :
    SpecS 8 676 [.ref aS, .ref one] aS σ rest
      (fun pre v => ∃ t x place aff coll tp ta tc, v = .ref t ∧ (t, tupO [.ref x, .int place tp, .str aff ta, .str coll tc]) ∈ pre ∧
        NameAt pre x num place aff coll ∧ -1 ≤ place ∧ place < 3 ∧ IsAff aff ∧ IsColl coll) := Carry.out (by exact Carry.mk : Carry ((by
  unfold SpecS Spec
  intro prog w p loose mean mg mb dp un gd cn cs a ccd cl outer A₀ base h₀ L m s Q E B F X N T hk hd hu hret
  have hs' := hs
  cases hs' with | mk s1 s2 s3 s4 s5 =>
  k_dflt k_extra "ktr_enter"
  k_steps
  all_goals refine finS hret (by k_asm) (by k_asm) (by k_asm) (by k_extra "tb_rel") (by k_extra "tb_start") (by k_extra "tb_start") ?_
  · rename (_ - 1 < (0 : Int)) => hlt
    rename NameAt _ _ _ _ _ _ => hn
    rw [colAff_lt hlt, colColl_lt hlt] at hn
    exact ⟨_, _, _, _, _, _, _, _, rfl, by k_extra "lcg_off", NameAt.mono hn (fun p9 hp9 => by k_extra "lcg_off"), by omega, by omega, .inl rfl, .inl rfl⟩
  · rename (¬ _ - 1 < (0 : Int)) => hge
    rename NameAt _ _ _ _ _ _ => hn
    rw [colAff_ge hge, colColl_ge hge] at hn
    exact ⟨_, _, _, _, _, _, _, _, rfl, by k_extra "lcg_off", NameAt.mono hn (fun p9 hp9 => by k_extra "lcg_off"), by omega, by omega, by with_reducible assumption, by with_reducible assumption⟩
  done
  : SpecS 8 676 [.ref aS, .ref one] aS σ rest (fun pre v => ∃ t x place aff coll tp ta tc, v = .ref t ∧ (t, tupO [.ref x, .int place tp, .str aff ta, .str coll tc]) ∈ pre ∧ NameAt pre x num place aff coll ∧ -1 ≤ place ∧ place < 3 ∧ IsAff aff ∧ IsColl coll)) :))

end

theorem column_specu {prog9 : Program} {w9 : World} {p9 : Program} {loose9 : List Str} {mean9 : ExcName → Option Value} {mg9 mb9 : Str → Option Value} {dp9 un9 : Nat} {gd9 : Option (List Code)} {cn9 : Str} {cs9 : Scope} {a9 : Addr} {ccd9 : Value} {cl9 : List (Str × Addr)} {outer9 : List Env} {A₀9 : Around} {base9 h₀9 : Heap} {L9 : Addr} {m9 : Str → Option Value} {hh9 : Heap} {gg9 : Array GenState} {dd9 : Drawn} {tt9 : Nat} {oo9 : OsState} {Q9 E9 : Value → Shared → Prop} {A9 : Around} {cur9 : Led} (aS : Addr) (σ : Src) (one : Addr) (num : Int) (col : Nat → Col) (rest : Led) (hA9 : A9 = ktrTop dp9 un9 gd9 cn9 cs9 L9 a9 ccd9 cl9 outer9) (B9 : Below A₀9 base9 outer9 h₀9) (F9 : Fr h₀9 L9 hh9 m9) (X9 : (hd.heap_39 w9.params).In h₀9) (N9 : News h₀9 L9 hh9 cur9) (K9 : Pick aS (srcO σ) cur9 (rest)) (T9 : Top p9 loose9 mean9 mg9 mb9 h₀9) (hk9 : cs9.kind = .function) (hs : SourceAt rest one num col) (hne : ∀ p ∈ rest, p.1 ≠ aS) (hd9 : dp9 + 8 < recursionLimit) (hu9 : un9 + 8 * 8 < cLine)
    (ret9 : ∀ σ', ∀ pre, FreshA aS pre → Fresh rest pre → ∀ t x place aff coll tp ta tc, ((t, tupO [.ref x, .int place tp, .str aff ta, .str coll tc]) ∈ pre) → (NameAt pre x num place aff coll) → (-1 ≤ place) → (place < 3) → (IsAff aff) → (IsColl coll) → ∀ h9 tk9, Fr h₀9 L9 h9 m9 → News h₀9 L9 h9 ((aS, srcO σ') :: (pre ++ rest)) → Q9 (.ref t) ⟨h9, gg9, dd9, tk9, oo9⟩) :
    wpAny (model prog9 w9) A9 (call (.ref 676) [.ref aS, .ref one]) Q9 E9 ⟨hh9, gg9, dd9, tt9, oo9⟩ := by
  subst hA9
  refine Spec.useP B9 F9 X9 N9 K9 T9 hk9 (column_spec aS σ one num col rest hs hne) hd9 hu9 fun v nw8 h8 tk8 F8 N8 P8 => ?_
  obtain ⟨σ', pre, rfl, fa, fr, t, x, place, aff, coll, tp, ta, tc, rfl, c1, c2, c3, c4, c5, c6⟩ := P8
  exact ret9 σ' pre fa fr t x place aff coll tp ta tc c1 c2 c3 c4 c5 c6 h8 tk8 F8 N8
theorem rows_column_2 : True := by
  k_with "ocolumn" => skip
  k_with "call ref" => first | (k_here; (with_reducible show wpAny _ _ (call (Value.ref 676) _) _ _ _); (with_reducible refine column_specu _ _ _ _ _ _ (by k_dflt (exact rfl)) (by k_dflt (k_asm)) (by k_dflt (k_asm)) (by k_dflt (k_asm)) (by k_dflt (k_asm)) (by k_dflt (repeat (first | exact Pick.head | apply Pick.tail | apply Pick.app))) (by k_dflt (k_asm)) (by k_dflt (first | exact rfl | assumption)) (by k_dflt (first | with_reducible assumption | exact SourceAt.mono (by with_reducible assumption) (fun p9 hp9 => by k_extra "lcg_off"))) (by k_dflt (k_extra "ktu_offL")) (by k_dflt (k_extra "ktr_room")) (by k_dflt (k_extra "ktr_units")) ?_); intro σ9 pre9 fa9 fr9 t9 x9 place9 aff9 coll9 tp9 ta9 tc9 m9 R9 lo9 hi9 ia9 ic9 h9 tk9 F9 N9; (try k_sweep); (try k_fold)) | fail "row"
  trivial
section
theorem rows_cmpaff_1 : True := by
  k_with "compareOp In str ref" => (fail_if_success k_extra "ocmpaff"); first | ((k_here; (with_reducible show wpAny _ _ (compareOp CmpOp.In (Value.str _ _) (Value.ref _)) _ _ _); k_dflt (refine' in_num (by first | exact News.isTup (by k_asm) (by k_extra "lcg_off") | exact tupK (Frag.In.keeps (by k_asm) (Fr.keep (by k_asm))) (by k_is)) (by kde_strs) (by assumption) ?_; k_whole))) | fail "row"
  k_with "compareOp NotIn str ref" => (fail_if_success k_extra "ocmpaff"); first | ((k_here; (with_reducible show wpAny _ _ (compareOp CmpOp.NotIn (Value.str _ _) (Value.ref _)) _ _ _); k_dflt (refine' notin_num (by first | exact News.isTup (by k_asm) (by k_extra "lcg_off") | exact tupK (Frag.In.keeps (by k_asm) (Fr.keep (by k_asm))) (by k_is)) (by kde_strs) (by assumption) ?_; k_whole))) | fail "row"
  k_with "compareOp Eq str str" => (fail_if_success k_extra "ocmpaff"); first | ((k_here; (with_reducible show wpAny _ _ (compareOp CmpOp.Eq (Value.str _ _) (Value.str _ _)) _ _ _); k_dflt (refine' eq_text (by with_reducible assumption) ?_; k_whole))) | fail "row"
  k_with "compareOp In none ref" => (fail_if_success k_extra "ocmpaff"); first | ((k_here; k_dflt (refine' in_none (by first | exact News.isTup (by k_asm) (by k_extra "lcg_off") | exact tupK (Frag.In.keeps (by k_asm) (Fr.keep (by k_asm))) (by k_is)) (by kde_strs) (by k_extra "ktr_units") ?_; k_whole))) | fail "row"
  k_with "compareOp NotIn none ref" => (fail_if_success k_extra "ocmpaff"); first | ((k_here; k_dflt (refine' notin_none (by first | exact News.isTup (by k_asm) (by k_extra "lcg_off") | exact tupK (Frag.In.keeps (by k_asm) (Fr.keep (by k_asm))) (by k_is)) (by kde_strs) (by k_extra "ktr_units") ?_; k_whole))) | fail "row"
  trivial
theorem cmpaff_spec (l : Str) (tl : Tok) (r : Option Str) (tr : Tok) (news : Led) :
    SpecN 3 476 [.str l tl, ov r tr] news (fun pre v => ∃ t kt lt, v = .ref t ∧ (t, tupO [ov (cmpAff l r).1 kt, ov (cmpAff l r).2 lt]) ∈ pre) := Carry.out (by exact Carry.mk : Carry ((by
  unfold SpecN Spec
  intro prog w p loose mean mg mb dp un gd cn cs a ccd cl outer A₀ base h₀ L m s Q E B F X N T hk hd hu hret
  cases r with
  | none =>
    cases hb : isNum l with
    | true =>
      simp only [cmpAff, hb, ov, if_true] at hret ⊢
      k_dflt k_extra "ktr_enter"
      k_steps
      all_goals (refine finN hret (by k_asm) (by k_asm) (by k_asm) (by k_extra "tb_rel") (by k_extra "tb_start") ?_; exact ⟨_, 0, _, rfl, by k_extra "lcg_off"⟩)
    | false =>
      cases hc : isText l with
      | true =>
        simp only [cmpAff, hb, hc, ov, if_true, Bool.false_eq_true, if_false] at hret ⊢
        k_dflt k_extra "ktr_enter"
        k_steps
        all_goals (refine finN hret (by k_asm) (by k_asm) (by k_asm) (by k_extra "tb_rel") (by k_extra "tb_start") ?_; exact ⟨_, 0, _, rfl, by k_extra "lcg_off"⟩)
      | false =>
        simp only [cmpAff, hb, hc, ov, if_true, Bool.false_eq_true, if_false] at hret ⊢
        k_dflt k_extra "ktr_enter"
        k_steps
        all_goals (refine finN hret (by k_asm) (by k_asm) (by k_asm) (by k_extra "tb_rel") (by k_extra "tb_start") ?_; exact ⟨_, 0, 0, rfl, by k_extra "lcg_off"⟩)
  | some r =>
    cases hb : isNum l with
    | true =>
      cases hc : isNum r with
      | true =>
        simp only [cmpAff, hb, hc, ov, if_true, Bool.false_eq_true, if_false] at hret ⊢
        k_dflt k_extra "ktr_enter"
        k_steps
        all_goals (refine finN hret (by k_asm) (by k_asm) (by k_asm) (by k_extra "tb_rel") (by k_extra "tb_start") ?_; exact ⟨_, 0, 0, rfl, by k_extra "lcg_off"⟩)
      | false =>
        simp only [cmpAff, hb, hc, ov, if_true, Bool.false_eq_true, if_false] at hret ⊢
        k_dflt k_extra "ktr_enter"
        k_steps
        all_goals (refine finN hret (by k_asm) (by k_asm) (by k_asm) (by k_extra "tb_rel") (by k_extra "tb_start") ?_; exact ⟨_, 0, _, rfl, by k_extra "lcg_off"⟩)
    | false =>
      cases hc : isNum r with
      | true =>
        simp only [cmpAff, hb, hc, ov, if_true, Bool.false_eq_true, if_false] at hret ⊢
        k_dflt k_extra "ktr_enter"
        k_steps
        all_goals (refine finN hret (by k_asm) (by k_asm) (by k_asm) (by k_extra "tb_rel") (by k_extra "tb_start") ?_; exact ⟨_, _, 0, rfl, by k_extra "lcg_off"⟩)
      | false =>
        simp only [cmpAff, hb, hc, ov, if_true, Bool.false_eq_true, if_false] at hret ⊢
        k_dflt k_extra "ktr_enter"
        k_steps
        all_goals (refine finN hret (by k_asm) (by k_asm) (by k_asm) (by k_extra "tb_rel") (by k_extra "tb_start") ?_; exact ⟨_, 0, 0, rfl, by k_extra "lcg_off"⟩)
  done
  : SpecN 3 476 [.str l tl, ov r tr] news (fun pre v => ∃ t kt lt, v = .ref t ∧ (t, tupO [ov (cmpAff l r).1 kt, ov (cmpAff l r).2 lt]) ∈ pre)) :))

theorem cmpaff_spec' (l : Str) (tl : Tok) (r : Option Str) (tr : Tok) (kk : Option Str) (news : Led) (hk : (cmpAff l r).1 = kk) :
    SpecN 3 476 [.str l tl, ov r tr] news (fun pre v => ∃ t kt lt, v = .ref t ∧ (t, tupO [ov kk kt, ov (cmpAff l r).2 lt]) ∈ pre) := hk ▸ cmpaff_spec l tl r tr news
end

theorem cmpaff_spec'u {prog9 : Program} {w9 : World} {p9 : Program} {loose9 : List Str} {mean9 : ExcName → Option Value} {mg9 mb9 : Str → Option Value} {dp9 un9 : Nat} {gd9 : Option (List Code)} {cn9 : Str} {cs9 : Scope} {a9 : Addr} {ccd9 : Value} {cl9 : List (Str × Addr)} {outer9 : List Env} {A₀9 : Around} {base9 h₀9 : Heap} {L9 : Addr} {m9 : Str → Option Value} {hh9 : Heap} {gg9 : Array GenState} {dd9 : Drawn} {tt9 : Nat} {oo9 : OsState} {Q9 E9 : Value → Shared → Prop} {A9 : Around} (l : Str) (tl : Tok) (r : Option Str) (tr : Tok) (kk : Option Str) (news : Led) (hA9 : A9 = ktrTop dp9 un9 gd9 cn9 cs9 L9 a9 ccd9 cl9 outer9) (B9 : Below A₀9 base9 outer9 h₀9) (F9 : Fr h₀9 L9 hh9 m9) (X9 : (hd.heap_39 w9.params).In h₀9) (N9 : News h₀9 L9 hh9 news) (T9 : Top p9 loose9 mean9 mg9 mb9 h₀9) (hk9 : cs9.kind = .function) (hk : (cmpAff l r).1 = kk) (hd9 : dp9 + 3 < recursionLimit) (hu9 : un9 + 8 * 3 < cLine)
    (ret9 : ∀ pre, Fresh news pre → ∀ t kt lt, ((t, tupO [ov kk kt, ov (cmpAff l r).2 lt]) ∈ pre) → ∀ h9 tk9, Fr h₀9 L9 h9 m9 → News h₀9 L9 h9 (pre ++ news) → Q9 (.ref t) ⟨h9, gg9, dd9, tk9, oo9⟩) :
    wpAny (model prog9 w9) A9 (call (.ref 476) [.str l tl, ov r tr]) Q9 E9 ⟨hh9, gg9, dd9, tt9, oo9⟩ := by
  subst hA9
  refine Spec.useN B9 F9 X9 N9 T9 hk9 (cmpaff_spec' l tl r tr kk news hk) hd9 hu9 fun v nw8 h8 tk8 F8 N8 P8 => ?_
  obtain ⟨pre, rfl, fr, t, kt, lt, rfl, c1⟩ := P8
  exact ret9 pre fr t kt lt c1 h8 tk8 F8 N8
theorem rows_cmpaff_2 : True := by
  k_with "ocmpaff" => skip
  k_with "call ref" => first | (k_here; (with_reducible show wpAny _ _ (call (Value.ref 476) _) _ _ _); (with_reducible refine cmpaff_spec'u _ _ _ _ _ _ (by k_dflt (exact rfl)) (by k_dflt (k_asm)) (by k_dflt (k_asm)) (by k_dflt (k_asm)) (by k_dflt (k_asm)) (by k_dflt (k_asm)) (by k_dflt (first | exact rfl | assumption)) (by k_dflt (first | with_reducible assumption | exact rfl)) (by k_dflt (k_extra "ktr_room")) (by k_dflt (k_extra "ktr_units")) ?_); intro pre9 fr9 tt9 kt9 lt9 m9 h9 tk9 F9 N9; (try dsimp only [ov_none, ov_some] at m9); (try k_sweep); (try k_fold)) | fail "row"
  trivial
def upc (c : Nat) : Nat := if 65 ≤ c ∧ c ≤ 90 then c + 32 else c
def upS (x : Str) : List Nat := x.cps.toList.map upc
/-- a list's items are signs -/
inductive Signs : List Value → List Nat → Prop
  | nil : Signs [] []
  | snoc {vs : List Value} {cs : List Nat} {c : Nat} {t : Tok} : Signs vs cs → Signs (vs ++ [.str ⟨#[c]⟩ t]) (cs ++ [c])
theorem Signs.vals {vs : List Value} {cs : List Nat} (h : Signs vs cs) : ∃ l : List (Str × Tok), vs = strValues l ∧ l.map (·.1) = cs.map fun c => (⟨#[c]⟩ : Str) := by
  induction h with
  | nil => exact ⟨[], rfl, rfl⟩
  | @snoc vs cs c t _ ih =>
    obtain ⟨l, rfl, e⟩ := ih
    exact ⟨l ++ [(⟨#[c]⟩, t)], by simp [strValues], by simp [e]⟩
section
open PySem.Calls
variable {prog : Program} {w : World} {A : Around} {E : Value → Shared → Prop} {s : Shared} {c : Nat} {t u : Tok} {Q : Value → Shared → Prop}
theorem le_lo (h : Q (.bool (decide (65 ≤ c))) s) : wpAny (model prog w) A (compareOp .LtE (.str (Str.ofString "A") t) (.str ⟨#[c]⟩ u)) Q E s := by
  refine P.le_str ?_
  have e : (Str.ofString "A").cps.toList = [65] := by decide +kernel
  rw [e]
  have q : (!decide ((⟨#[c]⟩ : Str).cps.toList < [65])) = decide (65 ≤ c) := by
    show (!decide ([c] < [65])) = _
    have : decide ([c] < [65]) = decide (c < 65) := by simp [List.cons_lt_cons_iff]
    rw [this]
    by_cases q : c < 65 <;> simp [q] <;> omega
  rw [q]
  exact h
theorem le_hi (h : Q (.bool (decide (c ≤ 90))) s) : wpAny (model prog w) A (compareOp .LtE (.str ⟨#[c]⟩ t) (.str (Str.ofString "Z") u)) Q E s := by
  refine P.le_str ?_
  have e : (Str.ofString "Z").cps.toList = [90] := by decide +kernel
  rw [e]
  have q : (!decide ([90] < (⟨#[c]⟩ : Str).cps.toList)) = decide (c ≤ 90) := by
    show (!decide ([90] < [c])) = _
    have : decide ([90] < [c]) = decide (90 < c) := by simp [List.cons_lt_cons_iff]
    rw [this]
    by_cases q : 90 < c <;> simp [q] <;> omega
  rw [q]
  exact h
theorem join_ones (cs : List Nat) : Txt.join (Str.ofString "") (cs.map fun c => (⟨#[c]⟩ : Str)) = ⟨cs.toArray⟩ := by
  have h : ∀ (l : List Str), Txt.join (Str.ofString "") l = Str.join (Str.ofString "") l := fun l => by simpa using join_plain_closes (Str.ofString "") l
  rw [h]
  have e0 : Str.ofString "" = (⟨#[]⟩ : Str) := by decide +kernel
  rw [e0]
  induction cs with
  | nil => rfl
  | cons c cs ih =>
    cases cs with
    | nil => rfl
    | cons d cs =>
      have e : Str.join (⟨#[]⟩ : Str) ((c :: d :: cs).map fun c => (⟨#[c]⟩ : Str)) = (⟨#[c]⟩ : Str) ++ (⟨#[]⟩ : Str) ++ Str.join (⟨#[]⟩ : Str) ((d :: cs).map fun c => (⟨#[c]⟩ : Str)) := rfl
      rw [e, ih]
      show (⟨(#[c] ++ #[]) ++ (d :: cs).toArray⟩ : Str) = _
      simp
theorem append_sym {h₀ : Heap} {L D : Addr} {m : Str → Option Value} {news news' : Led} {vs : List Value} {n : Nat} {x : Value} (F : Fr h₀ L s.heap m) (N : News h₀ L s.heap news) (hsz : vs.length ≤ 64) (U : Upd D (W.listOf vs.toArray n) (W.listOf (vs ++ [x]).toArray (n + 1)) news news')
    (h : ∀ h', Fr h₀ L h' m → News h₀ L h' news' → Q .none { s with heap := h' }) : wpAny (model prog w) A (call (.builtin "list.append") [.ref D, x]) Q E s :=
  append_K F N (by rw [List.push_toArray]; exact U) h (by rw [List.size_toArray, sizeLine_eq]; omega)
theorem Signs.len {vs : List Value} {cs : List Nat} (h : Signs vs cs) : vs.length = cs.length := by
  induction h with
  | nil => rfl
  | snoc _ ih => simp [ih]
theorem join_signs {h₀ : Heap} {L D : Addr} {news : Led} {vs : List Value} {cs : List Nat} {n : Nat} (N : News h₀ L s.heap news) (hm : (D, W.listOf vs.toArray n) ∈ news) (hS : Signs vs cs) (hl : cs.length ≤ 64)
    (hq : ∀ t' k, Q (.str ⟨cs.toArray⟩ t') { s with toks := k }) : wpAny (model prog w) A (call (.builtin "str.join") [.str (Str.ofString "") t, .ref D]) Q E s := by
  obtain ⟨l, rfl, e⟩ := hS.vals
  refine SC.join (News.isL N hm) e ?_ fun t' k => ?_
  · have key : ∀ (cs : List Nat) (k : Nat), (cs.map fun c => (⟨#[c]⟩ : Str)).foldl (fun a p => a + p.length + (Str.ofString "").length) k = k + cs.length := by
      intro cs
      induction cs with
      | nil => intro k; rfl
      | cons c cs ih => intro k; rw [List.map_cons, List.foldl_cons, ih, List.length_cons]; show k + 1 + 0 + _ = _; omega
    show (!Builtin.Str.tooLong (((cs.map fun c => (⟨#[c]⟩ : Str)).toArray.foldl (fun a p => a + p.length + (Str.ofString "").length) 0))) = true
    rw [List.foldl_toArray, key]
    unfold Builtin.Str.tooLong
    rw [sizeLine_eq]
    simp
    omega
  · rw [join_ones]
    exact hq t' k
theorem signs_snoc {vs : List Value} {done : List Nat} {c d : Nat} {t : Tok} (h : Signs vs (done.map upc)) (e : d = upc c) : Signs (vs ++ [.str ⟨#[d]⟩ t]) ((done ++ [c]).map upc) := by
  subst e
  rw [List.map_append]
  exact .snoc h
theorem upc_in {c : Nat} (a : 65 ≤ c) (b : c ≤ 90) : ((c : Int) + 32).toNat = upc c := by
  rw [upc, if_pos ⟨a, b⟩]; omega
theorem upc_lo {c : Nat} (a : ¬ 65 ≤ c) : c = upc c := by rw [upc, if_neg fun h => a h.1]
theorem upc_hi {c : Nat} (a : ¬ c ≤ 90) : c = upc c := by rw [upc, if_neg fun h => a h.2]
end
section
theorem rows_foldascii_1 : True := by
  k_with "exec For Name Name cons nil" => (fail_if_success k_extra "ofoldascii"); first | ((k_here; (rename Fr _ _ _ _ => lF'); (with_unfolding_all refine' For_turns lF' ?_; k_whole))) | fail "row"
  k_with "exec For Name Tuple cons nil" => (fail_if_success k_extra "ofoldascii"); first | ((k_here; (rename Fr _ _ _ _ => lF'); (with_unfolding_all refine' For_turns lF' ?_; k_whole))) | fail "row"
  k_with "exec For Tuple Tuple cons nil" => (fail_if_success k_extra "ofoldascii"); first | ((k_here; (rename Fr _ _ _ _ => lF'); (with_unfolding_all refine' For_turns lF' ?_; k_whole))) | fail "row"
  k_with "exec For Name Call cons nil" => (fail_if_success k_extra "ofoldascii"); first | ((k_here; (rename Fr _ _ _ _ => lF'); (with_unfolding_all refine' For_turns lF' ?_; k_whole))) | fail "row"
  k_with "exec For Name Attribute cons nil" => (fail_if_success k_extra "ofoldascii"); first | ((k_here; (rename Fr _ _ _ _ => lF'); (with_unfolding_all refine' For_turns lF' ?_; k_whole))) | fail "row"
  k_with "pyIter str" => (fail_if_success k_extra "ofoldascii"); first | ((k_here; k_dflt (refine iter_signs (by rfl) (by decide +kernel) (by k_asm) (by k_asm) ?_); intro i' l1; (try k_lt l1))) | fail "row"
  k_with "pyIter ref" => (fail_if_success k_extra "ofoldascii"); first | ((k_here; (with_reducible show wpAny _ _ (pyIter (Value.ref _)) (fun it s₂ => TurnsAt _ _ _ _ _ _ _ _ _ it s₂) _ _); first | ((with_unfolding_all refine' iter_listTurns (by rfl) (by k_asm) (by k_asm) (by k_extra "lcg_off") (by rfl) (by rfl) ?_); intro i' l1; (try k_lt l1)) | ((with_unfolding_all refine' iter_tupTurns (by rfl) (by k_asm) (by k_asm) (by k_extra "lcg_off") (by rfl) (by rfl) ?_); intro i' l1; (try k_lt l1)))) | fail "row"
  k_with "compareOp LtE str str" => (fail_if_success k_extra "ofoldascii"); first | ((k_here; first | (with_reducible show wpAny _ _ (compareOp CmpOp.LtE (Value.str (Str.ofString "A") _) (Value.str ⟨#[_]⟩ _)) _ _ _; k_dflt (refine' le_lo ?_; k_whole)) | (with_reducible show wpAny _ _ (compareOp CmpOp.LtE (Value.str ⟨#[_]⟩ _) (Value.str (Str.ofString "Z") _)) _ _ _; k_dflt (refine' le_hi ?_; k_whole)))) | fail "row"
  k_with "pyIter str" => (fail_if_success k_extra "ofoldascii"); first | ((k_here; k_dflt (refine iter_signs (by rfl) (by with_reducible assumption) (by k_asm) (by k_asm) ?_); intro i' l1; (try k_lt l1))) | fail "row"
  k_with "call builtin:list.append" => (fail_if_success k_extra "ofoldascii"); first | ((k_here; (with_reducible show wpAny _ _ (call (Value.builtin _) [Value.ref _, _]) _ _ _); k_dflt (refine append_sym (by k_asm) (by k_asm) (by with_reducible assumption) (by k_extra "k_upd") ?_); intro h' F' N'; (try k_sweep))) | fail "row"
  k_with "UnrEndW" => (fail_if_success k_extra "ofoldascii"); first | ((k_here; k_dflt (refine unr_s (by k_asm) (by k_asm) (by k_extra "ktu_off1L") (by k_extra "ktu_offL") ⟨_, _, _, done ++ [c], rfl, signs_snoc hS (by first | exact upc_in (by with_reducible assumption) (by with_reducible assumption) | exact upc_lo (by with_reducible assumption) | exact upc_hi (by with_reducible assumption)), by rw [List.append_assoc]; exact hd, by assumption, off, hne⟩))) | fail "row"
  k_with "eval Name" => (fail_if_success k_extra "ofoldascii"); first | ((k_here; k_dflt (refine nameX_L (by k_asm) (by first | exact rfl | assumption) ?_))) | fail "row"
  k_with "call builtin:str.join" => (fail_if_success k_extra "ofoldascii"); first | ((k_here; k_dflt (refine join_signs (by k_asm) (by k_extra "lcg_off") (by with_reducible assumption) (by with_reducible assumption) ?_); intro t9 k9)) | fail "row"
  trivial
theorem foldascii_gen (x : Str) (tt : Tok) (news : Led) (h1 : x.cps.all (· < 128) = true) (h2 : x.cps.size ≤ 64) : SpecP 4 462 [.str x tt] news (fun v => ∃ t, v = .str ⟨(upS x).toArray⟩ t) := Carry.out (by exact Carry.mk : Carry ((by
  unfold SpecP Spec
  intro prog w p loose mean mg mb dp un gd cn cs a ccd cl outer A₀ base h₀ L m s Q E B F X N T hk hd hu hret
  (k_dflt k_extra "ktr_enter"; k_steps)
  refine items_inv (α := Nat) (keep := []) (fun c => Itm.tok fun u => .str ⟨#[c]⟩ u) (fun c v => ∃ u, v = .str ⟨#[c]⟩ u) (fun _ _ _ e => e) (fun ps m' n' => ∃ D vs k done, n' = (D, W.listOf vs.toArray k) :: news ∧ Signs vs (done.map upc) ∧ done ++ ps = x.cps.toList ∧ m' (Str.ofString "signs") = some (.ref D) ∧ (∀ p ∈ news, p.1 ≠ D) ∧ D ≠ i') (fun _ _ _ _ => trivial) ?_ ?_ _ _ _ ?_
  · rintro c ps m9 n9 h9 tk9 o9 v9 ⟨D, vs, k, done, rfl, hS, hd, hm, off, hne⟩ ⟨u9, rfl⟩ hcl F9 N9
    have hne' := Ne.symm hne
    have hv : vs.length ≤ 64 := by
      have a := hS.len
      have b := congrArg List.length hd
      rw [List.length_map] at a
      rw [List.length_append, List.length_cons] at b
      have c : x.cps.toList.length = x.cps.size := Array.length_toList
      omega
    k_steps
  · rintro m9 n9 h9 tk9 ⟨D, vs, k, done, rfl, hS, hd, hm, off, hne⟩ F9 N9
    rw [List.append_nil] at hd
    rw [hd] at hS
    have hv : (x.cps.toList.map upc).length ≤ 64 := by rw [List.length_map, Array.length_toList]; exact h2
    k_steps
    all_goals (refine finP hret (by k_asm) (by k_asm) (by k_asm) (by k_extra "tb_rel") ?_; exact ⟨_, rfl⟩)
  · exact ⟨_, [], _, [], rfl, .nil, rfl, rfl, (by k_extra "ktu_offL"), (by k_extra "ne")⟩
  done
  : SpecP 4 462 [.str x tt] news (fun v => ∃ t, v = .str ⟨(upS x).toArray⟩ t)) :))

end
def IsFolded (x y : Str) : Prop := (x = Str.ofString "BIGINT" ∧ y = Str.ofString "bigint") ∨ (x = Str.ofString "Char(9)" ∧ y = Str.ofString "char(9)") ∨ (x = Str.ofString "BLOB" ∧ y = Str.ofString "blob") ∨ (x = Str.ofString "DATE" ∧ y = Str.ofString "date")
theorem foldascii_spec (x y : Str) (tt : Tok) (news : Led) (h : IsFolded x y) : SpecP 4 462 [.str x tt] news (fun v => ∃ t, v = .str y t) := by
  have e : (⟨(upS x).toArray⟩ : Str) = y ∧ x.cps.all (· < 128) = true ∧ x.cps.size ≤ 64 := by
    rcases h with ⟨rfl, rfl⟩ | ⟨rfl, rfl⟩ | ⟨rfl, rfl⟩ | ⟨rfl, rfl⟩ <;> decide +kernel
  rw [← e.1]
  exact foldascii_gen x tt news e.2.1 e.2.2

theorem foldascii_specu {prog9 : Program} {w9 : World} {p9 : Program} {loose9 : List Str} {mean9 : ExcName → Option Value} {mg9 mb9 : Str → Option Value} {dp9 un9 : Nat} {gd9 : Option (List Code)} {cn9 : Str} {cs9 : Scope} {a9 : Addr} {ccd9 : Value} {cl9 : List (Str × Addr)} {outer9 : List Env} {A₀9 : Around} {base9 h₀9 : Heap} {L9 : Addr} {m9 : Str → Option Value} {hh9 : Heap} {gg9 : Array GenState} {dd9 : Drawn} {tt9 : Nat} {oo9 : OsState} {Q9 E9 : Value → Shared → Prop} {A9 : Around} (x y : Str) (tt : Tok) (news : Led) (hA9 : A9 = ktrTop dp9 un9 gd9 cn9 cs9 L9 a9 ccd9 cl9 outer9) (B9 : Below A₀9 base9 outer9 h₀9) (F9 : Fr h₀9 L9 hh9 m9) (X9 : (hd.heap_39 w9.params).In h₀9) (N9 : News h₀9 L9 hh9 news) (T9 : Top p9 loose9 mean9 mg9 mb9 h₀9) (hk9 : cs9.kind = .function) (h : IsFolded x y) (hd9 : dp9 + 4 < recursionLimit) (hu9 : un9 + 8 * 4 < cLine)
    (ret9 : ∀ t, ∀ h9 tk9, Fr h₀9 L9 h9 m9 → News h₀9 L9 h9 (news) → Q9 (.str y t) ⟨h9, gg9, dd9, tk9, oo9⟩) :
    wpAny (model prog9 w9) A9 (call (.ref 462) [.str x tt]) Q9 E9 ⟨hh9, gg9, dd9, tt9, oo9⟩ := by
  subst hA9
  refine Spec.useN B9 F9 X9 N9 T9 hk9 (foldascii_spec x y tt news h) hd9 hu9 fun v nw8 h8 tk8 F8 N8 P8 => ?_
  obtain ⟨rfl, t, rfl⟩ := P8
  exact ret9 t h8 tk8 F8 N8
theorem rows_foldascii_2 : True := by
  k_with "ofoldascii" => skip
  k_with "call ref" => first | (k_here; (with_reducible show wpAny _ _ (call (Value.ref 462) _) _ _ _); (with_reducible refine foldascii_specu _ (Str.ofString "bigint") _ _ (by k_dflt (exact rfl)) (by k_dflt (k_asm)) (by k_dflt (k_asm)) (by k_dflt (k_asm)) (by k_dflt (k_asm)) (by k_dflt (k_asm)) (by k_dflt (first | exact rfl | assumption)) (by k_dflt (exact Or.inl ⟨rfl, rfl⟩)) (by k_dflt (k_extra "ktr_room")) (by k_dflt (k_extra "ktr_units")) ?_); intro t9 h9 tk9 F9 N9; (try k_sweep); (try k_fold)) | fail "row"
  k_with "call ref" => first | (k_here; (with_reducible show wpAny _ _ (call (Value.ref 462) _) _ _ _); (with_reducible refine foldascii_specu _ (Str.ofString "char(9)") _ _ (by k_dflt (exact rfl)) (by k_dflt (k_asm)) (by k_dflt (k_asm)) (by k_dflt (k_asm)) (by k_dflt (k_asm)) (by k_dflt (k_asm)) (by k_dflt (first | exact rfl | assumption)) (by k_dflt (exact Or.inr (Or.inl ⟨rfl, rfl⟩))) (by k_dflt (k_extra "ktr_room")) (by k_dflt (k_extra "ktr_units")) ?_); intro t9 h9 tk9 F9 N9; (try k_sweep); (try k_fold)) | fail "row"
  k_with "call ref" => first | (k_here; (with_reducible show wpAny _ _ (call (Value.ref 462) _) _ _ _); (with_reducible refine foldascii_specu _ (Str.ofString "blob") _ _ (by k_dflt (exact rfl)) (by k_dflt (k_asm)) (by k_dflt (k_asm)) (by k_dflt (k_asm)) (by k_dflt (k_asm)) (by k_dflt (k_asm)) (by k_dflt (first | exact rfl | assumption)) (by k_dflt (exact Or.inr (Or.inr (Or.inl ⟨rfl, rfl⟩)))) (by k_dflt (k_extra "ktr_room")) (by k_dflt (k_extra "ktr_units")) ?_); intro t9 h9 tk9 F9 N9; (try k_sweep); (try k_fold)) | fail "row"
  k_with "call ref" => first | (k_here; (with_reducible show wpAny _ _ (call (Value.ref 462) _) _ _ _); (with_reducible refine foldascii_specu _ (Str.ofString "date") _ _ (by k_dflt (exact rfl)) (by k_dflt (k_asm)) (by k_dflt (k_asm)) (by k_dflt (k_asm)) (by k_dflt (k_asm)) (by k_dflt (k_asm)) (by k_dflt (first | exact rfl | assumption)) (by k_dflt (exact Or.inr (Or.inr (Or.inr ⟨rfl, rfl⟩)))) (by k_dflt (k_extra "ktr_room")) (by k_dflt (k_extra "ktr_units")) ?_); intro t9 h9 tk9 F9 N9; (try k_sweep); (try k_fold)) | fail "row"
  trivial
section
theorem signs_take {ys : List Value} {cs : List Nat} {i c d : Nat} {t : Tok} (h : Signs ys ((cs.take i).map upc)) (hc : cs[i]? = some c) (e : d = upc c) : Signs (ys ++ [.str ⟨#[d]⟩ t]) ((cs.take (i + 1)).map upc) := by
  rw [List.take_succ, hc]
  exact signs_snoc h e
theorem rows_fold_1 : True := by
  k_with "compareOp LtE str str" => (fail_if_success k_extra "ofold"); first | ((k_here; first | (with_reducible show wpAny _ _ (compareOp CmpOp.LtE (Value.str (Str.ofString "A") _) (Value.str ⟨#[_]⟩ _)) _ _ _; k_dflt (refine' le_lo ?_; k_whole)) | (with_reducible show wpAny _ _ (compareOp CmpOp.LtE (Value.str ⟨#[_]⟩ _) (Value.str (Str.ofString "Z") _)) _ _ _; k_dflt (refine' le_hi ?_; k_whole)))) | fail "row"
  k_with "call builtin:str.join" => (fail_if_success k_extra "ofold"); first | ((k_here; k_dflt (refine join_signs (by k_asm) (by k_extra "lcg_off") (by with_reducible assumption) (by with_reducible assumption) ?_); intro t9 k9)) | fail "row"
  k_with "eval ListComp" => (fail_if_success k_extra "ofold"); first | ((k_here; k_dflt (refine comp_text (by k_asm) (by rfl) (by decide) (by rfl) (by decide) (by rfl) ?_))) | fail "row"
  k_with "SrcText" => (fail_if_success k_extra "ofold"); first | ((k_here; k_dflt (refine srcText (by with_reducible assumption) (by rfl) (by k_asm) (by k_asm) (by rw [sizeLine_eq]; omega) ?_; intro g'; refine comp_inv x.cps.size (fun i ys n' => n' = news ∧ Signs ys ((x.cps.toList.take i).map upc)) (fun i ys news' v I' oI' C' oC' D' m' h' tk' E9 hi9 hI9 hv9 hC' hx' F' N' off' ne' => ?_) (fun ys news' hI9 => ?_) _ 0 [] _ rfl ⟨rfl, .nil⟩); k_dflt (focus (obtain ⟨e1, hS⟩ := hI9; subst e1; obtain ⟨c, u9, hc9, e3⟩ := hv9; subst e3; (have o1' := off3_1 off'); (have o2' := off3_2 off'); (have o3' := off3_3 off'); (try dsimp only))); (rotate_left; k_dflt (focus (obtain ⟨e1, hS⟩ := hI9; subst e1; (rw [← Array.length_toList, List.take_length] at hS); (try dsimp only))); rotate_right))) | fail "row"
  trivial
theorem fold_gen (x : Str) (tt : Tok) (news : Led) (h1 : x.cps.all (· < 128) = true) (h2 : x.cps.size ≤ 64) : SpecP 4 481 [.str x tt] news (fun v => ∃ t, v = .str ⟨(upS x).toArray⟩ t) := Carry.out (by exact Carry.mk : Carry ((by
  unfold SpecP Spec
  intro prog w p loose mean mg mb dp un gd cn cs a ccd cl outer A₀ base h₀ L m s Q E B F X N T hk hd hu hret
  have hv : (x.cps.toList.map upc).length ≤ 64 := by rw [List.length_map, Array.length_toList]; exact h2
  (k_dflt k_extra "ktr_enter"; k_steps)
  all_goals first
    | (refine finP hret (by k_asm) (by k_asm) (by k_asm) (by k_extra "tb_rel") ?_; exact ⟨_, rfl⟩)
    | exact signs_take hS (by simpa using hc9) (upc_in (by with_reducible assumption) (by with_reducible assumption))
    | exact signs_take hS (by simpa using hc9) (upc_lo (by with_reducible assumption))
    | exact signs_take hS (by simpa using hc9) (upc_hi (by with_reducible assumption))
    | skip

  done
  : SpecP 4 481 [.str x tt] news (fun v => ∃ t, v = .str ⟨(upS x).toArray⟩ t)) :))

end
theorem fold_spec (x y : Str) (tt : Tok) (news : Led) (h : IsWord x y) : SpecP 4 481 [.str x tt] news (fun v => ∃ t, v = .str y t) := by
  have e : (⟨(upS x).toArray⟩ : Str) = y ∧ x.cps.all (· < 128) = true ∧ x.cps.size ≤ 64 := by
    rcases h with ⟨rfl, rfl⟩ | ⟨rfl, rfl⟩ | ⟨rfl, rfl⟩ <;> decide +kernel
  rw [← e.1]
  exact fold_gen x tt news e.2.1 e.2.2

theorem fold_specu {prog9 : Program} {w9 : World} {p9 : Program} {loose9 : List Str} {mean9 : ExcName → Option Value} {mg9 mb9 : Str → Option Value} {dp9 un9 : Nat} {gd9 : Option (List Code)} {cn9 : Str} {cs9 : Scope} {a9 : Addr} {ccd9 : Value} {cl9 : List (Str × Addr)} {outer9 : List Env} {A₀9 : Around} {base9 h₀9 : Heap} {L9 : Addr} {m9 : Str → Option Value} {hh9 : Heap} {gg9 : Array GenState} {dd9 : Drawn} {tt9 : Nat} {oo9 : OsState} {Q9 E9 : Value → Shared → Prop} {A9 : Around} (x y : Str) (tt : Tok) (news : Led) (hA9 : A9 = ktrTop dp9 un9 gd9 cn9 cs9 L9 a9 ccd9 cl9 outer9) (B9 : Below A₀9 base9 outer9 h₀9) (F9 : Fr h₀9 L9 hh9 m9) (X9 : (hd.heap_39 w9.params).In h₀9) (N9 : News h₀9 L9 hh9 news) (T9 : Top p9 loose9 mean9 mg9 mb9 h₀9) (hk9 : cs9.kind = .function) (h : IsWord x y) (hd9 : dp9 + 4 < recursionLimit) (hu9 : un9 + 8 * 4 < cLine)
    (ret9 : ∀ t, ∀ h9 tk9, Fr h₀9 L9 h9 m9 → News h₀9 L9 h9 (news) → Q9 (.str y t) ⟨h9, gg9, dd9, tk9, oo9⟩) :
    wpAny (model prog9 w9) A9 (call (.ref 481) [.str x tt]) Q9 E9 ⟨hh9, gg9, dd9, tt9, oo9⟩ := by
  subst hA9
  refine Spec.useN B9 F9 X9 N9 T9 hk9 (fold_spec x y tt news h) hd9 hu9 fun v nw8 h8 tk8 F8 N8 P8 => ?_
  obtain ⟨rfl, t, rfl⟩ := P8
  exact ret9 t h8 tk8 F8 N8
theorem rows_fold_2 : True := by
  k_with "ofold" => skip
  k_with "call ref" => first | (k_here; (with_reducible show wpAny _ _ (call (Value.ref 481) _) _ _ _); (with_reducible refine fold_specu _ _ _ _ (by k_dflt (exact rfl)) (by k_dflt (k_asm)) (by k_dflt (k_asm)) (by k_dflt (k_asm)) (by k_dflt (k_asm)) (by k_dflt (k_asm)) (by k_dflt (first | exact rfl | assumption)) (by k_dflt (with_reducible assumption)) (by k_dflt (k_extra "ktr_room")) (by k_dflt (k_extra "ktr_units")) ?_); intro t9 h9 tk9 F9 N9; (try k_sweep); (try k_fold)) | fail "row"
  trivial
section
theorem rows_afftype_1 : True := by
  k_with "exec For Name Name cons nil" => (fail_if_success k_extra "oafftype"); first | ((k_here; (rename Fr _ _ _ _ => lF'); (with_unfolding_all refine' For_turns lF' ?_; k_whole))) | fail "row"
  k_with "exec For Name Tuple cons nil" => (fail_if_success k_extra "oafftype"); first | ((k_here; (rename Fr _ _ _ _ => lF'); (with_unfolding_all refine' For_turns lF' ?_; k_whole))) | fail "row"
  k_with "exec For Tuple Tuple cons nil" => (fail_if_success k_extra "oafftype"); first | ((k_here; (rename Fr _ _ _ _ => lF'); (with_unfolding_all refine' For_turns lF' ?_; k_whole))) | fail "row"
  k_with "exec For Name Call cons nil" => (fail_if_success k_extra "oafftype"); first | ((k_here; (rename Fr _ _ _ _ => lF'); (with_unfolding_all refine' For_turns lF' ?_; k_whole))) | fail "row"
  k_with "exec For Name Attribute cons nil" => (fail_if_success k_extra "oafftype"); first | ((k_here; (rename Fr _ _ _ _ => lF'); (with_unfolding_all refine' For_turns lF' ?_; k_whole))) | fail "row"
  k_with "pyIter str" => (fail_if_success k_extra "oafftype"); first | ((k_here; k_dflt (refine iter_signs (by rfl) (by decide +kernel) (by k_asm) (by k_asm) ?_); intro i' l1; (try k_lt l1))) | fail "row"
  k_with "pyIter ref" => (fail_if_success k_extra "oafftype"); first | ((k_here; (with_reducible show wpAny _ _ (pyIter (Value.ref _)) (fun it s₂ => TurnsAt _ _ _ _ _ _ _ _ _ it s₂) _ _); first | ((with_unfolding_all refine' iter_listTurns (by rfl) (by k_asm) (by k_asm) (by k_extra "lcg_off") (by rfl) (by rfl) ?_); intro i' l1; (try k_lt l1)) | ((with_unfolding_all refine' iter_tupTurns (by rfl) (by k_asm) (by k_asm) (by k_extra "lcg_off") (by rfl) (by rfl) ?_); intro i' l1; (try k_lt l1)))) | fail "row"
  k_with "compareOp In str str" => (fail_if_success k_extra "oafftype"); first | ((k_here; first | k_dflt (refine in_lit (b := true) (by decide +kernel) ?_) | k_dflt (refine in_lit (b := false) (by decide +kernel) ?_))) | fail "row"
  trivial
theorem afftype_spec (ty aff : Str) (tt : Tok) (news : Led) (h : IsType ty aff) : SpecP 8 469 [.str ty tt] news (fun v => ∃ t, v = .str aff t) := Carry.out (by exact Carry.mk : Carry ((by
  unfold SpecP Spec
  intro prog w p loose mean mg mb dp un gd cn cs a ccd cl outer A₀ base h₀ L m s Q E B F X N T hk hd hu hret
  rcases h with ⟨rfl, rfl⟩ | ⟨rfl, rfl⟩ | ⟨rfl, rfl⟩ | ⟨rfl, rfl⟩
  all_goals (k_dflt k_extra "ktr_enter"; k_steps)
  all_goals (refine finP hret (by k_asm) (by k_asm) (by k_asm) (by k_extra "tb_rel") ?_; exact ⟨_, rfl⟩)
  done
  : SpecP 8 469 [.str ty tt] news (fun v => ∃ t, v = .str aff t)) :))

end

theorem afftype_specu {prog9 : Program} {w9 : World} {p9 : Program} {loose9 : List Str} {mean9 : ExcName → Option Value} {mg9 mb9 : Str → Option Value} {dp9 un9 : Nat} {gd9 : Option (List Code)} {cn9 : Str} {cs9 : Scope} {a9 : Addr} {ccd9 : Value} {cl9 : List (Str × Addr)} {outer9 : List Env} {A₀9 : Around} {base9 h₀9 : Heap} {L9 : Addr} {m9 : Str → Option Value} {hh9 : Heap} {gg9 : Array GenState} {dd9 : Drawn} {tt9 : Nat} {oo9 : OsState} {Q9 E9 : Value → Shared → Prop} {A9 : Around} (ty aff : Str) (tt : Tok) (news : Led) (hA9 : A9 = ktrTop dp9 un9 gd9 cn9 cs9 L9 a9 ccd9 cl9 outer9) (B9 : Below A₀9 base9 outer9 h₀9) (F9 : Fr h₀9 L9 hh9 m9) (X9 : (hd.heap_39 w9.params).In h₀9) (N9 : News h₀9 L9 hh9 news) (T9 : Top p9 loose9 mean9 mg9 mb9 h₀9) (hk9 : cs9.kind = .function) (h : IsType ty aff) (hd9 : dp9 + 8 < recursionLimit) (hu9 : un9 + 8 * 8 < cLine)
    (ret9 : ∀ t, ∀ h9 tk9, Fr h₀9 L9 h9 m9 → News h₀9 L9 h9 (news) → Q9 (.str aff t) ⟨h9, gg9, dd9, tk9, oo9⟩) :
    wpAny (model prog9 w9) A9 (call (.ref 469) [.str ty tt]) Q9 E9 ⟨hh9, gg9, dd9, tt9, oo9⟩ := by
  subst hA9
  refine Spec.useN B9 F9 X9 N9 T9 hk9 (afftype_spec ty aff tt news h) hd9 hu9 fun v nw8 h8 tk8 F8 N8 P8 => ?_
  obtain ⟨rfl, t, rfl⟩ := P8
  exact ret9 t h8 tk8 F8 N8
theorem rows_afftype_2 : True := by
  k_with "oafftype" => skip
  k_with "call ref" => first | (k_here; (with_reducible show wpAny _ _ (call (Value.ref 469) _) _ _ _); (with_reducible refine afftype_specu _ _ _ _ (by k_dflt (exact rfl)) (by k_dflt (k_asm)) (by k_dflt (k_asm)) (by k_dflt (k_asm)) (by k_dflt (k_asm)) (by k_dflt (k_asm)) (by k_dflt (first | exact rfl | assumption)) (by k_dflt (with_reducible assumption)) (by k_dflt (k_extra "ktr_room")) (by k_dflt (k_extra "ktr_units")) ?_); intro t9 h9 tk9 F9 N9; (try k_sweep); (try k_fold)) | fail "row"
  trivial
def Nd.cls : Nd → Addr
  | .name .. => 116
  | .lit => 90
  | .coll .. => 400
  | .cast .. => 374
  | .plus _ => 168
  | .un .. => 142
theorem NodeAt.inst {news : Led} {x : Addr} {nd : Nd} (h : NodeAt news x nd) : ∃ dx o, (x, instObj nd.cls dx) ∈ news ∧ (dx, o) ∈ news := by
  cases h with
  | name a => cases a with | mk b c => exact ⟨_, _, b, c⟩
  | lit a => cases a with | mk b c => exact ⟨_, _, b, c⟩
  | coll a b c d => exact ⟨_, _, a, b⟩
  | cast a b c d => exact ⟨_, _, a, b⟩
  | plus a b c d => exact ⟨_, _, a, b⟩
  | unP a b c => exact ⟨_, _, a, b⟩
  | unM a b c => exact ⟨_, _, a, b⟩
theorem cls_of (nd : Nd) : nd.cls = 116 ∨ nd.cls = 90 ∨ nd.cls = 400 ∨ nd.cls = 374 ∨ nd.cls = 168 ∨ nd.cls = 142 := by
  cases nd
  · exact .inl rfl
  · exact .inr (.inl rfl)
  · exact .inr (.inr (.inl rfl))
  · exact .inr (.inr (.inr (.inl rfl)))
  · exact .inr (.inr (.inr (.inr (.inl rfl))))
  · exact .inr (.inr (.inr (.inr (.inr rfl))))
theorem cls_facts (w : World) {D : Addr} (h : D = 116 ∨ D = 90 ∨ D = 400 ∨ D = 374 ∨ D = 168 ∨ D = 142) : plainGet (hd.heap_39 w.params) D "__class__" = true ∧ hasDictIn (hd.heap_39 w.params) D = true ∧
    findIn (hd.heap_39 w.params) (.ref D) "__class__" = some (some (.builtin "object.__class__")) ∧ mroIn (hd.heap_39 w.params) D (.type "object") = some true := by
  rcases h with rfl | rfl | rfl | rfl | rfl | rfl
  all_goals exact ⟨by k_is, by k_is, by k_is, by k_is⟩
theorem cls_gen (w : World) : specialIn (hd.heap_39 w.params) (.builtin "object.__class__") "__get__" = some (some (.builtin "getset_descriptor.__get__")) ∧ takesIn (hd.heap_39 w.params) (.builtin "object.__class__") = some true := ⟨by k_is, by k_is⟩
def IsC (C : Addr) : Prop := C = 116 ∨ C = 400 ∨ C = 374 ∨ C = 168 ∨ C = 142 ∨ C = 194 ∨ C = 220 ∨ C = 246 ∨ C = 272 ∨ C = 298 ∨ C = 322 ∨ C = 348 ∨ C = 426 ∨ C = 452
theorem cls_not (w : World) {D C : Addr} (h : D = 116 ∨ D = 90 ∨ D = 400 ∨ D = 374 ∨ D = 168 ∨ D = 142) (k : IsC C) (ne : D ≠ C) : kin_not (hd.heap_39 w.params) D C = true := by
  rcases h with rfl | rfl | rfl | rfl | rfl | rfl
  all_goals rcases k with rfl | rfl | rfl | rfl | rfl | rfl | rfl | rfl | rfl | rfl | rfl | rfl | rfl | rfl
  all_goals first | exact absurd rfl ne | kin_no
theorem cls_self (w : World) {D : Addr} (h : D = 116 ∨ D = 90 ∨ D = 400 ∨ D = 374 ∨ D = 168 ∨ D = 142) : isIn (hd.heap_39 w.params) (.ref D) D = true := by
  rcases h with rfl | rfl | rfl | rfl | rfl | rfl
  all_goals k_is
/-- what a node of a class bears, as rules in continuation form -/
theorem node_name {news : Led} {x : Addr} {nd : Nd} {G : Prop} (hn : NodeAt news x nd) (hc : (nd.cls == 116) = true)
    (k : ∀ (dx : Addr) (num place : Int) (aff coll : Str) (h1 h2 h3 h4 h5 h6 h7 : Int) (t1 t2 t3 t4 t5 t6 t7 tn tp tz ta tc tt tu : Tok) (tb cn : Str), nd = .name num place aff coll → (x, instObj 116 dx) ∈ news →
      (dx, dictOf [ent h1 "table" t1 (.str tb tt), ent h2 "column" t2 (.str cn tu), ent h3 "source" t3 (.int num tn), ent h4 "place" t4 (.int place tp), ent h5 "depth" t5 (.int 0 tz), ent h6 "affinity" t6 (.str aff ta), ent h7 "collation" t7 (.str coll tc)] 7) ∈ news → G) : G := by
  cases hn with
  | name a => cases a with | mk b c => exact k _ _ _ _ _ _ _ _ _ _ _ _ _ _ _ _ _ _ _ _ _ _ _ _ _ _ _ _ rfl b c
  | _ => exact absurd hc Bool.false_ne_true
theorem node_cast {news : Led} {x : Addr} {nd : Nd} {G : Prop} (hn : NodeAt news x nd) (hc : (nd.cls == 374) = true)
    (k : ∀ (dx y : Addr) (h1 h2 : Int) (t1 t2 tw : Tok) (ty aff : Str), nd = .cast ty aff → (x, instObj 374 dx) ∈ news → (dx, dictOf [ent h1 "value" t1 (.ref y), ent h2 "type_name" t2 (.str ty tw)] 2) ∈ news → LitAt news y → IsType ty aff → G) : G := by
  cases hn with
  | cast a b c d => exact k _ _ _ _ _ _ _ _ _ rfl a b c d
  | _ => exact absurd hc Bool.false_ne_true
theorem node_coll {news : Led} {x : Addr} {nd : Nd} {G : Prop} (hn : NodeAt news x nd) (hc : (nd.cls == 400) = true)
    (k : ∀ (dx y : Addr) (h1 h2 : Int) (t1 t2 tw : Tok) (word told : Str), nd = .coll word told → (x, instObj 400 dx) ∈ news → (dx, dictOf [ent h1 "value" t1 (.ref y), ent h2 "collation" t2 (.str word tw)] 2) ∈ news → LitAt news y → IsWord word told → G) : G := by
  cases hn with
  | coll a b c d => exact k _ _ _ _ _ _ _ _ _ rfl a b c d
  | _ => exact absurd hc Bool.false_ne_true
theorem node_not {nd : Nd} {C : Addr} {b : Nd → Bool} (hc : (nd.cls == C) = b nd) : (nd.cls == C) = b nd := hc
section
open PySem.Calls
variable {prog : Program} {w : World} {A : Around} {E : Value → Shared → Prop} {s : Shared} {h₀ : Heap} {L x : Addr} {m : Str → Option Value} {news : Led} {Q : Value → Shared → Prop}
theorem isi_node {nd : Nd} {C : Addr} (X : (hd.heap_39 w.params).In h₀) (F : Fr h₀ L s.heap m) (N : News h₀ L s.heap news) (hn : NodeAt news x nd) (hC : IsC C) (h : ∀ t, Q (.bool (nd.cls == C)) { s with toks := t }) :
    wpAny (model prog w) A (call (.builtin "isinstance") [.ref x, .ref C]) Q E s := by
  obtain ⟨dx, o, hm, hd'⟩ := hn.inst
  have hD := cls_of nd
  have X' : (hd.heap_39 w.params).In s.heap := Frag.In.keeps X F.keep
  by_cases e : nd.cls = C
  · subst e
    refine isi_call (K := hd.heap_39 w.params) (t := .ref nd.cls) X' (fun M => InstAt.type (InstAt.of_news N hm hd')) (cls_self w hD) (by intro e; cases e) ?_
    have q := h s.toks
    rw [beq_self_eq_true] at q
    exact q
  · have ⟨f1, f2, f3, f4⟩ := cls_facts w hD
    refine kin_callC (K := hd.heap_39 w.params) X' (InstAt.of_news N hm hd') (cls_not w hD hC e) f1 f2 f3 (cls_gen w).1 (cls_gen w).2 f4 ?_
    have q := h (s.toks + 1)
    rw [beq_eq_false_iff_ne.mpr e] at q
    exact q
end

section
theorem rows_affof_1 : True := by
  k_with "call builtin:isinstance" => (fail_if_success k_extra "oaffof"); first | ((k_here; (with_reducible show wpAny _ _ (call (Value.builtin "isinstance") [Value.ref x, Value.ref _]) _ _ _); k_dflt (refine isi_node (nd := nd) (by k_asm) (by k_asm) (by k_asm) (by with_reducible assumption) (by unfold IsC; decide) ?_); intro t9)) | fail "row"
  k_with "getAttr ref" => (fail_if_success k_extra "oaffof"); first | ((k_here; (with_reducible show wpAny _ _ (getAttr (Value.ref x) _ _) _ _ _); (fail_if_success (have := e9n)); (rename (Nd.cls _ == _) = true => hcl9); first | (refine node_name hn hcl9 ?_; intro dx9 num9 place9 aff9 coll9 h91 h92 h93 h94 h95 h96 h97 t91 t92 t93 t94 t95 t96 t97 tn9 tp9 tz9 ta9 tc9 tt9 tu9 tb9 cn9 e9n m91 m92) | (refine node_cast hn hcl9 ?_; intro dx9 y9 h91 h92 t91 t92 tw9 ty9 aff9 e9n m91 m92 l9 i9) | (refine node_coll hn hcl9 ?_; intro dx9 y9 h91 h92 t91 t92 tw9 word9 told9 e9n m91 m92 l9 i9; cases l9) | (cases hn <;> exact absurd hcl9 Bool.false_ne_true))) | fail "row"
  trivial
theorem affof_spec (x : Addr) (nd : Nd) (news : Led) (hn : NodeAt news x nd) : SpecP 9 510 [.ref x] news (fun v => ∃ t, v = ov nd.aff t) := Carry.out (by exact Carry.mk : Carry ((by
  unfold SpecP Spec
  intro prog w p loose mean mg mb dp un gd cn cs a ccd cl outer A₀ base h₀ L m s Q E B F X N T hk hd hu hret
  k_dflt k_extra "ktr_enterB"
  k_steps

  all_goals (refine finP hret (by k_asm) (by k_asm) (by k_asm) (by k_extra "tb_rel") ?_; first | exact ⟨_, by rw [e9n]; rfl⟩ | exact ⟨0, by rw [e9n]; rfl⟩ | (cases nd <;> first | exact ⟨0, rfl⟩ | contradiction))
  done
  : SpecP 9 510 [.ref x] news (fun v => ∃ t, v = ov nd.aff t)) :))

theorem affof_spec' (x : Addr) (nd : Nd) (o : Option Str) (news : Led) (hn : NodeAt news x nd) (ho : nd.aff = o) : SpecP 9 510 [.ref x] news (fun v => ∃ t, v = ov o t) := ho ▸ affof_spec x nd news hn
end

theorem affof_specu {prog9 : Program} {w9 : World} {p9 : Program} {loose9 : List Str} {mean9 : ExcName → Option Value} {mg9 mb9 : Str → Option Value} {dp9 un9 : Nat} {gd9 : Option (List Code)} {cn9 : Str} {cs9 : Scope} {a9 : Addr} {ccd9 : Value} {cl9 : List (Str × Addr)} {outer9 : List Env} {A₀9 : Around} {base9 h₀9 : Heap} {L9 : Addr} {m9 : Str → Option Value} {hh9 : Heap} {gg9 : Array GenState} {dd9 : Drawn} {tt9 : Nat} {oo9 : OsState} {Q9 E9 : Value → Shared → Prop} {A9 : Around} (x : Addr) (nd : Nd) (news : Led) (hA9 : A9 = ktrTop dp9 un9 gd9 cn9 cs9 L9 a9 ccd9 cl9 outer9) (B9 : Below A₀9 base9 outer9 h₀9) (F9 : Fr h₀9 L9 hh9 m9) (X9 : (hd.heap_39 w9.params).In h₀9) (N9 : News h₀9 L9 hh9 news) (T9 : Top p9 loose9 mean9 mg9 mb9 h₀9) (hk9 : cs9.kind = .function) (hn : NodeAt news x nd) (hd9 : dp9 + 9 < recursionLimit) (hu9 : un9 + 8 * 9 < cLine)
    (ret9 : ∀ t, ∀ h9 tk9, Fr h₀9 L9 h9 m9 → News h₀9 L9 h9 (news) → Q9 (ov nd.aff t) ⟨h9, gg9, dd9, tk9, oo9⟩) :
    wpAny (model prog9 w9) A9 (call (.ref 510) [.ref x]) Q9 E9 ⟨hh9, gg9, dd9, tt9, oo9⟩ := by
  subst hA9
  refine Spec.useN B9 F9 X9 N9 T9 hk9 (affof_spec x nd news hn) hd9 hu9 fun v nw8 h8 tk8 F8 N8 P8 => ?_
  obtain ⟨rfl, t, rfl⟩ := P8
  exact ret9 t h8 tk8 F8 N8
theorem rows_affof_2 : True := by
  k_with "oaffof" => skip
  k_with "call ref" => first | (k_here; (with_reducible show wpAny _ _ (call (Value.ref 510) _) _ _ _); (with_reducible refine affof_specu _ _ _ (by k_dflt (exact rfl)) (by k_dflt (k_asm)) (by k_dflt (k_asm)) (by k_dflt (k_asm)) (by k_dflt (k_asm)) (by k_dflt (k_asm)) (by k_dflt (first | exact rfl | assumption)) (by k_dflt (first | with_reducible assumption | exact NodeAt.mono (by with_reducible assumption) (by k_extra "ktu_off1L"))) (by k_dflt (k_extra "ktr_room")) (by k_dflt (k_extra "ktr_units")) ?_); intro t9 h9 tk9 F9 N9; (try k_sweep); (try k_fold)) | fail "row"
  trivial
theorem iscol_spec (x : Addr) (nd : Nd) (num : Int) (tn : Tok) (news : Led) (hn : NodeAt news x nd) : SpecP 5 547 [.ref x, .int num tn] news (fun v => v = .bool (isCol nd num)) := Carry.out (by exact Carry.mk : Carry ((by
  unfold SpecP Spec
  intro prog w p loose mean mg mb dp un gd cn cs a ccd cl outer A₀ base h₀ L m s Q E B F X N T hk hd hu hret
  cases hn
  all_goals (try (rename NameAt _ _ _ _ _ _ => q1; cases q1))
  all_goals (try (rename LitAt _ _ => q2; cases q2))
  all_goals (k_dflt k_extra "ktr_enter"; k_steps)
  all_goals (refine finP hret (by k_asm) (by k_asm) (by k_asm) (by k_extra "tb_rel") ?_; exact rfl)
  done
  : SpecP 5 547 [.ref x, .int num tn] news (fun v => v = .bool (isCol nd num))) :))

theorem iscol_spec' (x : Addr) (nd : Nd) (num : Int) (tn : Tok) (b : Bool) (news : Led) (hn : NodeAt news x nd) (hb : isCol nd num = b) : SpecP 5 547 [.ref x, .int num tn] news (fun v => v = .bool b) := hb ▸ iscol_spec x nd num tn news hn

theorem iscol_spec'u {prog9 : Program} {w9 : World} {p9 : Program} {loose9 : List Str} {mean9 : ExcName → Option Value} {mg9 mb9 : Str → Option Value} {dp9 un9 : Nat} {gd9 : Option (List Code)} {cn9 : Str} {cs9 : Scope} {a9 : Addr} {ccd9 : Value} {cl9 : List (Str × Addr)} {outer9 : List Env} {A₀9 : Around} {base9 h₀9 : Heap} {L9 : Addr} {m9 : Str → Option Value} {hh9 : Heap} {gg9 : Array GenState} {dd9 : Drawn} {tt9 : Nat} {oo9 : OsState} {Q9 E9 : Value → Shared → Prop} {A9 : Around} (x : Addr) (nd : Nd) (num : Int) (tn : Tok) (b : Bool) (news : Led) (hA9 : A9 = ktrTop dp9 un9 gd9 cn9 cs9 L9 a9 ccd9 cl9 outer9) (B9 : Below A₀9 base9 outer9 h₀9) (F9 : Fr h₀9 L9 hh9 m9) (X9 : (hd.heap_39 w9.params).In h₀9) (N9 : News h₀9 L9 hh9 news) (T9 : Top p9 loose9 mean9 mg9 mb9 h₀9) (hk9 : cs9.kind = .function) (hn : NodeAt news x nd) (hb : isCol nd num = b) (hd9 : dp9 + 5 < recursionLimit) (hu9 : un9 + 8 * 5 < cLine)
    (ret9 : ∀ h9 tk9, Fr h₀9 L9 h9 m9 → News h₀9 L9 h9 (news) → Q9 (.bool b) ⟨h9, gg9, dd9, tk9, oo9⟩) :
    wpAny (model prog9 w9) A9 (call (.ref 547) [.ref x, .int num tn]) Q9 E9 ⟨hh9, gg9, dd9, tt9, oo9⟩ := by
  subst hA9
  refine Spec.useN B9 F9 X9 N9 T9 hk9 (iscol_spec' x nd num tn b news hn hb) hd9 hu9 fun v nw8 h8 tk8 F8 N8 P8 => ?_
  obtain ⟨rfl, rfl⟩ := P8
  exact ret9  h8 tk8 F8 N8
theorem rows_iscol_1 : True := by
  k_with "call ref" => first | (k_here; (with_reducible show wpAny _ _ (call (Value.ref 547) _) _ _ _); (with_reducible refine iscol_spec'u _ _ _ _ _ _ (by k_dflt (exact rfl)) (by k_dflt (k_asm)) (by k_dflt (k_asm)) (by k_dflt (k_asm)) (by k_dflt (k_asm)) (by k_dflt (k_asm)) (by k_dflt (first | exact rfl | assumption)) (by k_dflt (first | with_reducible assumption | exact NodeAt.mono (by with_reducible assumption) (by k_extra "ktu_off1L"))) (by k_dflt (with_reducible assumption)) (by k_dflt (k_extra "ktr_room")) (by k_dflt (k_extra "ktr_units")) ?_); intro h9 tk9 F9 N9; (try k_sweep); (try k_fold)) | fail "row"
  trivial
theorem colcol_spec (x : Addr) (nd : Nd) (news : Led) (hn : NodeAt news x nd) : SpecP 7 524 [.ref x] news (fun v => ∃ t, v = ov nd.col t) := Carry.out (by exact Carry.mk : Carry ((by
  unfold SpecP Spec
  intro prog w p loose mean mg mb dp un gd cn cs a ccd cl outer A₀ base h₀ L m s Q E B F X N T hk hd hu hret
  cases hn
  all_goals (try (rename NameAt _ _ _ _ _ _ => q1; cases q1))
  all_goals (try (rename LitAt _ _ => q2; cases q2))
  all_goals (k_dflt k_extra "ktr_enter"; k_steps)
  all_goals (refine finP hret (by k_asm) (by k_asm) (by k_asm) (by k_extra "tb_rel") ?_; first | exact ⟨_, rfl⟩ | exact ⟨0, rfl⟩)
  done
  : SpecP 7 524 [.ref x] news (fun v => ∃ t, v = ov nd.col t)) :))

theorem colcol_spec' (x : Addr) (nd : Nd) (o : Option Str) (news : Led) (hn : NodeAt news x nd) (ho : nd.col = o) : SpecP 7 524 [.ref x] news (fun v => ∃ t, v = ov o t) := ho ▸ colcol_spec x nd news hn

theorem colcol_spec'u {prog9 : Program} {w9 : World} {p9 : Program} {loose9 : List Str} {mean9 : ExcName → Option Value} {mg9 mb9 : Str → Option Value} {dp9 un9 : Nat} {gd9 : Option (List Code)} {cn9 : Str} {cs9 : Scope} {a9 : Addr} {ccd9 : Value} {cl9 : List (Str × Addr)} {outer9 : List Env} {A₀9 : Around} {base9 h₀9 : Heap} {L9 : Addr} {m9 : Str → Option Value} {hh9 : Heap} {gg9 : Array GenState} {dd9 : Drawn} {tt9 : Nat} {oo9 : OsState} {Q9 E9 : Value → Shared → Prop} {A9 : Around} (x : Addr) (nd : Nd) (o : Option Str) (news : Led) (hA9 : A9 = ktrTop dp9 un9 gd9 cn9 cs9 L9 a9 ccd9 cl9 outer9) (B9 : Below A₀9 base9 outer9 h₀9) (F9 : Fr h₀9 L9 hh9 m9) (X9 : (hd.heap_39 w9.params).In h₀9) (N9 : News h₀9 L9 hh9 news) (T9 : Top p9 loose9 mean9 mg9 mb9 h₀9) (hk9 : cs9.kind = .function) (hn : NodeAt news x nd) (ho : nd.col = o) (hd9 : dp9 + 7 < recursionLimit) (hu9 : un9 + 8 * 7 < cLine)
    (ret9 : ∀ t, ∀ h9 tk9, Fr h₀9 L9 h9 m9 → News h₀9 L9 h9 (news) → Q9 (ov o t) ⟨h9, gg9, dd9, tk9, oo9⟩) :
    wpAny (model prog9 w9) A9 (call (.ref 524) [.ref x]) Q9 E9 ⟨hh9, gg9, dd9, tt9, oo9⟩ := by
  subst hA9
  refine Spec.useN B9 F9 X9 N9 T9 hk9 (colcol_spec' x nd o news hn ho) hd9 hu9 fun v nw8 h8 tk8 F8 N8 P8 => ?_
  obtain ⟨rfl, t, rfl⟩ := P8
  exact ret9 t h8 tk8 F8 N8
theorem rows_colcol_1 : True := by
  k_with "call ref" => first | (k_here; (with_reducible show wpAny _ _ (call (Value.ref 524) _) _ _ _); (with_reducible refine colcol_spec'u _ _ _ _ (by k_dflt (exact rfl)) (by k_dflt (k_asm)) (by k_dflt (k_asm)) (by k_dflt (k_asm)) (by k_dflt (k_asm)) (by k_dflt (k_asm)) (by k_dflt (first | exact rfl | assumption)) (by k_dflt (first | with_reducible assumption | exact NodeAt.mono (by with_reducible assumption) (by k_extra "ktu_off1L"))) (by k_dflt (first | with_reducible assumption | exact rfl)) (by k_dflt (k_extra "ktr_room")) (by k_dflt (k_extra "ktr_units")) ?_); intro t9 h9 tk9 F9 N9; (try dsimp only [ov_none, ov_some, Nd.col]); (try k_sweep); (try k_fold)) | fail "row"
  trivial
theorem kids0_spec (x : Addr) (nd : Nd) (news : Led) (hn : NodeAt news x nd) (hl : nd.kids = 0) : SpecN 3 488 [.ref x] news (fun pre v => ∃ l, v = .ref l ∧ (l, W.listOf #[] 0) ∈ pre) := Carry.out (by exact Carry.mk : Carry ((by
  unfold SpecN Spec
  intro prog w p loose mean mg mb dp un gd cn cs a ccd cl outer A₀ base h₀ L m s Q E B F X N T hk hd hu hret
  cases hn <;> first | cases hl | skip
  all_goals (try (rename NameAt _ _ _ _ _ _ => q1; cases q1))
  all_goals (try (rename LitAt _ _ => q2; cases q2))
  all_goals (k_dflt k_extra "ktr_enter"; k_steps)
  all_goals (refine finN hret (by k_asm) (by k_asm) (by k_asm) (by k_extra "tb_rel") (by k_extra "tb_start") ?_; exact ⟨_, rfl, by k_extra "lcg_off"⟩)
  done
  : SpecN 3 488 [.ref x] news (fun pre v => ∃ l, v = .ref l ∧ (l, W.listOf #[] 0) ∈ pre)) :))

theorem kids1_spec (x dx y : Addr) (C : Addr) (h1 h2 : Int) (t1 t2 : Tok) (v2 : Value) (w1 : String) (news : Led) (hC : (C = 400 ∧ w1 = "collation") ∨ (C = 374 ∧ w1 = "type_name")) (m1 : (x, instObj C dx) ∈ news) (m2 : (dx, dictOf [ent h1 "value" t1 (.ref y), ent h2 w1 t2 v2] 2) ∈ news) :
    SpecN 3 488 [.ref x] news (fun pre v => ∃ l, v = .ref l ∧ (l, W.listOf #[.ref y] 0) ∈ pre) := Carry.out (by exact Carry.mk : Carry ((by
  unfold SpecN Spec
  intro prog w p loose mean mg mb dp un gd cn cs a ccd cl outer A₀ base h₀ L m s Q E B F X N T hk hd hu hret
  rcases hC with ⟨rfl, rfl⟩ | ⟨rfl, rfl⟩
  all_goals (k_dflt k_extra "ktr_enter"; k_steps)
  all_goals (refine finN hret (by k_asm) (by k_asm) (by k_asm) (by k_extra "tb_rel") (by k_extra "tb_start") ?_; exact ⟨_, rfl, by k_extra "lcg_off"⟩)
  done
  : SpecN 3 488 [.ref x] news (fun pre v => ∃ l, v = .ref l ∧ (l, W.listOf #[.ref y] 0) ∈ pre)) :))

theorem kidsU_spec (x dx y : Addr) (h1 h2 : Int) (t1 t2 : Tok) (v1 : Value) (news : Led) (m1 : (x, instObj 142 dx) ∈ news) (m2 : (dx, dictOf [ent h1 "op" t1 v1, ent h2 "operand" t2 (.ref y)] 2) ∈ news) :
    SpecN 3 488 [.ref x] news (fun pre v => ∃ l, v = .ref l ∧ (l, W.listOf #[.ref y] 0) ∈ pre) := Carry.out (by exact Carry.mk : Carry ((by
  unfold SpecN Spec
  intro prog w p loose mean mg mb dp un gd cn cs a ccd cl outer A₀ base h₀ L m s Q E B F X N T hk hd hu hret
  all_goals (k_dflt k_extra "ktr_enter"; k_steps)
  all_goals (refine finN hret (by k_asm) (by k_asm) (by k_asm) (by k_extra "tb_rel") (by k_extra "tb_start") ?_; exact ⟨_, rfl, by k_extra "lcg_off"⟩)
  done
  : SpecN 3 488 [.ref x] news (fun pre v => ∃ l, v = .ref l ∧ (l, W.listOf #[.ref y] 0) ∈ pre)) :))

theorem kidsB_spec (x dx y z : Addr) (h1 h2 h3 : Int) (t1 t2 t3 : Tok) (v1 : Value) (news : Led) (m1 : (x, instObj 168 dx) ∈ news) (m2 : (dx, dictOf [ent h1 "op" t1 v1, ent h2 "left" t2 (.ref y), ent h3 "right" t3 (.ref z)] 3) ∈ news) :
    SpecN 3 488 [.ref x] news (fun pre v => ∃ l, v = .ref l ∧ (l, W.listOf #[.ref y, .ref z] 0) ∈ pre) := Carry.out (by exact Carry.mk : Carry ((by
  unfold SpecN Spec
  intro prog w p loose mean mg mb dp un gd cn cs a ccd cl outer A₀ base h₀ L m s Q E B F X N T hk hd hu hret
  all_goals (k_dflt k_extra "ktr_enter"; k_steps)
  all_goals (refine finN hret (by k_asm) (by k_asm) (by k_asm) (by k_extra "tb_rel") (by k_extra "tb_start") ?_; exact ⟨_, rfl, by k_extra "lcg_off"⟩)
  done
  : SpecN 3 488 [.ref x] news (fun pre v => ∃ l, v = .ref l ∧ (l, W.listOf #[.ref y, .ref z] 0) ∈ pre)) :))

theorem kids0_specu {prog9 : Program} {w9 : World} {p9 : Program} {loose9 : List Str} {mean9 : ExcName → Option Value} {mg9 mb9 : Str → Option Value} {dp9 un9 : Nat} {gd9 : Option (List Code)} {cn9 : Str} {cs9 : Scope} {a9 : Addr} {ccd9 : Value} {cl9 : List (Str × Addr)} {outer9 : List Env} {A₀9 : Around} {base9 h₀9 : Heap} {L9 : Addr} {m9 : Str → Option Value} {hh9 : Heap} {gg9 : Array GenState} {dd9 : Drawn} {tt9 : Nat} {oo9 : OsState} {Q9 E9 : Value → Shared → Prop} {A9 : Around} (x : Addr) (nd : Nd) (news : Led) (hA9 : A9 = ktrTop dp9 un9 gd9 cn9 cs9 L9 a9 ccd9 cl9 outer9) (B9 : Below A₀9 base9 outer9 h₀9) (F9 : Fr h₀9 L9 hh9 m9) (X9 : (hd.heap_39 w9.params).In h₀9) (N9 : News h₀9 L9 hh9 news) (T9 : Top p9 loose9 mean9 mg9 mb9 h₀9) (hk9 : cs9.kind = .function) (hn : NodeAt news x nd) (hl : nd.kids = 0) (hd9 : dp9 + 3 < recursionLimit) (hu9 : un9 + 8 * 3 < cLine)
    (ret9 : ∀ pre, Fresh news pre → ∀ l, ((l, W.listOf #[] 0) ∈ pre) → ∀ h9 tk9, Fr h₀9 L9 h9 m9 → News h₀9 L9 h9 (pre ++ news) → Q9 (.ref l) ⟨h9, gg9, dd9, tk9, oo9⟩) :
    wpAny (model prog9 w9) A9 (call (.ref 488) [.ref x]) Q9 E9 ⟨hh9, gg9, dd9, tt9, oo9⟩ := by
  subst hA9
  refine Spec.useN B9 F9 X9 N9 T9 hk9 (kids0_spec x nd news hn hl) hd9 hu9 fun v nw8 h8 tk8 F8 N8 P8 => ?_
  obtain ⟨pre, rfl, fr, l, rfl, c1⟩ := P8
  exact ret9 pre fr l c1 h8 tk8 F8 N8
theorem kids1_specu {prog9 : Program} {w9 : World} {p9 : Program} {loose9 : List Str} {mean9 : ExcName → Option Value} {mg9 mb9 : Str → Option Value} {dp9 un9 : Nat} {gd9 : Option (List Code)} {cn9 : Str} {cs9 : Scope} {a9 : Addr} {ccd9 : Value} {cl9 : List (Str × Addr)} {outer9 : List Env} {A₀9 : Around} {base9 h₀9 : Heap} {L9 : Addr} {m9 : Str → Option Value} {hh9 : Heap} {gg9 : Array GenState} {dd9 : Drawn} {tt9 : Nat} {oo9 : OsState} {Q9 E9 : Value → Shared → Prop} {A9 : Around} (x dx y : Addr) (C : Addr) (h1 h2 : Int) (t1 t2 : Tok) (v2 : Value) (w1 : String) (news : Led) (hA9 : A9 = ktrTop dp9 un9 gd9 cn9 cs9 L9 a9 ccd9 cl9 outer9) (B9 : Below A₀9 base9 outer9 h₀9) (F9 : Fr h₀9 L9 hh9 m9) (X9 : (hd.heap_39 w9.params).In h₀9) (N9 : News h₀9 L9 hh9 news) (T9 : Top p9 loose9 mean9 mg9 mb9 h₀9) (hk9 : cs9.kind = .function) (hC : (C = 400 ∧ w1 = "collation") ∨ (C = 374 ∧ w1 = "type_name")) (m1 : (x, instObj C dx) ∈ news) (m2 : (dx, dictOf [ent h1 "value" t1 (.ref y), ent h2 w1 t2 v2] 2) ∈ news) (hd9 : dp9 + 3 < recursionLimit) (hu9 : un9 + 8 * 3 < cLine)
    (ret9 : ∀ pre, Fresh news pre → ∀ l, ((l, W.listOf #[.ref y] 0) ∈ pre) → ∀ h9 tk9, Fr h₀9 L9 h9 m9 → News h₀9 L9 h9 (pre ++ news) → Q9 (.ref l) ⟨h9, gg9, dd9, tk9, oo9⟩) :
    wpAny (model prog9 w9) A9 (call (.ref 488) [.ref x]) Q9 E9 ⟨hh9, gg9, dd9, tt9, oo9⟩ := by
  subst hA9
  refine Spec.useN B9 F9 X9 N9 T9 hk9 (kids1_spec x dx y C h1 h2 t1 t2 v2 w1 news hC m1 m2) hd9 hu9 fun v nw8 h8 tk8 F8 N8 P8 => ?_
  obtain ⟨pre, rfl, fr, l, rfl, c1⟩ := P8
  exact ret9 pre fr l c1 h8 tk8 F8 N8
theorem kidsU_specu {prog9 : Program} {w9 : World} {p9 : Program} {loose9 : List Str} {mean9 : ExcName → Option Value} {mg9 mb9 : Str → Option Value} {dp9 un9 : Nat} {gd9 : Option (List Code)} {cn9 : Str} {cs9 : Scope} {a9 : Addr} {ccd9 : Value} {cl9 : List (Str × Addr)} {outer9 : List Env} {A₀9 : Around} {base9 h₀9 : Heap} {L9 : Addr} {m9 : Str → Option Value} {hh9 : Heap} {gg9 : Array GenState} {dd9 : Drawn} {tt9 : Nat} {oo9 : OsState} {Q9 E9 : Value → Shared → Prop} {A9 : Around} (x dx y : Addr) (h1 h2 : Int) (t1 t2 : Tok) (v1 : Value) (news : Led) (hA9 : A9 = ktrTop dp9 un9 gd9 cn9 cs9 L9 a9 ccd9 cl9 outer9) (B9 : Below A₀9 base9 outer9 h₀9) (F9 : Fr h₀9 L9 hh9 m9) (X9 : (hd.heap_39 w9.params).In h₀9) (N9 : News h₀9 L9 hh9 news) (T9 : Top p9 loose9 mean9 mg9 mb9 h₀9) (hk9 : cs9.kind = .function) (m1 : (x, instObj 142 dx) ∈ news) (m2 : (dx, dictOf [ent h1 "op" t1 v1, ent h2 "operand" t2 (.ref y)] 2) ∈ news) (hd9 : dp9 + 3 < recursionLimit) (hu9 : un9 + 8 * 3 < cLine)
    (ret9 : ∀ pre, Fresh news pre → ∀ l, ((l, W.listOf #[.ref y] 0) ∈ pre) → ∀ h9 tk9, Fr h₀9 L9 h9 m9 → News h₀9 L9 h9 (pre ++ news) → Q9 (.ref l) ⟨h9, gg9, dd9, tk9, oo9⟩) :
    wpAny (model prog9 w9) A9 (call (.ref 488) [.ref x]) Q9 E9 ⟨hh9, gg9, dd9, tt9, oo9⟩ := by
  subst hA9
  refine Spec.useN B9 F9 X9 N9 T9 hk9 (kidsU_spec x dx y h1 h2 t1 t2 v1 news m1 m2) hd9 hu9 fun v nw8 h8 tk8 F8 N8 P8 => ?_
  obtain ⟨pre, rfl, fr, l, rfl, c1⟩ := P8
  exact ret9 pre fr l c1 h8 tk8 F8 N8
theorem kidsB_specu {prog9 : Program} {w9 : World} {p9 : Program} {loose9 : List Str} {mean9 : ExcName → Option Value} {mg9 mb9 : Str → Option Value} {dp9 un9 : Nat} {gd9 : Option (List Code)} {cn9 : Str} {cs9 : Scope} {a9 : Addr} {ccd9 : Value} {cl9 : List (Str × Addr)} {outer9 : List Env} {A₀9 : Around} {base9 h₀9 : Heap} {L9 : Addr} {m9 : Str → Option Value} {hh9 : Heap} {gg9 : Array GenState} {dd9 : Drawn} {tt9 : Nat} {oo9 : OsState} {Q9 E9 : Value → Shared → Prop} {A9 : Around} (x dx y z : Addr) (h1 h2 h3 : Int) (t1 t2 t3 : Tok) (v1 : Value) (news : Led) (hA9 : A9 = ktrTop dp9 un9 gd9 cn9 cs9 L9 a9 ccd9 cl9 outer9) (B9 : Below A₀9 base9 outer9 h₀9) (F9 : Fr h₀9 L9 hh9 m9) (X9 : (hd.heap_39 w9.params).In h₀9) (N9 : News h₀9 L9 hh9 news) (T9 : Top p9 loose9 mean9 mg9 mb9 h₀9) (hk9 : cs9.kind = .function) (m1 : (x, instObj 168 dx) ∈ news) (m2 : (dx, dictOf [ent h1 "op" t1 v1, ent h2 "left" t2 (.ref y), ent h3 "right" t3 (.ref z)] 3) ∈ news) (hd9 : dp9 + 3 < recursionLimit) (hu9 : un9 + 8 * 3 < cLine)
    (ret9 : ∀ pre, Fresh news pre → ∀ l, ((l, W.listOf #[.ref y, .ref z] 0) ∈ pre) → ∀ h9 tk9, Fr h₀9 L9 h9 m9 → News h₀9 L9 h9 (pre ++ news) → Q9 (.ref l) ⟨h9, gg9, dd9, tk9, oo9⟩) :
    wpAny (model prog9 w9) A9 (call (.ref 488) [.ref x]) Q9 E9 ⟨hh9, gg9, dd9, tt9, oo9⟩ := by
  subst hA9
  refine Spec.useN B9 F9 X9 N9 T9 hk9 (kidsB_spec x dx y z h1 h2 h3 t1 t2 t3 v1 news m1 m2) hd9 hu9 fun v nw8 h8 tk8 F8 N8 P8 => ?_
  obtain ⟨pre, rfl, fr, l, rfl, c1⟩ := P8
  exact ret9 pre fr l c1 h8 tk8 F8 N8
theorem rows_children_1 : True := by
  k_with "call ref" => first | (k_here; (with_reducible show wpAny _ _ (call (Value.ref 488) _) _ _ _); (with_reducible refine kids0_specu _ _ _ (by k_dflt (exact rfl)) (by k_dflt (k_asm)) (by k_dflt (k_asm)) (by k_dflt (k_asm)) (by k_dflt (k_asm)) (by k_dflt (k_asm)) (by k_dflt (first | exact rfl | assumption)) (by k_dflt (first | with_reducible assumption | exact NodeAt.mono (by with_reducible assumption) (by k_extra "ktu_off1L"))) (by k_dflt (rfl)) (by k_dflt (k_extra "ktr_room")) (by k_dflt (k_extra "ktr_units")) ?_); intro pre9 fr9 l9 m9 h9 tk9 F9 N9; (try k_sweep); (try k_fold)) | fail "row"
  k_with "call ref" => first | (k_here; (with_reducible show wpAny _ _ (call (Value.ref 488) _) _ _ _); (with_reducible refine kids1_specu _ _ _ _ _ _ _ _ _ _ _ (by k_dflt (exact rfl)) (by k_dflt (k_asm)) (by k_dflt (k_asm)) (by k_dflt (k_asm)) (by k_dflt (k_asm)) (by k_dflt (k_asm)) (by k_dflt (first | exact rfl | assumption)) (by k_dflt (first | exact Or.inl ⟨rfl, rfl⟩ | exact Or.inr ⟨rfl, rfl⟩)) (by k_dflt (k_extra "lcg_off")) (by k_dflt (k_extra "lcg_off")) (by k_dflt (k_extra "ktr_room")) (by k_dflt (k_extra "ktr_units")) ?_); intro pre9 fr9 l9 m9 h9 tk9 F9 N9; (try k_sweep); (try k_fold)) | fail "row"
  k_with "call ref" => first | (k_here; (with_reducible show wpAny _ _ (call (Value.ref 488) _) _ _ _); (with_reducible refine kidsU_specu _ _ _ _ _ _ _ _ _ (by k_dflt (exact rfl)) (by k_dflt (k_asm)) (by k_dflt (k_asm)) (by k_dflt (k_asm)) (by k_dflt (k_asm)) (by k_dflt (k_asm)) (by k_dflt (first | exact rfl | assumption)) (by k_dflt (k_extra "lcg_off")) (by k_dflt (k_extra "lcg_off")) (by k_dflt (k_extra "ktr_room")) (by k_dflt (k_extra "ktr_units")) ?_); intro pre9 fr9 l9 m9 h9 tk9 F9 N9; (try k_sweep); (try k_fold)) | fail "row"
  k_with "call ref" => first | (k_here; (with_reducible show wpAny _ _ (call (Value.ref 488) _) _ _ _); (with_reducible refine kidsB_specu _ _ _ _ _ _ _ _ _ _ _ _ (by k_dflt (exact rfl)) (by k_dflt (k_asm)) (by k_dflt (k_asm)) (by k_dflt (k_asm)) (by k_dflt (k_asm)) (by k_dflt (k_asm)) (by k_dflt (first | exact rfl | assumption)) (by k_dflt (k_extra "lcg_off")) (by k_dflt (k_extra "lcg_off")) (by k_dflt (k_extra "ktr_room")) (by k_dflt (k_extra "ktr_units")) ?_); intro pre9 fr9 l9 m9 h9 tk9 F9 N9; (try k_sweep); (try k_fold)) | fail "row"
  trivial
section
theorem rows_collect_1 : True := by
  k_with "exec For Name Name cons nil" => (fail_if_success k_extra "ocollect"); first | ((k_here; (rename Fr _ _ _ _ => lF'); (with_unfolding_all refine' For_turns lF' ?_; k_whole))) | fail "row"
  k_with "exec For Name Tuple cons nil" => (fail_if_success k_extra "ocollect"); first | ((k_here; (rename Fr _ _ _ _ => lF'); (with_unfolding_all refine' For_turns lF' ?_; k_whole))) | fail "row"
  k_with "exec For Tuple Tuple cons nil" => (fail_if_success k_extra "ocollect"); first | ((k_here; (rename Fr _ _ _ _ => lF'); (with_unfolding_all refine' For_turns lF' ?_; k_whole))) | fail "row"
  k_with "exec For Name Call cons nil" => (fail_if_success k_extra "ocollect"); first | ((k_here; (rename Fr _ _ _ _ => lF'); (with_unfolding_all refine' For_turns lF' ?_; k_whole))) | fail "row"
  k_with "exec For Name Attribute cons nil" => (fail_if_success k_extra "ocollect"); first | ((k_here; (rename Fr _ _ _ _ => lF'); (with_unfolding_all refine' For_turns lF' ?_; k_whole))) | fail "row"
  k_with "pyIter str" => (fail_if_success k_extra "ocollect"); first | ((k_here; k_dflt (refine iter_signs (by rfl) (by decide +kernel) (by k_asm) (by k_asm) ?_); intro i' l1; (try k_lt l1))) | fail "row"
  k_with "pyIter ref" => (fail_if_success k_extra "ocollect"); first | ((k_here; (with_reducible show wpAny _ _ (pyIter (Value.ref _)) (fun it s₂ => TurnsAt _ _ _ _ _ _ _ _ _ it s₂) _ _); first | ((with_unfolding_all refine' iter_listTurns (by rfl) (by k_asm) (by k_asm) (by k_extra "lcg_off") (by rfl) (by rfl) ?_); intro i' l1; (try k_lt l1)) | ((with_unfolding_all refine' iter_tupTurns (by rfl) (by k_asm) (by k_asm) (by k_extra "lcg_off") (by rfl) (by rfl) ?_); intro i' l1; (try k_lt l1)))) | fail "row"
  trivial
theorem cname_spec (x d : Addr) (num place : Int) (aff coll : Str) (o : Obj) (rest : Led) (hx : NameAt rest x num place aff coll) (lo : (d == sysModules) = false) (hne : ∀ p ∈ rest, p.1 ≠ d) :
    SpecW 6 502 [.ref x, .ref d] ((d, o) :: rest) (fun prog w => Obj.IsDictOf (intKind prog w) o [] ∧ PyProof.V.FlatPairs PyData.int [] [])
      (fun prog w news' v => v = .none ∧ ∃ o', news' = (d, o') :: rest ∧ Obj.IsDictOf (intKind prog w) o' (stored [] num (.bool true)) ∧ PyProof.V.FlatPairs PyData.int (stored [] num (.bool true)) [(.int num, .bool true)]) := Carry.out (by exact Carry.mk : Carry ((by
  unfold SpecW
  intro prog w p loose mean mg mb dp un gd cn cs a ccd cl outer A₀ base h₀ L m s Q E hW B F X N T hk hd hu hret
  obtain ⟨hi', fi'⟩ := hW
  have q1' := NodeAt.name hx
  cases hx
  k_dflt k_extra "ktr_enter"
  k_steps
  all_goals (refine endVn (by k_asm) (by k_asm) (by k_asm) (fun _ _ F9 N9 => hret _ _ _ _ F9 (News.sub N9 (by k_extra "ktu_off1L")) ⟨rfl, _, rfl, by assumption, by assumption⟩))
  done
  : SpecW 6 502 [.ref x, .ref d] ((d, o) :: rest) (fun prog w => Obj.IsDictOf (intKind prog w) o [] ∧ PyProof.V.FlatPairs PyData.int [] []) (fun prog w news' v => v = .none ∧ ∃ o', news' = (d, o') :: rest ∧ Obj.IsDictOf (intKind prog w) o' (stored [] num (.bool true)) ∧ PyProof.V.FlatPairs PyData.int (stored [] num (.bool true)) [(.int num, .bool true)])) :))

theorem clit_spec (x d : Addr) (news : Led) (hx : LitAt news x) : SpecP 6 502 [.ref x, .ref d] news (fun v => v = .none) := Carry.out (by exact Carry.mk : Carry ((by
  unfold SpecP Spec
  intro prog w p loose mean mg mb dp un gd cn cs a ccd cl outer A₀ base h₀ L m s Q E B F X N T hk hd hu hret
  have q1' := NodeAt.lit hx
  cases hx
  k_dflt k_extra "ktr_enter"
  k_steps
  all_goals (refine endVn (by k_asm) (by k_asm) (by k_asm) (fun _ _ F9 N9 => hret _ _ _ _ F9 (News.sub N9 (by k_extra "ktu_off1L")) ⟨rfl, rfl⟩))
  done
  : SpecP 6 502 [.ref x, .ref d] news (fun v => v = .none)) :))

end

theorem clit_specu {prog9 : Program} {w9 : World} {p9 : Program} {loose9 : List Str} {mean9 : ExcName → Option Value} {mg9 mb9 : Str → Option Value} {dp9 un9 : Nat} {gd9 : Option (List Code)} {cn9 : Str} {cs9 : Scope} {a9 : Addr} {ccd9 : Value} {cl9 : List (Str × Addr)} {outer9 : List Env} {A₀9 : Around} {base9 h₀9 : Heap} {L9 : Addr} {m9 : Str → Option Value} {hh9 : Heap} {gg9 : Array GenState} {dd9 : Drawn} {tt9 : Nat} {oo9 : OsState} {Q9 E9 : Value → Shared → Prop} {A9 : Around} (x d : Addr) (news : Led) (hA9 : A9 = ktrTop dp9 un9 gd9 cn9 cs9 L9 a9 ccd9 cl9 outer9) (B9 : Below A₀9 base9 outer9 h₀9) (F9 : Fr h₀9 L9 hh9 m9) (X9 : (hd.heap_39 w9.params).In h₀9) (N9 : News h₀9 L9 hh9 news) (T9 : Top p9 loose9 mean9 mg9 mb9 h₀9) (hk9 : cs9.kind = .function) (hx : LitAt news x) (hd9 : dp9 + 6 < recursionLimit) (hu9 : un9 + 8 * 6 < cLine)
    (ret9 : ∀ h9 tk9, Fr h₀9 L9 h9 m9 → News h₀9 L9 h9 (news) → Q9 (.none) ⟨h9, gg9, dd9, tk9, oo9⟩) :
    wpAny (model prog9 w9) A9 (call (.ref 502) [.ref x, .ref d]) Q9 E9 ⟨hh9, gg9, dd9, tt9, oo9⟩ := by
  subst hA9
  refine Spec.useN B9 F9 X9 N9 T9 hk9 (clit_spec x d news hx) hd9 hu9 fun v nw8 h8 tk8 F8 N8 P8 => ?_
  obtain ⟨rfl, rfl⟩ := P8
  exact ret9  h8 tk8 F8 N8
theorem rows_collect_2 : True := by
  k_with "ocollect" => skip
  k_with "call ref" => first | (k_here; (with_reducible show wpAny _ _ (call (Value.ref 502) _) _ _ _); (with_reducible refine clit_specu _ _ _ (by k_dflt (exact rfl)) (by k_dflt (k_asm)) (by k_dflt (k_asm)) (by k_dflt (k_asm)) (by k_dflt (k_asm)) (by k_dflt (k_asm)) (by k_dflt (first | exact rfl | assumption)) (by k_dflt (first | with_reducible assumption | exact LitAt.mono (by with_reducible assumption) (by k_extra "ktu_off1L"))) (by k_dflt (k_extra "ktr_room")) (by k_dflt (k_extra "ktr_units")) ?_); intro h9 tk9 F9 N9; (try k_sweep); (try k_fold)) | fail "row"
  k_with "call ref" => first | (k_dflt (ktd_call (cname_spec _ _ _ _ _ _ _ _ (by first | with_reducible assumption | exact NameAt.mono (by with_reducible assumption) (by k_extra "ktu_off1L")) (by with_reducible assumption) (by k_extra "ktu_offL")) (by first | assumption | exact ⟨by assumption, by assumption⟩); rename_i v9 nw9 h9 tk9 F9 N9 P9; obtain ⟨e1, o9, e2, hd9, hf9⟩ := P9; subst e1 e2; (try k_sweep); (try dsimp only); (try k_fold))) | fail "row"
  trivial
theorem rows_outer_1 : True := by
  k_with "f1" => skip
  trivial
section
theorem rows_outer_2 : True := by
  k_with "exec For Name Name cons nil" => (fail_if_success k_extra "oouter"); first | ((k_here; (rename Fr _ _ _ _ => lF'); (with_unfolding_all refine' For_turns lF' ?_; k_whole))) | fail "row"
  k_with "exec For Name Tuple cons nil" => (fail_if_success k_extra "oouter"); first | ((k_here; (rename Fr _ _ _ _ => lF'); (with_unfolding_all refine' For_turns lF' ?_; k_whole))) | fail "row"
  k_with "exec For Tuple Tuple cons nil" => (fail_if_success k_extra "oouter"); first | ((k_here; (rename Fr _ _ _ _ => lF'); (with_unfolding_all refine' For_turns lF' ?_; k_whole))) | fail "row"
  k_with "exec For Name Call cons nil" => (fail_if_success k_extra "oouter"); first | ((k_here; (rename Fr _ _ _ _ => lF'); (with_unfolding_all refine' For_turns lF' ?_; k_whole))) | fail "row"
  k_with "exec For Name Attribute cons nil" => (fail_if_success k_extra "oouter"); first | ((k_here; (rename Fr _ _ _ _ => lF'); (with_unfolding_all refine' For_turns lF' ?_; k_whole))) | fail "row"
  k_with "pyIter str" => (fail_if_success k_extra "oouter"); first | ((k_here; k_dflt (refine iter_signs (by rfl) (by decide +kernel) (by k_asm) (by k_asm) ?_); intro i' l1; (try k_lt l1))) | fail "row"
  k_with "pyIter ref" => (fail_if_success k_extra "oouter"); first | ((k_here; (with_reducible show wpAny _ _ (pyIter (Value.ref _)) (fun it s₂ => TurnsAt _ _ _ _ _ _ _ _ _ it s₂) _ _); first | ((with_unfolding_all refine' iter_listTurns (by rfl) (by k_asm) (by k_asm) (by k_extra "lcg_off") (by rfl) (by rfl) ?_); intro i' l1; (try k_lt l1)) | ((with_unfolding_all refine' iter_tupTurns (by rfl) (by k_asm) (by k_asm) (by k_extra "lcg_off") (by rfl) (by rfl) ?_); intro i' l1; (try k_lt l1)))) | fail "row"
  trivial
theorem outer_spec (x : Addr) (nd : Nd) (news : Led) (hn : NodeAt news x nd) : SpecN 12 495 [.ref x] news (fun pre v => ∃ l vs c, v = .ref l ∧ (l, W.listOf vs.toArray c) ∈ pre ∧ IntsAre vs nd.num.toList) := Carry.out (by exact Carry.mk : Carry ((by
  unfold SpecN Spec
  intro prog w p loose mean mg mb dp un gd cn cs a ccd cl outer A₀ base h₀ L m s Q E B F X N T hk hd hu hret
  cases hn
  all_goals (k_dflt k_extra "ktr_enter"; k_steps)
  all_goals (rename List.Perm _ _ => hp; first | (have hp' := List.perm_singleton.mp hp; subst hp') | (have hp' := List.Perm.eq_nil hp; subst hp'))
  all_goals (refine finN hret (by k_asm) (by k_asm) (by k_asm) (by k_extra "tb_rel") (by k_extra "tb_start") ?_; exact ⟨_, _, _, rfl, by k_extra "lcg_off", by assumption⟩)
  done
  : SpecN 12 495 [.ref x] news (fun pre v => ∃ l vs c, v = .ref l ∧ (l, W.listOf vs.toArray c) ∈ pre ∧ IntsAre vs nd.num.toList)) :))

end

theorem outer_specu {prog9 : Program} {w9 : World} {p9 : Program} {loose9 : List Str} {mean9 : ExcName → Option Value} {mg9 mb9 : Str → Option Value} {dp9 un9 : Nat} {gd9 : Option (List Code)} {cn9 : Str} {cs9 : Scope} {a9 : Addr} {ccd9 : Value} {cl9 : List (Str × Addr)} {outer9 : List Env} {A₀9 : Around} {base9 h₀9 : Heap} {L9 : Addr} {m9 : Str → Option Value} {hh9 : Heap} {gg9 : Array GenState} {dd9 : Drawn} {tt9 : Nat} {oo9 : OsState} {Q9 E9 : Value → Shared → Prop} {A9 : Around} (x : Addr) (nd : Nd) (news : Led) (hA9 : A9 = ktrTop dp9 un9 gd9 cn9 cs9 L9 a9 ccd9 cl9 outer9) (B9 : Below A₀9 base9 outer9 h₀9) (F9 : Fr h₀9 L9 hh9 m9) (X9 : (hd.heap_39 w9.params).In h₀9) (N9 : News h₀9 L9 hh9 news) (T9 : Top p9 loose9 mean9 mg9 mb9 h₀9) (hk9 : cs9.kind = .function) (hn : NodeAt news x nd) (hd9 : dp9 + 12 < recursionLimit) (hu9 : un9 + 8 * 12 < cLine)
    (ret9 : ∀ pre, Fresh news pre → ∀ l vs c, ((l, W.listOf vs.toArray c) ∈ pre) → (IntsAre vs nd.num.toList) → ∀ h9 tk9, Fr h₀9 L9 h9 m9 → News h₀9 L9 h9 (pre ++ news) → Q9 (.ref l) ⟨h9, gg9, dd9, tk9, oo9⟩) :
    wpAny (model prog9 w9) A9 (call (.ref 495) [.ref x]) Q9 E9 ⟨hh9, gg9, dd9, tt9, oo9⟩ := by
  subst hA9
  refine Spec.useN B9 F9 X9 N9 T9 hk9 (outer_spec x nd news hn) hd9 hu9 fun v nw8 h8 tk8 F8 N8 P8 => ?_
  obtain ⟨pre, rfl, fr, l, vs, c, rfl, c1, c2⟩ := P8
  exact ret9 pre fr l vs c c1 c2 h8 tk8 F8 N8
theorem rows_outer_3 : True := by
  k_with "oouter" => skip
  k_with "call ref" => first | (k_here; (with_reducible show wpAny _ _ (call (Value.ref 495) _) _ _ _); (with_reducible refine outer_specu _ _ _ (by k_dflt (exact rfl)) (by k_dflt (k_asm)) (by k_dflt (k_asm)) (by k_dflt (k_asm)) (by k_dflt (k_asm)) (by k_dflt (k_asm)) (by k_dflt (first | exact rfl | assumption)) (by k_dflt (first | with_reducible assumption | exact NodeAt.mono (by with_reducible assumption) (by k_extra "ktu_off1L"))) (by k_dflt (k_extra "ktr_room")) (by k_dflt (k_extra "ktr_units")) ?_); intro pre9 fr9 l9 vs9 c9 m9 i9 h9 tk9 F9 N9; (try k_sweep); (try k_fold)) | fail "row"
  k_with "execs cons" => (fail_if_success k_extra "f2"); ((k_here; (with_reducible show wpAny _ _ _ _ _ (Shared.mk _ _ _ (_ + _) _)); (refine fold_tk (G := fun t => wpAny _ _ _ _ _ (Shared.mk _ _ _ t _)) ?_); intro tk8))
  k_with "execs cons" => (fail_if_success k_extra "f2"); ((k_here; (rename Fr _ _ _ _ => F8); (fail_if_success (fail_if_success ((try dsimp only at F8); dsimp only [two_ite] at F8))); (refine fold_fr F8 ?_); (clear F8); intro m8 F8))
  k_with "execs cons" => (fail_if_success k_extra "f2"); ((k_here; (rename News _ _ _ _ => N8); (fail_if_success (fail_if_success ((try dsimp only at N8); dsimp only [two_cons, two_app] at N8))); (refine fold_led N8 ?_); (clear N8); intro led8 N8))
  trivial
theorem notin_one {prog : Program} {w : World} {A : Around} {E : Value → Shared → Prop} {s : Shared} {h₀ : Heap} {L l : Addr} {news : Led} {vs : List Value} {c : Nat} {o : Option Int} {n : Int} {t : Tok} {Q : Value → Shared → Prop} (N : News h₀ L s.heap news) (hm : (l, W.listOf vs.toArray c) ∈ news)
    (hi : IntsAre vs o.toList) (h : Q (.bool (o != some n)) s) : wpAny (model prog w) A (compareOp .NotIn (.int n t) (.ref l)) Q E s := by
  refine notin_list_ints (News.isL N hm) hi ?_
  have e : (!(o.toList.any (· == n))) = (o != some n) := by cases o <;> simp [bne]
  rw [e]
  exact h
section
theorem rows_isfree_1 : True := by
  k_with "compareOp NotIn int ref" => (fail_if_success k_extra "oisfree"); first | ((k_here; k_dflt (refine' notin_one (by k_asm) (by k_extra "lcg_off") (by assumption) ?_; k_whole))) | fail "row"
  trivial
theorem isfree_spec (x : Addr) (nd : Nd) (num : Int) (tn : Tok) (news : Led) (hn : NodeAt news x nd) : SpecP 14 554 [.ref x, .int num tn] news (fun v => v = .bool (nd.num != some num)) := Carry.out (by exact Carry.mk : Carry ((by
  unfold SpecP Spec
  intro prog w p loose mean mg mb dp un gd cn cs a ccd cl outer A₀ base h₀ L m s Q E B F X N T hk hd hu hret
  k_dflt k_extra "ktr_enter"
  k_steps
  all_goals (refine finP hret (by k_asm) (by k_asm) (by k_asm) (by k_extra "tb_rel") ?_; exact rfl)
  done
  : SpecP 14 554 [.ref x, .int num tn] news (fun v => v = .bool (nd.num != some num))) :))

theorem isfree_spec' (x : Addr) (nd : Nd) (num : Int) (tn : Tok) (b : Bool) (news : Led) (hn : NodeAt news x nd) (hb : (nd.num != some num) = b) : SpecP 14 554 [.ref x, .int num tn] news (fun v => v = .bool b) := hb ▸ isfree_spec x nd num tn news hn
end

theorem isfree_spec'u {prog9 : Program} {w9 : World} {p9 : Program} {loose9 : List Str} {mean9 : ExcName → Option Value} {mg9 mb9 : Str → Option Value} {dp9 un9 : Nat} {gd9 : Option (List Code)} {cn9 : Str} {cs9 : Scope} {a9 : Addr} {ccd9 : Value} {cl9 : List (Str × Addr)} {outer9 : List Env} {A₀9 : Around} {base9 h₀9 : Heap} {L9 : Addr} {m9 : Str → Option Value} {hh9 : Heap} {gg9 : Array GenState} {dd9 : Drawn} {tt9 : Nat} {oo9 : OsState} {Q9 E9 : Value → Shared → Prop} {A9 : Around} (x : Addr) (nd : Nd) (num : Int) (tn : Tok) (b : Bool) (news : Led) (hA9 : A9 = ktrTop dp9 un9 gd9 cn9 cs9 L9 a9 ccd9 cl9 outer9) (B9 : Below A₀9 base9 outer9 h₀9) (F9 : Fr h₀9 L9 hh9 m9) (X9 : (hd.heap_39 w9.params).In h₀9) (N9 : News h₀9 L9 hh9 news) (T9 : Top p9 loose9 mean9 mg9 mb9 h₀9) (hk9 : cs9.kind = .function) (hn : NodeAt news x nd) (hb : (nd.num != some num) = b) (hd9 : dp9 + 14 < recursionLimit) (hu9 : un9 + 8 * 14 < cLine)
    (ret9 : ∀ h9 tk9, Fr h₀9 L9 h9 m9 → News h₀9 L9 h9 (news) → Q9 (.bool b) ⟨h9, gg9, dd9, tk9, oo9⟩) :
    wpAny (model prog9 w9) A9 (call (.ref 554) [.ref x, .int num tn]) Q9 E9 ⟨hh9, gg9, dd9, tt9, oo9⟩ := by
  subst hA9
  refine Spec.useN B9 F9 X9 N9 T9 hk9 (isfree_spec' x nd num tn b news hn hb) hd9 hu9 fun v nw8 h8 tk8 F8 N8 P8 => ?_
  obtain ⟨rfl, rfl⟩ := P8
  exact ret9  h8 tk8 F8 N8
theorem rows_isfree_2 : True := by
  k_with "oisfree" => skip
  k_with "call ref" => first | (k_here; (with_reducible show wpAny _ _ (call (Value.ref 554) _) _ _ _); (with_reducible refine isfree_spec'u _ _ _ _ _ _ (by k_dflt (exact rfl)) (by k_dflt (k_asm)) (by k_dflt (k_asm)) (by k_dflt (k_asm)) (by k_dflt (k_asm)) (by k_dflt (k_asm)) (by k_dflt (first | exact rfl | assumption)) (by k_dflt (first | with_reducible assumption | exact NodeAt.mono (by with_reducible assumption) (by k_extra "ktu_off1L"))) (by k_dflt (with_reducible assumption)) (by k_dflt (k_extra "ktr_room")) (by k_dflt (k_extra "ktr_units")) ?_); intro h9 tk9 F9 N9; (try k_sweep); (try k_fold)) | fail "row"
  trivial
section
theorem rows_explicit_1 : True := by
  k_with "exec For Name Name cons nil" => (fail_if_success k_extra "oexplicit"); first | ((k_here; (rename Fr _ _ _ _ => lF'); (with_unfolding_all refine' For_turns lF' ?_; k_whole))) | fail "row"
  k_with "exec For Name Tuple cons nil" => (fail_if_success k_extra "oexplicit"); first | ((k_here; (rename Fr _ _ _ _ => lF'); (with_unfolding_all refine' For_turns lF' ?_; k_whole))) | fail "row"
  k_with "exec For Tuple Tuple cons nil" => (fail_if_success k_extra "oexplicit"); first | ((k_here; (rename Fr _ _ _ _ => lF'); (with_unfolding_all refine' For_turns lF' ?_; k_whole))) | fail "row"
  k_with "exec For Name Call cons nil" => (fail_if_success k_extra "oexplicit"); first | ((k_here; (rename Fr _ _ _ _ => lF'); (with_unfolding_all refine' For_turns lF' ?_; k_whole))) | fail "row"
  k_with "exec For Name Attribute cons nil" => (fail_if_success k_extra "oexplicit"); first | ((k_here; (rename Fr _ _ _ _ => lF'); (with_unfolding_all refine' For_turns lF' ?_; k_whole))) | fail "row"
  k_with "pyIter str" => (fail_if_success k_extra "oexplicit"); first | ((k_here; k_dflt (refine iter_signs (by rfl) (by decide +kernel) (by k_asm) (by k_asm) ?_); intro i' l1; (try k_lt l1))) | fail "row"
  k_with "pyIter ref" => (fail_if_success k_extra "oexplicit"); first | ((k_here; (with_reducible show wpAny _ _ (pyIter (Value.ref _)) (fun it s₂ => TurnsAt _ _ _ _ _ _ _ _ _ it s₂) _ _); first | ((with_unfolding_all refine' iter_listTurns (by rfl) (by k_asm) (by k_asm) (by k_extra "lcg_off") (by rfl) (by rfl) ?_); intro i' l1; (try k_lt l1)) | ((with_unfolding_all refine' iter_tupTurns (by rfl) (by k_asm) (by k_asm) (by k_extra "lcg_off") (by rfl) (by rfl) ?_); intro i' l1; (try k_lt l1)))) | fail "row"
  trivial
theorem expl0_spec (x : Addr) (nd : Nd) (news : Led) (hn : NodeAt news x nd) (hl : nd.kids = 0) : SpecP 6 517 [.ref x] news (fun v => v = .none) := Carry.out (by exact Carry.mk : Carry ((by
  unfold SpecP Spec
  intro prog w p loose mean mg mb dp un gd cn cs a ccd cl outer A₀ base h₀ L m s Q E B F X N T hk hd hu hret
  cases hn <;> first | cases hl | skip
  all_goals (try (rename NameAt _ _ _ _ _ _ => q1; have q1' := NodeAt.name q1; cases q1))
  all_goals (try (rename LitAt _ _ => q2; have q2' := NodeAt.lit q2; cases q2))
  all_goals (k_dflt k_extra "ktr_enter"; k_steps)
  all_goals (refine finP hret (by k_asm) (by k_asm) (by k_asm) (by k_extra "tb_rel") ?_; exact rfl)
  done
  : SpecP 6 517 [.ref x] news (fun v => v = .none)) :))

section
theorem expl0_specu {prog9 : Program} {w9 : World} {p9 : Program} {loose9 : List Str} {mean9 : ExcName → Option Value} {mg9 mb9 : Str → Option Value} {dp9 un9 : Nat} {gd9 : Option (List Code)} {cn9 : Str} {cs9 : Scope} {a9 : Addr} {ccd9 : Value} {cl9 : List (Str × Addr)} {outer9 : List Env} {A₀9 : Around} {base9 h₀9 : Heap} {L9 : Addr} {m9 : Str → Option Value} {hh9 : Heap} {gg9 : Array GenState} {dd9 : Drawn} {tt9 : Nat} {oo9 : OsState} {Q9 E9 : Value → Shared → Prop} {A9 : Around} (x : Addr) (nd : Nd) (news : Led) (hA9 : A9 = ktrTop dp9 un9 gd9 cn9 cs9 L9 a9 ccd9 cl9 outer9) (B9 : Below A₀9 base9 outer9 h₀9) (F9 : Fr h₀9 L9 hh9 m9) (X9 : (hd.heap_39 w9.params).In h₀9) (N9 : News h₀9 L9 hh9 news) (T9 : Top p9 loose9 mean9 mg9 mb9 h₀9) (hk9 : cs9.kind = .function) (hn : NodeAt news x nd) (hl : nd.kids = 0) (hd9 : dp9 + 6 < recursionLimit) (hu9 : un9 + 8 * 6 < cLine)
    (ret9 : ∀ h9 tk9, Fr h₀9 L9 h9 m9 → News h₀9 L9 h9 (news) → Q9 (.none) ⟨h9, gg9, dd9, tk9, oo9⟩) :
    wpAny (model prog9 w9) A9 (call (.ref 517) [.ref x]) Q9 E9 ⟨hh9, gg9, dd9, tt9, oo9⟩ := by
  subst hA9
  refine Spec.useN B9 F9 X9 N9 T9 hk9 (expl0_spec x nd news hn hl) hd9 hu9 fun v nw8 h8 tk8 F8 N8 P8 => ?_
  obtain ⟨rfl, rfl⟩ := P8
  exact ret9  h8 tk8 F8 N8

theorem rows_explicit_2 : True := by
  k_with "call ref" => (fail_if_success k_extra "oexplicit"); first | (k_here; (with_reducible show wpAny _ _ (call (Value.ref 517) _) _ _ _); (with_reducible refine expl0_specu _ _ _ (by k_dflt (exact rfl)) (by k_dflt (k_asm)) (by k_dflt (k_asm)) (by k_dflt (k_asm)) (by k_dflt (k_asm)) (by k_dflt (k_asm)) (by k_dflt (first | exact rfl | assumption)) (by k_dflt (first | with_reducible assumption | exact NodeAt.mono (by with_reducible assumption) (by k_extra "ktu_off1L"))) (by k_dflt (rfl)) (by k_dflt (k_extra "ktr_room")) (by k_dflt (k_extra "ktr_units")) ?_); intro h9 tk9 F9 N9; (try k_sweep); (try k_fold)) | fail "row"
  trivial
theorem expl_spec (x : Addr) (nd : Nd) (news : Led) (hn : NodeAt news x nd) : SpecP 9 517 [.ref x] news (fun v => ∃ t, v = ov nd.exp t) := Carry.out (by exact Carry.mk : Carry ((by
  unfold SpecP Spec
  intro prog w p loose mean mg mb dp un gd cn cs a ccd cl outer A₀ base h₀ L m s Q E B F X N T hk hd hu hret
  by_cases hl : nd.kids = 0
  · refine Spec.use (expl0_spec x nd news hn hl) B F X N T hk (by omega) (by omega) fun v nw h' tk' F' N' P => hret _ _ _ _ F' N' ⟨P.1, 0, ?_⟩
    rw [P.2]
    cases nd <;> first | rfl | cases hl
  · cases hn <;> first | exact absurd rfl hl | skip
    all_goals (try (rename NameAt _ _ _ _ _ _ => q1; have q1' := NodeAt.name q1; cases q1))
    all_goals (try (rename LitAt _ _ => q2; have q2' := NodeAt.lit q2; cases q2))
    all_goals (k_dflt k_extra "ktr_enter"; k_steps)
    all_goals (refine finP hret (by k_asm) (by k_asm) (by k_asm) (by k_extra "tb_rel") ?_; first | exact ⟨_, rfl⟩ | exact ⟨0, rfl⟩)
  done
  : SpecP 9 517 [.ref x] news (fun v => ∃ t, v = ov nd.exp t)) :))

theorem expl_spec' (x : Addr) (nd : Nd) (o : Option Str) (news : Led) (hn : NodeAt news x nd) (ho : nd.exp = o) : SpecP 9 517 [.ref x] news (fun v => ∃ t, v = ov o t) := ho ▸ expl_spec x nd news hn
end
end

theorem expl_spec'u {prog9 : Program} {w9 : World} {p9 : Program} {loose9 : List Str} {mean9 : ExcName → Option Value} {mg9 mb9 : Str → Option Value} {dp9 un9 : Nat} {gd9 : Option (List Code)} {cn9 : Str} {cs9 : Scope} {a9 : Addr} {ccd9 : Value} {cl9 : List (Str × Addr)} {outer9 : List Env} {A₀9 : Around} {base9 h₀9 : Heap} {L9 : Addr} {m9 : Str → Option Value} {hh9 : Heap} {gg9 : Array GenState} {dd9 : Drawn} {tt9 : Nat} {oo9 : OsState} {Q9 E9 : Value → Shared → Prop} {A9 : Around} (x : Addr) (nd : Nd) (o : Option Str) (news : Led) (hA9 : A9 = ktrTop dp9 un9 gd9 cn9 cs9 L9 a9 ccd9 cl9 outer9) (B9 : Below A₀9 base9 outer9 h₀9) (F9 : Fr h₀9 L9 hh9 m9) (X9 : (hd.heap_39 w9.params).In h₀9) (N9 : News h₀9 L9 hh9 news) (T9 : Top p9 loose9 mean9 mg9 mb9 h₀9) (hk9 : cs9.kind = .function) (hn : NodeAt news x nd) (ho : nd.exp = o) (hd9 : dp9 + 9 < recursionLimit) (hu9 : un9 + 8 * 9 < cLine)
    (ret9 : ∀ t, ∀ h9 tk9, Fr h₀9 L9 h9 m9 → News h₀9 L9 h9 (news) → Q9 (ov o t) ⟨h9, gg9, dd9, tk9, oo9⟩) :
    wpAny (model prog9 w9) A9 (call (.ref 517) [.ref x]) Q9 E9 ⟨hh9, gg9, dd9, tt9, oo9⟩ := by
  subst hA9
  refine Spec.useN B9 F9 X9 N9 T9 hk9 (expl_spec' x nd o news hn ho) hd9 hu9 fun v nw8 h8 tk8 F8 N8 P8 => ?_
  obtain ⟨rfl, t, rfl⟩ := P8
  exact ret9 t h8 tk8 F8 N8
theorem rows_explicit_3 : True := by
  k_with "oexplicit" => skip
  k_with "call ref" => first | (k_here; (with_reducible show wpAny _ _ (call (Value.ref 517) _) _ _ _); (with_reducible refine expl_spec'u _ _ _ _ (by k_dflt (exact rfl)) (by k_dflt (k_asm)) (by k_dflt (k_asm)) (by k_dflt (k_asm)) (by k_dflt (k_asm)) (by k_dflt (k_asm)) (by k_dflt (first | exact rfl | assumption)) (by k_dflt (first | with_reducible assumption | exact NodeAt.mono (by with_reducible assumption) (by k_extra "ktu_off1L"))) (by k_dflt (first | with_reducible assumption | exact rfl)) (by k_dflt (k_extra "ktr_room")) (by k_dflt (k_extra "ktr_units")) ?_); intro t9 h9 tk9 F9 N9; (try dsimp only [ov_none, ov_some, Nd.exp]); (try k_sweep); (try k_fold)) | fail "row"
  trivial
section
theorem rows_cmpcoll_1 : True := by
  k_with "exec For Name Name cons nil" => (fail_if_success k_extra "ocmpcoll"); first | ((k_here; (rename Fr _ _ _ _ => lF'); (with_unfolding_all refine' For_turns lF' ?_; k_whole))) | fail "row"
  k_with "exec For Name Tuple cons nil" => (fail_if_success k_extra "ocmpcoll"); first | ((k_here; (rename Fr _ _ _ _ => lF'); (with_unfolding_all refine' For_turns lF' ?_; k_whole))) | fail "row"
  k_with "exec For Tuple Tuple cons nil" => (fail_if_success k_extra "ocmpcoll"); first | ((k_here; (rename Fr _ _ _ _ => lF'); (with_unfolding_all refine' For_turns lF' ?_; k_whole))) | fail "row"
  k_with "exec For Name Call cons nil" => (fail_if_success k_extra "ocmpcoll"); first | ((k_here; (rename Fr _ _ _ _ => lF'); (with_unfolding_all refine' For_turns lF' ?_; k_whole))) | fail "row"
  k_with "exec For Name Attribute cons nil" => (fail_if_success k_extra "ocmpcoll"); first | ((k_here; (rename Fr _ _ _ _ => lF'); (with_unfolding_all refine' For_turns lF' ?_; k_whole))) | fail "row"
  k_with "pyIter str" => (fail_if_success k_extra "ocmpcoll"); first | ((k_here; k_dflt (refine iter_signs (by rfl) (by decide +kernel) (by k_asm) (by k_asm) ?_); intro i' l1; (try k_lt l1))) | fail "row"
  k_with "pyIter ref" => (fail_if_success k_extra "ocmpcoll"); first | ((k_here; (with_reducible show wpAny _ _ (pyIter (Value.ref _)) (fun it s₂ => TurnsAt _ _ _ _ _ _ _ _ _ it s₂) _ _); first | ((with_unfolding_all refine' iter_listTurns (by rfl) (by k_asm) (by k_asm) (by k_extra "lcg_off") (by rfl) (by rfl) ?_); intro i' l1; (try k_lt l1)) | ((with_unfolding_all refine' iter_tupTurns (by rfl) (by k_asm) (by k_asm) (by k_extra "lcg_off") (by rfl) (by rfl) ?_); intro i' l1; (try k_lt l1)))) | fail "row"
  k_with "truthy str" => (fail_if_success k_extra "ocmpcoll"); first | ((k_here; k_dflt (refine truthy_coll (by with_reducible assumption) ?_))) | fail "row"
  trivial
theorem cmpcoll_spec (x y : Addr) (l r : Nd) (news : Led) (hx : NodeAt news x l) (hy : NodeAt news y r) (hc : ∀ c, r.col = some c → IsColl c) : SpecP 11 539 [.ref x, .ref y] news (fun v => ∃ t, v = .str (cmpColl l r) t) := Carry.out (by exact Carry.mk : Carry ((by
  unfold SpecP Spec
  intro prog w p loose mean mg mb dp un gd cn cs a ccd cl outer A₀ base h₀ L m s Q E B F X N T hk hd hu hret
  cases e1 : l.exp with
  | some c1 =>
    have e : cmpColl l r = c1 := by simp only [cmpColl, e1, orC]
    rw [e] at hret
    k_dflt k_extra "ktr_enter"
    k_steps
    all_goals (refine finP hret (by k_asm) (by k_asm) (by k_asm) (by k_extra "tb_rel") ?_; exact ⟨_, rfl⟩)
  | none =>
    cases e2 : r.exp with
    | some c2 =>
      have e : cmpColl l r = c2 := by simp only [cmpColl, e1, e2, orC]
      rw [e] at hret
      k_dflt k_extra "ktr_enter"
      k_steps
      all_goals (refine finP hret (by k_asm) (by k_asm) (by k_asm) (by k_extra "tb_rel") ?_; exact ⟨_, rfl⟩)
    | none =>
      cases e3 : l.col with
      | some c3 =>
        have e : cmpColl l r = c3 := by simp only [cmpColl, e1, e2, e3, orC]
        rw [e] at hret
        k_dflt k_extra "ktr_enter"
        k_steps
        all_goals (refine finP hret (by k_asm) (by k_asm) (by k_asm) (by k_extra "tb_rel") ?_; exact ⟨_, rfl⟩)
      | none =>
        cases e4 : r.col with
        | some c4 =>
          have e : cmpColl l r = c4 := by simp only [cmpColl, e1, e2, e3, e4, orC]
          rw [e] at hret
          have hc4 := hc c4 e4
          k_dflt k_extra "ktr_enter"
          k_steps
          all_goals (refine finP hret (by k_asm) (by k_asm) (by k_asm) (by k_extra "tb_rel") ?_; exact ⟨_, rfl⟩)
        | none =>
          have e : cmpColl l r = Str.ofString "binary" := by simp only [cmpColl, e1, e2, e3, e4, orC]
          rw [e] at hret
          k_dflt k_extra "ktr_enter"
          k_steps
          all_goals (refine finP hret (by k_asm) (by k_asm) (by k_asm) (by k_extra "tb_rel") ?_; exact ⟨_, rfl⟩)
  done
  : SpecP 11 539 [.ref x, .ref y] news (fun v => ∃ t, v = .str (cmpColl l r) t)) :))

end

theorem cmpcoll_specu {prog9 : Program} {w9 : World} {p9 : Program} {loose9 : List Str} {mean9 : ExcName → Option Value} {mg9 mb9 : Str → Option Value} {dp9 un9 : Nat} {gd9 : Option (List Code)} {cn9 : Str} {cs9 : Scope} {a9 : Addr} {ccd9 : Value} {cl9 : List (Str × Addr)} {outer9 : List Env} {A₀9 : Around} {base9 h₀9 : Heap} {L9 : Addr} {m9 : Str → Option Value} {hh9 : Heap} {gg9 : Array GenState} {dd9 : Drawn} {tt9 : Nat} {oo9 : OsState} {Q9 E9 : Value → Shared → Prop} {A9 : Around} (x y : Addr) (l r : Nd) (news : Led) (hA9 : A9 = ktrTop dp9 un9 gd9 cn9 cs9 L9 a9 ccd9 cl9 outer9) (B9 : Below A₀9 base9 outer9 h₀9) (F9 : Fr h₀9 L9 hh9 m9) (X9 : (hd.heap_39 w9.params).In h₀9) (N9 : News h₀9 L9 hh9 news) (T9 : Top p9 loose9 mean9 mg9 mb9 h₀9) (hk9 : cs9.kind = .function) (hx : NodeAt news x l) (hy : NodeAt news y r) (hc : ∀ c, r.col = some c → IsColl c) (hd9 : dp9 + 11 < recursionLimit) (hu9 : un9 + 8 * 11 < cLine)
    (ret9 : ∀ t, ∀ h9 tk9, Fr h₀9 L9 h9 m9 → News h₀9 L9 h9 (news) → Q9 (.str (cmpColl l r) t) ⟨h9, gg9, dd9, tk9, oo9⟩) :
    wpAny (model prog9 w9) A9 (call (.ref 539) [.ref x, .ref y]) Q9 E9 ⟨hh9, gg9, dd9, tt9, oo9⟩ := by
  subst hA9
  refine Spec.useN B9 F9 X9 N9 T9 hk9 (cmpcoll_spec x y l r news hx hy hc) hd9 hu9 fun v nw8 h8 tk8 F8 N8 P8 => ?_
  obtain ⟨rfl, t, rfl⟩ := P8
  exact ret9 t h8 tk8 F8 N8
theorem rows_cmpcoll_2 : True := by
  k_with "ocmpcoll" => skip
  k_with "call ref" => first | (k_here; (with_reducible show wpAny _ _ (call (Value.ref 539) _) _ _ _); (with_reducible refine cmpcoll_specu _ _ _ _ _ (by k_dflt (exact rfl)) (by k_dflt (k_asm)) (by k_dflt (k_asm)) (by k_dflt (k_asm)) (by k_dflt (k_asm)) (by k_dflt (k_asm)) (by k_dflt (first | exact rfl | assumption)) (by k_dflt (first | with_reducible assumption | exact NodeAt.mono (by with_reducible assumption) (by k_extra "ktu_off1L"))) (by k_dflt (first | with_reducible assumption | exact NodeAt.mono (by with_reducible assumption) (by k_extra "ktu_off1L"))) (by k_dflt (with_reducible assumption)) (by k_dflt (k_extra "ktr_room")) (by k_dflt (k_extra "ktr_units")) ?_); intro t9 h9 tk9 F9 N9; (try k_sweep); (try k_fold)) | fail "row"
  trivial
/-- a side as the law draws it: its node, and what is told of it -/
def sidePlace (nd : Nd) (num : Int) (t : Tok) : Value := match nd with
  | .name n p _ _ => if n == num then .int p t else .none
  | _ => .none
inductive SideA (news : Led) (num : Int) : Addr → Addr → Nd → Prop
  | mk {t x : Addr} {nd : Nd} {tp ta te tc : Tok} : (t, tupO [.ref x, sidePlace nd num tp, .bool (nd.num == some num), ov nd.aff ta, ov nd.exp te, ov nd.col tc]) ∈ news → NodeAt news x nd → (∀ a, nd.aff = some a → IsAff a) → (∀ c, nd.col = some c → IsColl c) → SideA news num t x nd
theorem SideA.mono {news news' : Led} {num : Int} {t x : Addr} {nd : Nd} (h : SideA news num t x nd) (hs : ∀ p ∈ news, p ∈ news') : SideA news' num t x nd := by
  cases h with | mk a b c d => exact .mk (hs _ a) (b.mono hs) c d
theorem SideA.node {news : Led} {num : Int} {t x : Addr} {nd : Nd} (h : SideA news num t x nd) : NodeAt news x nd := by cases h; assumption
theorem SideA.colOk {news : Led} {num : Int} {t x : Addr} {nd : Nd} (h : SideA news num t x nd) : ∀ c, nd.col = some c → IsColl c := by cases h; assumption
theorem side_col {news : Led} {num : Int} {t x : Addr} {nd : Nd} (h : SideA news num t x nd) (hc : isCol nd num = true) : ∃ p tp w1 w2 w3, (t, tupO [.ref x, .int p tp, .bool true, w1, w2, w3]) ∈ news := by
  cases h with | mk a b c d =>
  cases nd with
  | name n p f c' =>
    have hc' : (n == num) = true := hc
    simp only [sidePlace, hc', if_true, Nd.num] at a
    have e : (some n == some num) = true := by simpa using hc'
    rw [e] at a
    exact ⟨_, _, _, _, _, a⟩
  | _ => cases hc
theorem side_not {news : Led} {num : Int} {t x : Addr} {nd : Nd} {b : Bool} (h : SideA news num t x nd) (hc : isCol nd num = false) (hb : (nd.num == some num) = b) : ∃ w1 w2 w3, (t, tupO [.ref x, .none, .bool b, w1, w2, w3]) ∈ news := by
  cases h with | mk a _ c d =>
  rw [hb] at a
  cases nd with
  | name n p f c' =>
    have hc' : (n == num) = false := hc
    simp only [sidePlace, hc', Bool.false_eq_true, if_false] at a
    exact ⟨_, _, _, a⟩
  | _ => exact ⟨_, _, _, a⟩


def keepV (v : Value) : Bool := match v with
  | .none => false
  | _ => true
theorem keepV_eq (v : Value) : (!(v == .none)) = keepV v := by cases v <;> rfl
/-- what a comparison hands back: None or a Bound -/
inductive May (news : Led) : Value → List Bd → Prop
  | no : May news .none []
  | yes {b : Addr} {d : Bd} : BoundAt news b d.place d.op d.val d.led d.coll → May news (.ref b) [d]
theorem May.mono {news news' : Led} {v : Value} {ds : List Bd} (h : May news v ds) (hs : ∀ p ∈ news, p ∈ news') : May news' v ds := by
  cases h with
  | no => exact .no
  | yes a => exact .yes (a.mono hs)
theorem May.bds {news : Led} {v : Value} {vs : List Value} {ds es : List Bd} (h : May news v ds) (k : BdsAt news (vs.filter keepV) es) : BdsAt news ((v :: vs).filter keepV) (ds ++ es) := by
  cases h with
  | no => exact k
  | yes a => exact .cons a k
section
open LCg LCt PySem.Calls
variable {prog : Program} {w : World} {A : Around} {E : Value → Shared → Prop} {s : Shared} {h₀ : Heap} {L : Addr} {m : Str → Option Value} {env : Env}
theorem drop_rest {x : Str} {p1 p2 p3 p4 : Pos} {k0 : Nat} {cl : List (Str × Addr)} {scope : Scope} {vs : List Value} {S : Led → Prop} {Fin : List Value → Led → Prop} {news : Led}
    (hkind : scope.kind = .function) (hx : scope.names.lookup x = some .local) (hd : (x == ("__debug__" : Str)) = false) (hS : S news) :
    ∀ k i ys, k + i = vs.length → Fin (ys ++ (vs.drop i).filter keepV) news →
      CompRestT prog w A h₀ L m env (.Compare (.Name x p1) [.IsNot] [.Constant .none k0 p2] p3) (.Name x p4) x scope cl s S (fun i v => vs.toArray[i]? = some v) Fin k i ys news := by
  intro k
  induction k with
  | zero =>
    intro i ys e h
    rw [List.drop_eq_nil_of_le (by omega), List.filter_nil, List.append_nil] at h
    exact CompRestT.zero h
  | succ k ih =>
    intro i ys e h
    refine CompRestT.succ ?_
    intro v I oI C oC D m₂ h' tk E' hv hC hxv F N off ne
    have hlt : i < vs.length := by omega
    have hget : vs[i] = v := by
      have q : vs[i]? = some v := by simpa using hv
      rw [List.getElem?_eq_getElem hlt] at q
      exact Option.some.inj q
    have hdrop : vs.drop i = v :: vs.drop (i + 1) := by rw [List.drop_eq_getElem_cons hlt, hget]
    rw [hdrop] at h
    have hk' : (compEnvC scope cl C env).scope.kind = .function := by simp [compEnvC, relabel, hkind]
    have hns : h'.Ns C m₂ := hC.ns (N (C, oC) (.tail _ (.head _))).1
    refine wpAny_isTrue_Compare1 (ldVarK hns hxv (wpAny_Constant_none (isNot_none (wpAny_truthy_bool ?_))) hk' (lookup_relabel_local hx) hd)
    rw [keepV_eq]
    cases hkv : keepV v with
    | true =>
      rw [if_pos rfl]
      refine ldVarK hns hxv ?_ hk' (lookup_relabel_local hx) hd
      refine CompEnd.intro F N news (fun p hp => hp) off hS (ih (i + 1) (ys ++ [v]) (by omega) ?_)
      rw [List.filter_cons_of_pos hkv] at h
      rw [List.append_assoc]
      exact h
    | false =>
      rw [if_neg Bool.false_ne_true]
      refine CompEnd.intro F N news (fun p hp => hp) off hS (ih (i + 1) ys (by omega) ?_)
      rw [List.filter_cons_of_neg (by rw [hkv]; exact Bool.false_ne_true)] at h
      exact h
def DropSrc (A : Around) (h₀ : Heap) (L : Addr) (m : Str → Option Value) (Fin : Shared → List Value → Led → Prop) (xv : Value) (s₁ : Shared) : Prop :=
  ∃ (ax : Addr) (vs : List Value) (n : Nat) (news : Led), xv = .ref ax ∧ A.handled = none ∧ Fr h₀ L s₁.heap m ∧ News h₀ L s₁.heap news ∧ (ax, W.listOf vs.toArray n) ∈ news ∧ vs.length ≤ 12 ∧ ∀ g, Fin { s₁ with heap := g } (vs.filter keepV) news
theorem dropSrc {Fin : Shared → List Value → Led → Prop} {ax : Addr} {vs : List Value} {n : Nat} {news : Led} {s₁ : Shared} (hh : A.handled = none) (F : Fr h₀ L s₁.heap m) (N : News h₀ L s₁.heap news) (hm : (ax, W.listOf vs.toArray n) ∈ news) (hl : vs.length ≤ 12)
    (h : ∀ g, Fin { s₁ with heap := g } (vs.filter keepV) news) : DropSrc A h₀ L m Fin (.ref ax) s₁ := ⟨ax, vs, n, news, rfl, hh, F, N, hm, hl, h⟩
theorem comp_drop {iter : PySem.Expr} {x : Str} {px p1 p2 p3 p4 : Pos} {k0 : Nat} {scope : Scope} {cl : List (Str × Addr)} {pos : Pos} {Q : Value → Shared → Prop} (F₀ : Fr h₀ L s.heap m)
    (hclos : closureFor scope env = pure cl) (hcell : ∀ y ∈ scope.names, y.2 ≠ .cell) (hkind : scope.kind = .function)
    (hnames : ∀ y ∈ scope.names, y.2 = .local → scope.names.lookup y.1 = some .local) (hx : scope.names.lookup x = some .local) (hd : (x == ("__debug__" : Str)) = false)
    (h : wpAny (model prog w) A (eval iter env) (DropSrc A h₀ L m (fun s₂ => FinE h₀ L m s₂ Q)) E s)
    (hs : ∀ x, foldedSetIterable iter env x = pure x := by intro _; rfl) :
    wpAny (model prog w) A (eval (.ListComp (.Name x p4) [⟨.Name x px, iter, [.Compare (.Name x p1) [.IsNot] [.Constant .none k0 p2] p3], 0⟩] scope pos) env) Q E s := by
  refine ListComp_T F₀ hclos hcell hkind hnames hx (wpAny_mono h (fun xv s₁ h₁ => ?_) fun _ _ e => e) hs
  obtain ⟨ax, vs, n, news, rfl, hh, F, N, hm, hl, k⟩ := h₁
  have e : vs.toArray.size = vs.length := List.size_toArray
  refine CompSrcT.ledger hh F N hm (by rw [e, sizeLine_eq]; omega) fun g => ?_
  refine drop_rest hkind hx hd (.inr ⟨_, hm, rfl, _, rfl⟩) _ 0 [] (by rw [e]; rfl) ?_
  exact k g
end


section
theorem compared_spec (x y lx rx : Addr) (num place : Int) (aff coll op : Str) (to : Tok) (vn l r : Nd) (news : Led) (hx : NameAt news x num place aff coll) (hy : NodeAt news y vn) (hl : NodeAt news lx l) (hr : NodeAt news rx r) (hc : ∀ c, r.col = some c → IsColl c) :
    SpecN 16 582 [.ref x, .str op to, .ref y, .ref lx, .ref rx] news (fun pre v => match (cmpAff aff vn.aff).1 with
      | some _ => v = .none
      | none => ∃ b, v = .ref b ∧ BoundAt pre b place op (.ref y) (cmpAff aff vn.aff).2 (cmpColl l r)) := Carry.out (by exact Carry.mk : Carry ((by
  unfold SpecN Spec
  intro prog w p loose mean mg mb dp un gd cn cs a ccd cl outer A₀ base h₀ L m s Q E B F X N T hk hd hu hret
  cases hx
  cases e1 : (cmpAff aff vn.aff).1 with
  | some c1 =>
    rw [e1] at hret
    k_dflt k_extra "ktr_enter"
    k_steps
    all_goals (refine finN hret (by k_asm) (by k_asm) (by k_asm) (by k_extra "tb_rel") (by k_extra "tb_start") ?_; exact rfl)
  | none =>
    rw [e1] at hret
    k_dflt k_extra "ktr_enter"
    k_steps
    all_goals (refine finN hret (by k_asm) (by k_asm) (by k_asm) (by k_extra "tb_rel") (by k_extra "tb_start") ?_; exact ⟨_, rfl, .mk (by k_extra "lcg_off") (by k_extra "lcg_off")⟩)
  done
  : SpecN 16 582 [.ref x, .str op to, .ref y, .ref lx, .ref rx] news (fun pre v => match (cmpAff aff vn.aff).1 with | some _ => v = .none | none => ∃ b, v = .ref b ∧ BoundAt pre b place op (.ref y) (cmpAff aff vn.aff).2 (cmpColl l r))) :))

theorem compared_may (x y lx rx : Addr) (num place : Int) (aff coll op : Str) (to : Tok) (vn l r : Nd) (news : Led) (hx : NameAt news x num place aff coll) (hy : NodeAt news y vn) (hl : NodeAt news lx l) (hr : NodeAt news rx r) (hc : ∀ c, r.col = some c → IsColl c) :
    SpecN 16 582 [.ref x, .str op to, .ref y, .ref lx, .ref rx] news (fun pre v => May pre v (oneBound aff place vn op (.ref y) (cmpColl l r))) := by
  have h := compared_spec x y lx rx num place aff coll op to vn l r news hx hy hl hr hc
  unfold SpecN Spec at h ⊢
  intro prog w p loose mean mg mb dp un gd cn cs a ccd cl outer A₀ base h₀ L m s Q E B F X N T hk hd hu hret
  refine h prog w p loose mean mg mb dp un gd cn cs a ccd cl outer A₀ base h₀ L m s Q E B F X N T hk hd hu fun v nw h' tk' F' N' P => hret v nw h' tk' F' N' ?_
  obtain ⟨pre, e, fr, P⟩ := P
  refine ⟨pre, e, fr, ?_⟩
  unfold oneBound
  cases e1 : (cmpAff aff vn.aff).1 with
  | some c => rw [e1] at P; subst P; exact .no
  | none =>
    rw [e1] at P
    obtain ⟨b, rfl, hb⟩ := P
    exact .yes hb
end

theorem compared_mayu {prog9 : Program} {w9 : World} {p9 : Program} {loose9 : List Str} {mean9 : ExcName → Option Value} {mg9 mb9 : Str → Option Value} {dp9 un9 : Nat} {gd9 : Option (List Code)} {cn9 : Str} {cs9 : Scope} {a9 : Addr} {ccd9 : Value} {cl9 : List (Str × Addr)} {outer9 : List Env} {A₀9 : Around} {base9 h₀9 : Heap} {L9 : Addr} {m9 : Str → Option Value} {hh9 : Heap} {gg9 : Array GenState} {dd9 : Drawn} {tt9 : Nat} {oo9 : OsState} {Q9 E9 : Value → Shared → Prop} {A9 : Around} (x y lx rx : Addr) (num place : Int) (aff coll op : Str) (to : Tok) (vn l r : Nd) (news : Led) (hA9 : A9 = ktrTop dp9 un9 gd9 cn9 cs9 L9 a9 ccd9 cl9 outer9) (B9 : Below A₀9 base9 outer9 h₀9) (F9 : Fr h₀9 L9 hh9 m9) (X9 : (hd.heap_39 w9.params).In h₀9) (N9 : News h₀9 L9 hh9 news) (T9 : Top p9 loose9 mean9 mg9 mb9 h₀9) (hk9 : cs9.kind = .function) (hx : NameAt news x num place aff coll) (hy : NodeAt news y vn) (hl : NodeAt news lx l) (hr : NodeAt news rx r) (hc : ∀ c, r.col = some c → IsColl c) (hd9 : dp9 + 16 < recursionLimit) (hu9 : un9 + 8 * 16 < cLine)
    (ret9 : ∀ pre, Fresh news pre → ∀ v, (May pre v (oneBound aff place vn op (.ref y) (cmpColl l r))) → ∀ h9 tk9, Fr h₀9 L9 h9 m9 → News h₀9 L9 h9 (pre ++ news) → Q9 (v) ⟨h9, gg9, dd9, tk9, oo9⟩) :
    wpAny (model prog9 w9) A9 (call (.ref 582) [.ref x, .str op to, .ref y, .ref lx, .ref rx]) Q9 E9 ⟨hh9, gg9, dd9, tt9, oo9⟩ := by
  subst hA9
  refine Spec.useN B9 F9 X9 N9 T9 hk9 (compared_may x y lx rx num place aff coll op to vn l r news hx hy hl hr hc) hd9 hu9 fun v nw8 h8 tk8 F8 N8 P8 => ?_
  obtain ⟨pre, rfl, fr, c0⟩ := P8
  exact ret9 pre fr v c0 h8 tk8 F8 N8
theorem rows_compared_1 : True := by
  k_with "call ref" => first | (k_here; (with_reducible show wpAny _ _ (call (Value.ref 582) _) _ _ _); (with_reducible refine compared_mayu _ _ _ _ _ _ _ _ _ _ _ _ _ _ (by k_dflt (exact rfl)) (by k_dflt (k_asm)) (by k_dflt (k_asm)) (by k_dflt (k_asm)) (by k_dflt (k_asm)) (by k_dflt (k_asm)) (by k_dflt (first | exact rfl | assumption)) (by k_dflt (first | with_reducible assumption | exact NameAt.mono (by with_reducible assumption) (by k_extra "ktu_off1L"))) (by k_dflt (first | with_reducible assumption | exact NodeAt.mono (by with_reducible assumption) (by k_extra "ktu_off1L"))) (by k_dflt (first | with_reducible assumption | exact NodeAt.mono (by with_reducible assumption) (by k_extra "ktu_off1L"))) (by k_dflt (first | with_reducible assumption | exact NodeAt.mono (by with_reducible assumption) (by k_extra "ktu_off1L"))) (by k_dflt (with_reducible assumption)) (by k_dflt (k_extra "ktr_room")) (by k_dflt (k_extra "ktr_units")) ?_); intro pre9 fr9 v9 B9 h9 tk9 F9 N9; (try k_sweep); (try k_fold)) | fail "row"
  trivial
section
theorem rows_cmpbounds_1 : True := by
  k_with "exec For Name Name cons nil" => (fail_if_success k_extra "ocmpbounds"); first | ((k_here; (rename Fr _ _ _ _ => lF'); (with_unfolding_all refine' For_turns lF' ?_; k_whole))) | fail "row"
  k_with "exec For Name Tuple cons nil" => (fail_if_success k_extra "ocmpbounds"); first | ((k_here; (rename Fr _ _ _ _ => lF'); (with_unfolding_all refine' For_turns lF' ?_; k_whole))) | fail "row"
  k_with "exec For Tuple Tuple cons nil" => (fail_if_success k_extra "ocmpbounds"); first | ((k_here; (rename Fr _ _ _ _ => lF'); (with_unfolding_all refine' For_turns lF' ?_; k_whole))) | fail "row"
  k_with "exec For Name Call cons nil" => (fail_if_success k_extra "ocmpbounds"); first | ((k_here; (rename Fr _ _ _ _ => lF'); (with_unfolding_all refine' For_turns lF' ?_; k_whole))) | fail "row"
  k_with "exec For Name Attribute cons nil" => (fail_if_success k_extra "ocmpbounds"); first | ((k_here; (rename Fr _ _ _ _ => lF'); (with_unfolding_all refine' For_turns lF' ?_; k_whole))) | fail "row"
  k_with "pyIter str" => (fail_if_success k_extra "ocmpbounds"); first | ((k_here; k_dflt (refine iter_signs (by rfl) (by decide +kernel) (by k_asm) (by k_asm) ?_); intro i' l1; (try k_lt l1))) | fail "row"
  k_with "pyIter ref" => (fail_if_success k_extra "ocmpbounds"); first | ((k_here; (with_reducible show wpAny _ _ (pyIter (Value.ref _)) (fun it s₂ => TurnsAt _ _ _ _ _ _ _ _ _ it s₂) _ _); first | ((with_unfolding_all refine' iter_listTurns (by rfl) (by k_asm) (by k_asm) (by k_extra "lcg_off") (by rfl) (by rfl) ?_); intro i' l1; (try k_lt l1)) | ((with_unfolding_all refine' iter_tupTurns (by rfl) (by k_asm) (by k_asm) (by k_extra "lcg_off") (by rfl) (by rfl) ?_); intro i' l1; (try k_lt l1)))) | fail "row"
  k_with "eval ListComp" => (fail_if_success k_extra "ocmpbounds"); first | ((k_here; k_dflt (refine comp_drop (by k_asm) (by rfl) (by decide) (by rfl) (by decide) (by rfl) (by decide) ?_))) | fail "row"
  k_with "DropSrc" => (fail_if_success k_extra "ocmpbounds"); first | ((k_here; k_dflt (refine' dropSrc (by rfl) (by k_asm) (by k_asm) (by k_extra "lcg_off") (by exact Nat.le_of_ble_eq_true rfl) ?_); intro g')) | fail "row"
  trivial
open PySem.Calls in
theorem turned_item {prog : Program} {w : World} {A : Around} {E : Value → Shared → Prop} {s : Shared} {h₀ : Heap} {L : Addr} {m : Str → Option Value} {value slice : PySem.Expr} {op : Str} {t : Tok} {Q : Value → Shared → Prop}
    (F : Fr h₀ L s.heap m) (X : (hd.heap_39 w.params).In h₀) (hop : IsOp op) (h : ∀ u, Q (.str (turnOp op) u) { s with toks := s.toks + 1 })
    (hs : subscripted slice false (.ref 540) (.str op t) = operate [.ref 540, .str op t] (getItem (.ref 540) (.str op t)) := by with_unfolding_all rfl) :
    wpAny (model prog w) A (subscriptTail value slice (.ref 540) (.str op t)) Q E s := by
  rcases hop with rfl | rfl | rfl | rfl | rfl
  all_goals (refine topItem_K F X (by k_is) (by k_keys) (by k_is) (h _) hs)
theorem rows_cmpbounds_2 : True := by
  k_with "subscriptTail" => (fail_if_success k_extra "ocmpbounds"); first | ((k_here; (with_reducible show wpAny _ _ (subscriptTail _ _ (Value.ref 540) (Value.str _ _)) _ _ _); k_dflt (refine' turned_item (by k_asm) (by k_asm) (by with_reducible assumption) ?_; k_whole); intro u9)) | fail "row"
  k_with "subscriptTail Name" => (fail_if_success k_extra "ocmpbounds"); first | ((k_here; (with_reducible show wpAny _ _ (subscriptTail _ _ (Value.ref 540) (Value.str _ _)) _ _ _); k_dflt (refine' turned_item (by k_asm) (by k_asm) (by with_reducible assumption) ?_; k_whole); intro u9)) | fail "row"
  k_with "subscriptTail Subscript" => (fail_if_success k_extra "ocmpbounds"); first | ((k_here; (with_reducible show wpAny _ _ (subscriptTail _ _ (Value.ref 540) (Value.str _ _)) _ _ _); k_dflt (refine' turned_item (by k_asm) (by k_asm) (by with_reducible assumption) ?_; k_whole); intro u9)) | fail "row"
  k_with "subscriptTail Attribute" => (fail_if_success k_extra "ocmpbounds"); first | ((k_here; (with_reducible show wpAny _ _ (subscriptTail _ _ (Value.ref 540) (Value.str _ _)) _ _ _); k_dflt (refine' turned_item (by k_asm) (by k_asm) (by with_reducible assumption) ?_; k_whole); intro u9)) | fail "row"
  trivial
theorem free_of_col {nd : Nd} {num : Int} (h : isCol nd num = true) : (nd.num != some num) = false := by
  cases nd with
  | name n p a c => simp only [isCol, beq_iff_eq] at h; subst h; simp [Nd.num]
  | _ => cases h
theorem cb0 {num : Int} {op : Str} {l r : Nd} {lx rx : Addr} (h1 : isCol l num = true → (r.num != some num) = false) (h2 : isCol r num = true → (l.num != some num) = false) : cmpBounds num op l r lx rx = [] := by
  cases l with
  | name n1 p1 a1 c1 => cases r with
    | name n2 p2 a2 c2 =>
      by_cases e1 : n1 = num
      · subst e1
        have h := h1 (by simp [isCol])
        simp only [cmpBounds, beq_self_eq_true, if_true, h, Bool.false_eq_true, if_false]
      · by_cases e2 : n2 = num
        · subst e2
          have h := h2 (by simp [isCol])
          simp [Nd.num, e1] at h
        · simp [cmpBounds, e1, e2]
    | _ => simp_all [cmpBounds, isCol, Nd.num]
  | _ => cases r <;> simp_all [cmpBounds, isCol, Nd.num]
theorem cb1 {num n p : Int} {op a c : Str} {r : Nd} {lx rx : Addr} (hA : isCol (.name n p a c) num = true) (hB : (r.num != some num) = true) : cmpBounds num op (.name n p a c) r lx rx = oneBound a p r op (.ref rx) (cmpColl (.name n p a c) r) := by
  simp only [isCol] at hA
  cases r <;> simp only [cmpBounds, hA, hB, if_true]
theorem cb2 {num n p : Int} {op a c : Str} {l : Nd} {lx rx : Addr} (hC : isCol (.name n p a c) num = true) (hA : isCol l num = false) (hD : (l.num != some num) = true) : cmpBounds num op l (.name n p a c) lx rx = oneBound a p l (turnOp op) (.ref lx) (cmpColl l (.name n p a c)) := by
  simp only [isCol] at hC
  cases l <;> simp_all [cmpBounds, isCol, Nd.num]
theorem cmpbounds_spec (x dx lx rx : Addr) (num : Int) (op : Str) (h1 h2 h3 : Int) (t1 t2 t3 to tn : Tok) (l r : Nd) (news : Led) (m1 : (x, instObj 168 dx) ∈ news) (m2 : (dx, dictOf [ent h1 "op" t1 (.str op to), ent h2 "left" t2 (.ref lx), ent h3 "right" t3 (.ref rx)] 3) ∈ news)
    (hl : NodeAt news lx l) (hr : NodeAt news rx r) (hop : IsOp op) (hcl : ∀ c, l.col = some c → IsColl c) (hcr : ∀ c, r.col = some c → IsColl c) :
    SpecN 20 587 [.ref x, .int num tn] news (fun pre v => ∃ q vs n, v = .ref q ∧ (q, W.listOf vs.toArray n) ∈ pre ∧ BdsAt pre vs (cmpBounds num op l r lx rx)) := Carry.out (by exact Carry.mk : Carry ((by
  unfold SpecN Spec
  intro prog w p loose mean mg mb dp un gd cn cs a ccd cl outer A₀ base h₀ L m s Q E B F X N T hk hd hu hret
  cases hA : isCol l num with
  | true =>
    cases hB : (r.num != some num) with
    | true =>
      have hC : isCol r num = false := by
        cases h : isCol r num with
        | false => rfl
        | true => rw [free_of_col h] at hB; cases hB
      cases hl with
      | name q1 =>
        have hl := NodeAt.name q1
        rw [cb1 hA hB] at hret
        (k_dflt k_extra "ktr_enter"; k_steps)

        all_goals (refine finN hret (by k_asm) (by k_asm) (by k_asm) (by k_extra "tb_rel") (by k_extra "tb_start") ?_; refine ⟨_, _, _, rfl, by k_extra "lcg_off", ?_⟩; rw [← List.append_nil (oneBound _ _ _ _ _ _)]; exact May.bds (May.mono (by with_reducible assumption) (by k_extra "ktu_off1L")) .nil)
      | _ => cases hA
    | false =>
      have hD : (l.num != some num) = false := free_of_col hA
      rw [cb0 (fun _ => hB) (fun _ => hD)] at hret
      cases hC : isCol r num with
      | true =>
        (k_dflt k_extra "ktr_enter"; k_steps)
        all_goals (refine finN hret (by k_asm) (by k_asm) (by k_asm) (by k_extra "tb_rel") (by k_extra "tb_start") ?_; exact ⟨_, _, _, rfl, by k_extra "lcg_off", .nil⟩)
      | false =>
        (k_dflt k_extra "ktr_enter"; k_steps)
        all_goals (refine finN hret (by k_asm) (by k_asm) (by k_asm) (by k_extra "tb_rel") (by k_extra "tb_start") ?_; exact ⟨_, _, _, rfl, by k_extra "lcg_off", .nil⟩)
  | false =>
    cases hC : isCol r num with
    | false =>
      rw [cb0 (fun h => absurd h (by rw [hA]; exact Bool.false_ne_true)) (fun h => absurd h (by rw [hC]; exact Bool.false_ne_true))] at hret
      (k_dflt k_extra "ktr_enter"; k_steps)
      all_goals (refine finN hret (by k_asm) (by k_asm) (by k_asm) (by k_extra "tb_rel") (by k_extra "tb_start") ?_; exact ⟨_, _, _, rfl, by k_extra "lcg_off", .nil⟩)
    | true =>
      cases hD : (l.num != some num) with
      | false =>
        rw [cb0 (fun h => absurd h (by rw [hA]; exact Bool.false_ne_true)) (fun _ => hD)] at hret
        (k_dflt k_extra "ktr_enter"; k_steps)
        all_goals (refine finN hret (by k_asm) (by k_asm) (by k_asm) (by k_extra "tb_rel") (by k_extra "tb_start") ?_; exact ⟨_, _, _, rfl, by k_extra "lcg_off", .nil⟩)
      | true =>
        cases hr with
        | name q1 =>
          have hr := NodeAt.name q1
          rw [cb2 hC hA hD] at hret
          (k_dflt k_extra "ktr_enter"; k_steps)
          all_goals (refine finN hret (by k_asm) (by k_asm) (by k_asm) (by k_extra "tb_rel") (by k_extra "tb_start") ?_; refine ⟨_, _, _, rfl, by k_extra "lcg_off", ?_⟩; rw [← List.append_nil (oneBound _ _ _ _ _ _)]; exact May.bds (May.mono (by with_reducible assumption) (by k_extra "ktu_off1L")) .nil)
        | _ => cases hC
  done
  : SpecN 20 587 [.ref x, .int num tn] news (fun pre v => ∃ q vs n, v = .ref q ∧ (q, W.listOf vs.toArray n) ∈ pre ∧ BdsAt pre vs (cmpBounds num op l r lx rx))) :))

end

theorem cmpbounds_specu {prog9 : Program} {w9 : World} {p9 : Program} {loose9 : List Str} {mean9 : ExcName → Option Value} {mg9 mb9 : Str → Option Value} {dp9 un9 : Nat} {gd9 : Option (List Code)} {cn9 : Str} {cs9 : Scope} {a9 : Addr} {ccd9 : Value} {cl9 : List (Str × Addr)} {outer9 : List Env} {A₀9 : Around} {base9 h₀9 : Heap} {L9 : Addr} {m9 : Str → Option Value} {hh9 : Heap} {gg9 : Array GenState} {dd9 : Drawn} {tt9 : Nat} {oo9 : OsState} {Q9 E9 : Value → Shared → Prop} {A9 : Around} (x dx lx rx : Addr) (num : Int) (op : Str) (h1 h2 h3 : Int) (t1 t2 t3 to tn : Tok) (l r : Nd) (news : Led) (hA9 : A9 = ktrTop dp9 un9 gd9 cn9 cs9 L9 a9 ccd9 cl9 outer9) (B9 : Below A₀9 base9 outer9 h₀9) (F9 : Fr h₀9 L9 hh9 m9) (X9 : (hd.heap_39 w9.params).In h₀9) (N9 : News h₀9 L9 hh9 news) (T9 : Top p9 loose9 mean9 mg9 mb9 h₀9) (hk9 : cs9.kind = .function) (m1 : (x, instObj 168 dx) ∈ news) (m2 : (dx, dictOf [ent h1 "op" t1 (.str op to), ent h2 "left" t2 (.ref lx), ent h3 "right" t3 (.ref rx)] 3) ∈ news) (hl : NodeAt news lx l) (hr : NodeAt news rx r) (hop : IsOp op) (hcl : ∀ c, l.col = some c → IsColl c) (hcr : ∀ c, r.col = some c → IsColl c) (hd9 : dp9 + 20 < recursionLimit) (hu9 : un9 + 8 * 20 < cLine)
    (ret9 : ∀ pre, Fresh news pre → ∀ q vs n, ((q, W.listOf vs.toArray n) ∈ pre) → (BdsAt pre vs (cmpBounds num op l r lx rx)) → ∀ h9 tk9, Fr h₀9 L9 h9 m9 → News h₀9 L9 h9 (pre ++ news) → Q9 (.ref q) ⟨h9, gg9, dd9, tk9, oo9⟩) :
    wpAny (model prog9 w9) A9 (call (.ref 587) [.ref x, .int num tn]) Q9 E9 ⟨hh9, gg9, dd9, tt9, oo9⟩ := by
  subst hA9
  refine Spec.useN B9 F9 X9 N9 T9 hk9 (cmpbounds_spec x dx lx rx num op h1 h2 h3 t1 t2 t3 to tn l r news m1 m2 hl hr hop hcl hcr) hd9 hu9 fun v nw8 h8 tk8 F8 N8 P8 => ?_
  obtain ⟨pre, rfl, fr, q, vs, n, rfl, c1, c2⟩ := P8
  exact ret9 pre fr q vs n c1 c2 h8 tk8 F8 N8
theorem rows_cmpbounds_3 : True := by
  k_with "ocmpbounds" => skip
  k_with "call ref" => first | (k_here; (with_reducible show wpAny _ _ (call (Value.ref 587) _) _ _ _); (with_reducible refine cmpbounds_specu _ _ _ _ _ _ _ _ _ _ _ _ _ _ _ _ _ (by k_dflt (exact rfl)) (by k_dflt (k_asm)) (by k_dflt (k_asm)) (by k_dflt (k_asm)) (by k_dflt (k_asm)) (by k_dflt (k_asm)) (by k_dflt (first | exact rfl | assumption)) (by k_dflt (k_extra "lcg_off")) (by k_dflt (k_extra "lcg_off")) (by k_dflt (first | with_reducible assumption | exact NodeAt.mono (by with_reducible assumption) (by k_extra "ktu_off1L"))) (by k_dflt (first | with_reducible assumption | exact NodeAt.mono (by with_reducible assumption) (by k_extra "ktu_off1L"))) (by k_dflt (with_reducible assumption)) (by k_dflt (with_reducible assumption)) (by k_dflt (with_reducible assumption)) (by k_dflt (k_extra "ktr_room")) (by k_dflt (k_extra "ktr_units")) ?_); intro pre9 fr9 q9 vs9 n9 m9 B9 h9 tk9 F9 N9; (try k_sweep); (try k_fold)) | fail "row"
  trivial
def btwBounds (num : Int) (ng : Bool) (v lo hi : Nd) (lx hx : Addr) : List Bd := if ng then [] else match v with
  | .name n p a c => if n == num then (if lo.num != some num then oneBound a p lo (Str.ofString ">=") (.ref lx) (cmpColl (.name n p a c) lo) else []) ++ (if hi.num != some num then oneBound a p hi (Str.ofString "<=") (.ref hx) (cmpColl (.name n p a c) hi) else []) else []
  | _ => []
section
theorem rows_between_1 : True := by
  k_with "exec For Name Name cons nil" => (fail_if_success k_extra "obetween"); first | ((k_here; (rename Fr _ _ _ _ => lF'); (with_unfolding_all refine' For_turns lF' ?_; k_whole))) | fail "row"
  k_with "exec For Name Tuple cons nil" => (fail_if_success k_extra "obetween"); first | ((k_here; (rename Fr _ _ _ _ => lF'); (with_unfolding_all refine' For_turns lF' ?_; k_whole))) | fail "row"
  k_with "exec For Tuple Tuple cons nil" => (fail_if_success k_extra "obetween"); first | ((k_here; (rename Fr _ _ _ _ => lF'); (with_unfolding_all refine' For_turns lF' ?_; k_whole))) | fail "row"
  k_with "exec For Name Call cons nil" => (fail_if_success k_extra "obetween"); first | ((k_here; (rename Fr _ _ _ _ => lF'); (with_unfolding_all refine' For_turns lF' ?_; k_whole))) | fail "row"
  k_with "exec For Name Attribute cons nil" => (fail_if_success k_extra "obetween"); first | ((k_here; (rename Fr _ _ _ _ => lF'); (with_unfolding_all refine' For_turns lF' ?_; k_whole))) | fail "row"
  k_with "pyIter str" => (fail_if_success k_extra "obetween"); first | ((k_here; k_dflt (refine iter_signs (by rfl) (by decide +kernel) (by k_asm) (by k_asm) ?_); intro i' l1; (try k_lt l1))) | fail "row"
  k_with "pyIter ref" => (fail_if_success k_extra "obetween"); first | ((k_here; (with_reducible show wpAny _ _ (pyIter (Value.ref _)) (fun it s₂ => TurnsAt _ _ _ _ _ _ _ _ _ it s₂) _ _); first | ((with_unfolding_all refine' iter_listTurns (by rfl) (by k_asm) (by k_asm) (by k_extra "lcg_off") (by rfl) (by rfl) ?_); intro i' l1; (try k_lt l1)) | ((with_unfolding_all refine' iter_tupTurns (by rfl) (by k_asm) (by k_asm) (by k_extra "lcg_off") (by rfl) (by rfl) ?_); intro i' l1; (try k_lt l1)))) | fail "row"
  k_with "eval ListComp" => (fail_if_success k_extra "obetween"); first | ((k_here; k_dflt (refine comp_drop (by k_asm) (by rfl) (by decide) (by rfl) (by decide) (by rfl) (by decide) ?_))) | fail "row"
  k_with "DropSrc" => (fail_if_success k_extra "obetween"); first | ((k_here; k_dflt (refine' dropSrc (by rfl) (by k_asm) (by k_asm) (by k_extra "lcg_off") (by exact Nat.le_of_ble_eq_true rfl) ?_); intro g')) | fail "row"
  trivial
theorem between_spec (x dx vx lx hx : Addr) (num : Int) (ng : Bool) (h1 h2 h3 h4 : Int) (t1 t2 t3 t4 tn : Tok) (v lo hi : Nd) (news : Led) (m1 : (x, instObj 194 dx) ∈ news) (m2 : (dx, dictOf [ent h1 "value" t1 (.ref vx), ent h2 "low" t2 (.ref lx), ent h3 "high" t3 (.ref hx), ent h4 "negated" t4 (.bool ng)] 4) ∈ news)
    (hv : NodeAt news vx v) (hl : NodeAt news lx lo) (hh : NodeAt news hx hi) (hcl : ∀ c, lo.col = some c → IsColl c) (hch : ∀ c, hi.col = some c → IsColl c) :
    SpecN 20 592 [.ref x, .int num tn] news (fun pre v' => ∃ q vs n, v' = .ref q ∧ (q, W.listOf vs.toArray n) ∈ pre ∧ BdsAt pre vs (btwBounds num ng v lo hi lx hx)) := Carry.out (by exact Carry.mk : Carry ((by
  unfold SpecN Spec
  intro prog w p loose mean mg mb dp un gd cn cs a ccd cl outer A₀ base h₀ L m s Q E B F X N T hk hd hu hret
  cases ng with
  | true =>
    simp only [btwBounds, if_true] at hret
    (k_dflt k_extra "ktr_enter"; k_steps)
    all_goals (refine finN hret (by k_asm) (by k_asm) (by k_asm) (by k_extra "tb_rel") (by k_extra "tb_start") ?_; exact ⟨_, [], _, rfl, by k_extra "lcg_off", .nil⟩)
  | false =>
    cases hA : isCol v num with
    | false =>
      have e : btwBounds num false v lo hi lx hx = [] := by
        cases v <;> simp_all [btwBounds, isCol]
      rw [e] at hret
      (k_dflt k_extra "ktr_enter"; k_steps)
      all_goals (refine finN hret (by k_asm) (by k_asm) (by k_asm) (by k_extra "tb_rel") (by k_extra "tb_start") ?_; exact ⟨_, [], _, rfl, by k_extra "lcg_off", .nil⟩)
    | true =>
      cases hv with
      | name q1 =>
        have hv := NodeAt.name q1
        have hA' := hA
        simp only [isCol] at hA'
        simp only [btwBounds, Bool.false_eq_true, if_false, hA', if_true] at hret
        cases hB : (lo.num != some num) with
        | false =>
          simp only [hB, Bool.false_eq_true, if_false, List.nil_append] at hret
          cases hC : (hi.num != some num) with
          | false =>
            simp only [hC, Bool.false_eq_true, if_false, List.nil_append] at hret
            (k_dflt k_extra "ktr_enter"; k_steps)
            all_goals (refine finN hret (by k_asm) (by k_asm) (by k_asm) (by k_extra "tb_rel") (by k_extra "tb_start") ?_; exact ⟨_, _, _, rfl, by k_extra "lcg_off", .nil⟩)
          | true =>
            simp only [hC, if_true] at hret
            (k_dflt k_extra "ktr_enter"; k_steps)
            all_goals (refine finN hret (by k_asm) (by k_asm) (by k_asm) (by k_extra "tb_rel") (by k_extra "tb_start") ?_; refine ⟨_, _, _, rfl, by k_extra "lcg_off", ?_⟩; rw [← List.append_nil (oneBound _ _ _ _ _ _)]; exact May.bds (May.mono (by with_reducible assumption) (by k_extra "ktu_off1L")) .nil)
        | true =>
          simp only [hB, if_true] at hret
          cases hC : (hi.num != some num) with
          | false =>
            simp only [hC, Bool.false_eq_true, if_false, List.append_nil] at hret
            (k_dflt k_extra "ktr_enter"; k_steps)
            all_goals (refine finN hret (by k_asm) (by k_asm) (by k_asm) (by k_extra "tb_rel") (by k_extra "tb_start") ?_; refine ⟨_, _, _, rfl, by k_extra "lcg_off", ?_⟩; rw [← List.append_nil (oneBound _ _ _ _ _ _)]; exact May.bds (May.mono (by with_reducible assumption) (by k_extra "ktu_off1L")) .nil)
          | true =>
            simp only [hC, if_true] at hret
            (k_dflt k_extra "ktr_enter"; k_steps)
            all_goals (refine finN hret (by k_asm) (by k_asm) (by k_asm) (by k_extra "tb_rel") (by k_extra "tb_start") ?_; refine ⟨_, _, _, rfl, by k_extra "lcg_off", ?_⟩; exact May.bds (May.mono (by with_reducible assumption) (by k_extra "ktu_off1L")) (by rw [← List.append_nil (oneBound _ _ _ _ _ _)]; exact May.bds (May.mono (by with_reducible assumption) (by k_extra "ktu_off1L")) .nil))
      | _ => cases hA
  done
  : SpecN 20 592 [.ref x, .int num tn] news (fun pre v' => ∃ q vs n, v' = .ref q ∧ (q, W.listOf vs.toArray n) ∈ pre ∧ BdsAt pre vs (btwBounds num ng v lo hi lx hx))) :))

end

theorem between_specu {prog9 : Program} {w9 : World} {p9 : Program} {loose9 : List Str} {mean9 : ExcName → Option Value} {mg9 mb9 : Str → Option Value} {dp9 un9 : Nat} {gd9 : Option (List Code)} {cn9 : Str} {cs9 : Scope} {a9 : Addr} {ccd9 : Value} {cl9 : List (Str × Addr)} {outer9 : List Env} {A₀9 : Around} {base9 h₀9 : Heap} {L9 : Addr} {m9 : Str → Option Value} {hh9 : Heap} {gg9 : Array GenState} {dd9 : Drawn} {tt9 : Nat} {oo9 : OsState} {Q9 E9 : Value → Shared → Prop} {A9 : Around} (x dx vx lx hx : Addr) (num : Int) (ng : Bool) (h1 h2 h3 h4 : Int) (t1 t2 t3 t4 tn : Tok) (v lo hi : Nd) (news : Led) (hA9 : A9 = ktrTop dp9 un9 gd9 cn9 cs9 L9 a9 ccd9 cl9 outer9) (B9 : Below A₀9 base9 outer9 h₀9) (F9 : Fr h₀9 L9 hh9 m9) (X9 : (hd.heap_39 w9.params).In h₀9) (N9 : News h₀9 L9 hh9 news) (T9 : Top p9 loose9 mean9 mg9 mb9 h₀9) (hk9 : cs9.kind = .function) (m1 : (x, instObj 194 dx) ∈ news) (m2 : (dx, dictOf [ent h1 "value" t1 (.ref vx), ent h2 "low" t2 (.ref lx), ent h3 "high" t3 (.ref hx), ent h4 "negated" t4 (.bool ng)] 4) ∈ news) (hv : NodeAt news vx v) (hl : NodeAt news lx lo) (hh : NodeAt news hx hi) (hcl : ∀ c, lo.col = some c → IsColl c) (hch : ∀ c, hi.col = some c → IsColl c) (hd9 : dp9 + 20 < recursionLimit) (hu9 : un9 + 8 * 20 < cLine)
    (ret9 : ∀ pre, Fresh news pre → ∀ q vs n, ((q, W.listOf vs.toArray n) ∈ pre) → (BdsAt pre vs (btwBounds num ng v lo hi lx hx)) → ∀ h9 tk9, Fr h₀9 L9 h9 m9 → News h₀9 L9 h9 (pre ++ news) → Q9 (.ref q) ⟨h9, gg9, dd9, tk9, oo9⟩) :
    wpAny (model prog9 w9) A9 (call (.ref 592) [.ref x, .int num tn]) Q9 E9 ⟨hh9, gg9, dd9, tt9, oo9⟩ := by
  subst hA9
  refine Spec.useN B9 F9 X9 N9 T9 hk9 (between_spec x dx vx lx hx num ng h1 h2 h3 h4 t1 t2 t3 t4 tn v lo hi news m1 m2 hv hl hh hcl hch) hd9 hu9 fun v' nw8 h8 tk8 F8 N8 P8 => ?_
  obtain ⟨pre, rfl, fr, q, vs, n, rfl, c1, c2⟩ := P8
  exact ret9 pre fr q vs n c1 c2 h8 tk8 F8 N8
theorem rows_between_2 : True := by
  k_with "obetween" => skip
  k_with "call ref" => first | (k_here; (with_reducible show wpAny _ _ (call (Value.ref 592) _) _ _ _); (with_reducible refine between_specu _ _ _ _ _ _ _ _ _ _ _ _ _ _ _ _ _ _ _ _ (by k_dflt (exact rfl)) (by k_dflt (k_asm)) (by k_dflt (k_asm)) (by k_dflt (k_asm)) (by k_dflt (k_asm)) (by k_dflt (k_asm)) (by k_dflt (first | exact rfl | assumption)) (by k_dflt (k_extra "lcg_off")) (by k_dflt (k_extra "lcg_off")) (by k_dflt (first | with_reducible assumption | exact NodeAt.mono (by with_reducible assumption) (by k_extra "ktu_off1L"))) (by k_dflt (first | with_reducible assumption | exact NodeAt.mono (by with_reducible assumption) (by k_extra "ktu_off1L"))) (by k_dflt (first | with_reducible assumption | exact NodeAt.mono (by with_reducible assumption) (by k_extra "ktu_off1L"))) (by k_dflt (with_reducible assumption)) (by k_dflt (with_reducible assumption)) (by k_dflt (k_extra "ktr_room")) (by k_dflt (k_extra "ktr_units")) ?_); intro pre9 fr9 q9 vs9 n9 m9 B9 h9 tk9 F9 N9; (try k_sweep); (try k_fold)) | fail "row"
  trivial
section
theorem rows_collof_1 : True := by
  k_with "truthy str" => (fail_if_success k_extra "ocollof"); first | ((k_here; k_dflt (refine truthy_coll (by with_reducible assumption) ?_))) | fail "row"
  trivial
theorem collof_spec (x : Addr) (num place : Int) (aff coll : Str) (news : Led) (hx : NameAt news x num place aff coll) (hc : IsColl coll) : SpecP 14 532 [.ref x] news (fun v => ∃ t, v = .str coll t) := Carry.out (by exact Carry.mk : Carry ((by
  unfold SpecP Spec
  intro prog w p loose mean mg mb dp un gd cn cs a ccd cl outer A₀ base h₀ L m s Q E B F X N T hk hd hu hret
  have hn := NodeAt.name hx
  k_dflt k_extra "ktr_enterB"
  k_steps

  all_goals (refine finP hret (by k_asm) (by k_asm) (by k_asm) (by k_extra "tb_rel") ?_; exact ⟨_, rfl⟩)
  done
  : SpecP 14 532 [.ref x] news (fun v => ∃ t, v = .str coll t)) :))

end

theorem collof_specu {prog9 : Program} {w9 : World} {p9 : Program} {loose9 : List Str} {mean9 : ExcName → Option Value} {mg9 mb9 : Str → Option Value} {dp9 un9 : Nat} {gd9 : Option (List Code)} {cn9 : Str} {cs9 : Scope} {a9 : Addr} {ccd9 : Value} {cl9 : List (Str × Addr)} {outer9 : List Env} {A₀9 : Around} {base9 h₀9 : Heap} {L9 : Addr} {m9 : Str → Option Value} {hh9 : Heap} {gg9 : Array GenState} {dd9 : Drawn} {tt9 : Nat} {oo9 : OsState} {Q9 E9 : Value → Shared → Prop} {A9 : Around} (x : Addr) (num place : Int) (aff coll : Str) (news : Led) (hA9 : A9 = ktrTop dp9 un9 gd9 cn9 cs9 L9 a9 ccd9 cl9 outer9) (B9 : Below A₀9 base9 outer9 h₀9) (F9 : Fr h₀9 L9 hh9 m9) (X9 : (hd.heap_39 w9.params).In h₀9) (N9 : News h₀9 L9 hh9 news) (T9 : Top p9 loose9 mean9 mg9 mb9 h₀9) (hk9 : cs9.kind = .function) (hx : NameAt news x num place aff coll) (hc : IsColl coll) (hd9 : dp9 + 14 < recursionLimit) (hu9 : un9 + 8 * 14 < cLine)
    (ret9 : ∀ t, ∀ h9 tk9, Fr h₀9 L9 h9 m9 → News h₀9 L9 h9 (news) → Q9 (.str coll t) ⟨h9, gg9, dd9, tk9, oo9⟩) :
    wpAny (model prog9 w9) A9 (call (.ref 532) [.ref x]) Q9 E9 ⟨hh9, gg9, dd9, tt9, oo9⟩ := by
  subst hA9
  refine Spec.useN B9 F9 X9 N9 T9 hk9 (collof_spec x num place aff coll news hx hc) hd9 hu9 fun v nw8 h8 tk8 F8 N8 P8 => ?_
  obtain ⟨rfl, t, rfl⟩ := P8
  exact ret9 t h8 tk8 F8 N8
theorem rows_collof_2 : True := by
  k_with "ocollof" => skip
  k_with "call ref" => first | (k_here; (with_reducible show wpAny _ _ (call (Value.ref 532) _) _ _ _); (with_reducible refine collof_specu _ _ _ _ _ _ (by k_dflt (exact rfl)) (by k_dflt (k_asm)) (by k_dflt (k_asm)) (by k_dflt (k_asm)) (by k_dflt (k_asm)) (by k_dflt (k_asm)) (by k_dflt (first | exact rfl | assumption)) (by k_dflt (first | with_reducible assumption | exact NameAt.mono (by with_reducible assumption) (by k_extra "ktu_off1L"))) (by k_dflt (with_reducible assumption)) (by k_dflt (k_extra "ktr_room")) (by k_dflt (k_extra "ktr_units")) ?_); intro t9 h9 tk9 F9 N9; (try k_sweep); (try k_fold)) | fail "row"
  trivial
/-- a loop over the items of a list, of any length -/
theorem items_gen {α : Type} {prog : Program} {w : World} {A : Around} {E : Value → Shared → Prop} {s : Shared} {env : Env} {h₀ : Heap} {target : PySem.Expr} {body : List Stmt} {Q : Flow → Shared → Prop} {I : Addr} {ty : String} {keep news : Led}
    (f : α → Value) (P : (Str → Option Value) → Prop) (R : α → Prop) (hk : SubL keep news) :
    ∀ ps : List α,
    (∀ p ∈ ps, ∀ m h tk o, P m → o.cls = .type ty → Fr h₀ env.locals h m → News h₀ env.locals h ((I, o) :: news) →
      wpAny (model prog w) A (assign target env (f p)) (fun _ s₂ => wpAny (model prog w) A (execs body env) (UnrPostW h₀ env.locals { s with heap := h, toks := tk } [(I, o)] (fun m' n' => n' = news ∧ P m' ∧ R p) Q) E s₂) E { s with heap := h, toks := tk }) →
    (∀ m h tk, P m → (∀ p ∈ ps, R p) → Fr h₀ env.locals h m → News h₀ env.locals h news → Q .next { s with heap := h, toks := tk }) →
    ∀ m, P m → ItemsRest prog w A E h₀ env target body Q s [(I, ty)] keep (ps.map fun p => Itm.val (f p)) m news := by
  intro ps
  induction ps with
  | nil =>
    intro _ stop m hm
    exact fun h tk F N => stop m h tk hm (fun _ h => nomatch h) F N
  | cons p ps ih =>
    intro turn stop m hm v h tk e F
    have e' : v = f p := e
    subst e'
    refine AllObj.cons fun o hc => AllObj.nil fun N => ?_
    refine wpAny_mono (turn p (.head _) m h tk o hm hc F N) (fun _ s₂ h₂ => wpAny_mono h₂ (fun fl s₃ q => ?_) fun _ _ e => e) fun _ _ e => e
    have fin : ∀ s₃, UnrEndW h₀ env.locals { s with heap := h, toks := tk } [(I, o)] (fun m' n' => n' = news ∧ P m' ∧ R p) s₃ →
        UnrEndW h₀ env.locals { s with heap := h, toks := tk } [(I, o)] (fun m' n' => SubL keep n' ∧ ItemsRest prog w A E h₀ env target body Q s [(I, ty)] keep (ps.map fun p => Itm.val (f p)) m' n') s₃ := by
      rintro s₃ ⟨h', tk', m', news', e, F', N', off, rfl, hP, hR⟩
      refine ⟨h', tk', m', news', e, F', N', off, hk, ?_⟩
      refine ih (fun p' hp' => turn p' (.tail _ hp')) (fun m h tk a b => stop m h tk a fun p' hp' => ?_) m' hP
      rcases List.mem_cons.mp hp' with rfl | hp'
      · exact hR
      · exact b p' hp'
    cases fl with
    | ret v => exact q
    | brk => exact q
    | next => exact fin _ q
    | cont => exact fin _ q


def allFree (ps : List (Addr × Nd)) (num : Int) : Bool := ps.all fun p => p.2.num != some num
theorem cmpAff_none (l : Str) : (cmpAff l none).1 = none := by
  simp only [cmpAff]
  (repeat' split) <;> rfl
theorem len_map {α : Type} {prog : Program} {w : World} {A : Around} {E : Value → Shared → Prop} {s : Shared} {h₀ : Heap} {L l : Addr} {news : Led} {ps : List α} {f : α → Value} {n : Nat} {Q : Value → Shared → Prop}
    (N : News h₀ L s.heap news) (hm : (l, W.listOf (ps.map f).toArray n) ∈ news) (hsm : ps.length ≤ 12) (h : Q (.int ps.length (s.toks + 1)) { s with toks := s.toks + 1 + 1 }) :
    wpAny (model prog w) A (call (.builtin "len") [.ref l]) Q E s :=
  len_sym N hm (by rw [List.length_map]; exact hsm) (by rw [List.length_map]; exact h)
section
theorem rows_listb_1 : True := by
  k_with "exec For Name Name cons nil" => (fail_if_success k_extra "olistb"); first | ((k_here; (rename Fr _ _ _ _ => lF'); (with_unfolding_all refine' For_turns lF' ?_; k_whole))) | fail "row"
  k_with "exec For Name Tuple cons nil" => (fail_if_success k_extra "olistb"); first | ((k_here; (rename Fr _ _ _ _ => lF'); (with_unfolding_all refine' For_turns lF' ?_; k_whole))) | fail "row"
  k_with "exec For Tuple Tuple cons nil" => (fail_if_success k_extra "olistb"); first | ((k_here; (rename Fr _ _ _ _ => lF'); (with_unfolding_all refine' For_turns lF' ?_; k_whole))) | fail "row"
  k_with "exec For Name Call cons nil" => (fail_if_success k_extra "olistb"); first | ((k_here; (rename Fr _ _ _ _ => lF'); (with_unfolding_all refine' For_turns lF' ?_; k_whole))) | fail "row"
  k_with "exec For Name Attribute cons nil" => (fail_if_success k_extra "olistb"); first | ((k_here; (rename Fr _ _ _ _ => lF'); (with_unfolding_all refine' For_turns lF' ?_; k_whole))) | fail "row"
  k_with "pyIter str" => (fail_if_success k_extra "olistb"); first | ((k_here; k_dflt (refine iter_signs (by rfl) (by decide +kernel) (by k_asm) (by k_asm) ?_); intro i' l1; (try k_lt l1))) | fail "row"
  k_with "pyIter ref" => (fail_if_success k_extra "olistb"); first | ((k_here; (with_reducible show wpAny _ _ (pyIter (Value.ref _)) (fun it s₂ => TurnsAt _ _ _ _ _ _ _ _ _ it s₂) _ _); first | ((with_unfolding_all refine' iter_listTurns (by rfl) (by k_asm) (by k_asm) (by k_extra "lcg_off") (by rfl) (by rfl) ?_); intro i' l1; (try k_lt l1)) | ((with_unfolding_all refine' iter_tupTurns (by rfl) (by k_asm) (by k_asm) (by k_extra "lcg_off") (by rfl) (by rfl) ?_); intro i' l1; (try k_lt l1)))) | fail "row"
  k_with "call type:list" => (fail_if_success k_extra "olistb"); first | ((k_here; (with_reducible show wpAny _ _ (call (Value.type _) [Value.ref _]) _ _ _); k_dflt (refine' list_copyK (by k_asm) (by k_asm) (by exact News.isL (by k_asm) (by k_extra "lcg_off")) ?_ (by rw [List.size_toArray, List.length_map, sizeLine_eq]; omega)); intro D' c' h' F' N' l1; (try k_lt l1); (try k_sweep))) | fail "row"
  k_with "eval Name" => (fail_if_success k_extra "olistb"); first | ((k_here; k_dflt (refine' ld (by k_asm) (by first | exact rfl | assumption) ?_; k_whole))) | fail "row"
  k_with "UnrEndW" => (fail_if_success k_extra "olistb"); first | ((k_here; refine unr_end (by k_asm) (by k_asm) (by repeat (first | exact Pick.head | apply Pick.tail | apply Pick.app)) (by k_extra "ktu_offL") ⟨rfl, ⟨by assumption, by assumption⟩, by first | assumption | trivial⟩)) | fail "row"
  k_with "call builtin:len" => (fail_if_success k_extra "olistb"); first | ((k_here; (with_reducible show wpAny _ _ (call (Value.builtin "len") [Value.ref _]) _ _ _); k_dflt (refine' len_map (by k_asm) (by k_extra "lcg_off") (by omega) ?_; k_whole))) | fail "row"
  k_with "call ref" => (fail_if_success k_extra "olistb"); first | (k_here; (with_reducible show wpAny _ _ (call (Value.ref 476) _) _ _ _); (k_dflt refine cmpaff_spec'u _ _ none 0 none _ (by k_dflt (exact rfl)) (by k_dflt (k_asm)) (by k_dflt (k_asm)) (by k_dflt (k_asm)) (by k_dflt (k_asm)) (by k_dflt (k_asm)) (by k_dflt (first | exact rfl | assumption)) (by k_dflt (exact cmpAff_none _)) (by k_dflt (k_extra "ktr_room")) (by k_dflt (k_extra "ktr_units")) ?_); intro pre9 fr9 tt9 kt9 lt9 m9 h9 tk9 F9 N9; (try dsimp only [ov_none, ov_some] at m9); (try k_sweep); (try k_fold)) | fail "row"
  trivial
theorem listb_spec (x dx vx il : Addr) (num place : Int) (aff coll : Str) (h1 h2 h3 : Int) (t1 t2 t3 tn : Tok) (n : Nat) (ps : List (Addr × Nd)) (news : Led) (m1 : (x, instObj 220 dx) ∈ news) (m2 : (dx, dictOf [ent h1 "value" t1 (.ref vx), ent h2 "items" t2 (.ref il), ent h3 "negated" t3 (.bool false)] 3) ∈ news)
    (m3 : (il, W.listOf (ps.map fun p => Value.ref p.1).toArray n) ∈ news) (hv : NameAt news vx num place aff coll) (hp : ∀ p ∈ ps, NodeAt news p.1 p.2) (hl : 0 < ps.length ∧ ps.length ≤ 12) (hc : IsColl coll) :
    SpecN 20 599 [.ref x, .int num tn] news (fun pre v' => if allFree ps num = true then ∃ q b il', v' = .ref q ∧ (q, W.listOf #[.ref b] 0) ∈ pre ∧ BoundAt pre b place (Str.ofString "in") (.ref il') (cmpAff aff none).2 coll ∧ ∃ n', (il', W.listOf (ps.map fun p => Value.ref p.1).toArray n') ∈ pre
      else ∃ q, v' = .ref q ∧ (q, W.listOf #[] 0) ∈ pre) := Carry.out (by exact Carry.mk : Carry ((by
  unfold SpecN Spec
  intro prog w p loose mean mg mb dp un gd cn cs a ccd cl outer A₀ base h₀ L m s Q E B F X N T hk hd hu hret
  have hnv := NodeAt.name hv
  have hv9 := hv
  have hcol : isCol (.name num place aff coll) num = true := by simp [isCol]
  cases hv
  k_dflt k_extra "ktr_enter"
  k_steps
  · exfalso; omega
  · rw [List.map_map]
    refine items_gen (fun p => Value.ref p.1) (fun m' => m' (Str.ofString "expr") = some (.ref x) ∧ m' (Str.ofString "number") = some (.int num tn)) (fun p => (p.2.num != some num) = true) ?kS ps ?kT ?kU _ ?kM
    case kS => k_subL
    case kM => exact ⟨rfl, rfl⟩
    case kT =>
      intro q hq m9 h9 tk9 o9 hP hcl F9 N9
      obtain ⟨hm1, hm2⟩ := hP
      have hn := hp q hq
      cases hfree : (q.2.num != some num) with
      | true =>
        k_steps
      | false =>
        have hall : allFree ps num = false := by
          cases e : allFree ps num with
          | false => rfl
          | true =>
            have := List.all_eq_true.mp e q hq
            rw [hfree] at this
            cases this
        simp only [hall, Bool.false_eq_true, if_false] at hret
        k_steps
        all_goals (refine finN hret (by k_asm) (by k_asm) (by k_asm) (by k_extra "tb_rel") (by k_extra "tb_start") ?_; exact ⟨_, rfl, by k_extra "lcg_off"⟩)
    case kU =>
      intro m9 h9 tk9 hP hR F9 N9
      obtain ⟨hm1, hm2⟩ := hP
      have hall : allFree ps num = true := List.all_eq_true.mpr hR
      simp only [hall, if_true] at hret
      k_steps
      all_goals (refine finN hret (by k_asm) (by k_asm) (by k_asm) (by k_extra "tb_rel") (by k_extra "tb_start") ?_; exact ⟨_, _, _, rfl, by k_extra "lcg_off", .mk (by k_extra "lcg_off") (by k_extra "lcg_off"), _, by k_extra "lcg_off"⟩)
  done
  : SpecN 20 599 [.ref x, .int num tn] news (fun pre v' => if allFree ps num = true then ∃ q b il', v' = .ref q ∧ (q, W.listOf #[.ref b] 0) ∈ pre ∧ BoundAt pre b place (Str.ofString "in") (.ref il') (cmpAff aff none).2 coll ∧ ∃ n', (il', W.listOf (ps.map fun p => Value.ref p.1).toArray n') ∈ pre else ∃ q, v' = .ref q ∧ (q, W.listOf #[] 0) ∈ pre)) :))

theorem listb0_spec (x dx vx il : Addr) (num : Int) (ng : Bool) (h1 h2 h3 : Int) (t1 t2 t3 tn : Tok) (n : Nat) (us : List Value) (v : Nd) (news : Led) (m1 : (x, instObj 220 dx) ∈ news) (m2 : (dx, dictOf [ent h1 "value" t1 (.ref vx), ent h2 "items" t2 (.ref il), ent h3 "negated" t3 (.bool ng)] 3) ∈ news)
    (m3 : (il, W.listOf us.toArray n) ∈ news) (hv : NodeAt news vx v) (hc : ng = true ∨ isCol v num = false ∨ us = []) :
    SpecN 20 599 [.ref x, .int num tn] news (fun pre v' => ∃ q, v' = .ref q ∧ (q, W.listOf #[] 0) ∈ pre) := Carry.out (by exact Carry.mk : Carry ((by
  unfold SpecN Spec
  intro prog w p loose mean mg mb dp un gd cn cs a ccd cl outer A₀ base h₀ L m s Q E B F X N T hk hd hu hret
  cases ng with
  | true =>
    (k_dflt k_extra "ktr_enter"; k_steps)
    all_goals (refine finN hret (by k_asm) (by k_asm) (by k_asm) (by k_extra "tb_rel") (by k_extra "tb_start") ?_; exact ⟨_, rfl, by k_extra "lcg_off"⟩)
  | false =>
    cases hA : isCol v num with
    | false =>
      (k_dflt k_extra "ktr_enter"; k_steps)
      all_goals (refine finN hret (by k_asm) (by k_asm) (by k_asm) (by k_extra "tb_rel") (by k_extra "tb_start") ?_; exact ⟨_, rfl, by k_extra "lcg_off"⟩)
    | true =>
      have hus : us = [] := by
        rcases hc with h | h | h
        · cases h
        · rw [hA] at h; cases h
        · exact h
      subst hus
      (k_dflt k_extra "ktr_enter"; k_steps)

      all_goals (refine finN hret (by k_asm) (by k_asm) (by k_asm) (by k_extra "tb_rel") (by k_extra "tb_start") ?_; exact ⟨_, rfl, by k_extra "lcg_off"⟩)
  done
  : SpecN 20 599 [.ref x, .int num tn] news (fun pre v' => ∃ q, v' = .ref q ∧ (q, W.listOf #[] 0) ∈ pre)) :))

end

theorem rows_listb_2 : True := by
  k_with "olistb" => skip
  trivial
theorem one_aff (aS : Addr) (σ : Src) (tL : Addr) (a b c d : Tok) (n : Nat) (rest : Led) (hm : (tL, W.listOf #[.str (Str.ofString "integer") a, .str (Str.ofString "numeric") b, .str (Str.ofString "text") c, .str (Str.ofString "blob") d] n) ∈ rest) (hne : ∀ p ∈ rest, p.1 ≠ aS) :
    Spec 5 662 [.ref aS, .ref tL] ((aS, srcO σ) :: rest) (fun news' v => ∃ x t σ', IsAff x ∧ v = .str x t ∧ news' = (aS, srcO σ') :: rest) := by
  have h := one_spec aS σ tL [.str (Str.ofString "integer") a, .str (Str.ofString "numeric") b, .str (Str.ofString "text") c, .str (Str.ofString "blob") d] n rest hm ⟨Nat.le_of_ble_eq_true rfl, Nat.le_of_ble_eq_true rfl⟩ hne
  unfold Spec at h ⊢
  intro prog w p loose mean mg mb dp un gd cn cs a ccd cl outer A₀ base h₀ L m s Q E B F X N T hk hd hu hret
  refine h prog w p loose mean mg mb dp un gd cn cs a ccd cl outer A₀ base h₀ L m s Q E B F X N T hk hd hu fun v nw h' tk' F' N' P => hret v nw h' tk' F' N' ?_
  obtain ⟨i, σ', hi, rfl, e⟩ := P
  have hi' : i < 4 := hi
  rcases i with _ | _ | _ | _ | i
  · exact ⟨_, _, σ', .inl rfl, rfl, e⟩
  · exact ⟨_, _, σ', .inr (.inl rfl), rfl, e⟩
  · exact ⟨_, _, σ', .inr (.inr (.inl rfl)), rfl, e⟩
  · exact ⟨_, _, σ', .inr (.inr (.inr rfl)), rfl, e⟩
  · omega
theorem one_coll (aS : Addr) (σ : Src) (tL : Addr) (a b c : Tok) (n : Nat) (rest : Led) (hm : (tL, W.listOf #[.str (Str.ofString "binary") a, .str (Str.ofString "nocase") b, .str (Str.ofString "rtrim") c] n) ∈ rest) (hne : ∀ p ∈ rest, p.1 ≠ aS) :
    Spec 5 662 [.ref aS, .ref tL] ((aS, srcO σ) :: rest) (fun news' v => ∃ x t σ', IsColl x ∧ v = .str x t ∧ news' = (aS, srcO σ') :: rest) := by
  have h := one_spec aS σ tL [.str (Str.ofString "binary") a, .str (Str.ofString "nocase") b, .str (Str.ofString "rtrim") c] n rest hm ⟨Nat.le_of_ble_eq_true rfl, Nat.le_of_ble_eq_true rfl⟩ hne
  unfold Spec at h ⊢
  intro prog w p loose mean mg mb dp un gd cn cs a ccd cl outer A₀ base h₀ L m s Q E B F X N T hk hd hu hret
  refine h prog w p loose mean mg mb dp un gd cn cs a ccd cl outer A₀ base h₀ L m s Q E B F X N T hk hd hu fun v nw h' tk' F' N' P => hret v nw h' tk' F' N' ?_
  obtain ⟨i, σ', hi, rfl, e⟩ := P
  have hi' : i < 3 := hi
  rcases i with _ | _ | _ | i
  · exact ⟨_, _, σ', .inl rfl, rfl, e⟩
  · exact ⟨_, _, σ', .inr (.inl rfl), rfl, e⟩
  · exact ⟨_, _, σ', .inr (.inr rfl), rfl, e⟩
  · omega
theorem one_op (aS : Addr) (σ : Src) (tL : Addr) (a b c d f : Tok) (n : Nat) (rest : Led) (hm : (tL, W.listOf #[.str (Str.ofString "=") a, .str (Str.ofString "<") b, .str (Str.ofString "<=") c, .str (Str.ofString ">") d, .str (Str.ofString ">=") f] n) ∈ rest) (hne : ∀ p ∈ rest, p.1 ≠ aS) :
    Spec 5 662 [.ref aS, .ref tL] ((aS, srcO σ) :: rest) (fun news' v => ∃ x t σ', IsOp x ∧ v = .str x t ∧ news' = (aS, srcO σ') :: rest) := by
  have h := one_spec aS σ tL [.str (Str.ofString "=") a, .str (Str.ofString "<") b, .str (Str.ofString "<=") c, .str (Str.ofString ">") d, .str (Str.ofString ">=") f] n rest hm ⟨Nat.le_of_ble_eq_true rfl, Nat.le_of_ble_eq_true rfl⟩ hne
  unfold Spec at h ⊢
  intro prog w p loose mean mg mb dp un gd cn cs a ccd cl outer A₀ base h₀ L m s Q E B F X N T hk hd hu hret
  refine h prog w p loose mean mg mb dp un gd cn cs a ccd cl outer A₀ base h₀ L m s Q E B F X N T hk hd hu fun v nw h' tk' F' N' P => hret v nw h' tk' F' N' ?_
  obtain ⟨i, σ', hi, rfl, e⟩ := P
  have hi' : i < 5 := hi
  rcases i with _ | _ | _ | _ | _ | i
  · exact ⟨_, _, σ', .inl rfl, rfl, e⟩
  · exact ⟨_, _, σ', .inr (.inl rfl), rfl, e⟩
  · exact ⟨_, _, σ', .inr (.inr (.inl rfl)), rfl, e⟩
  · exact ⟨_, _, σ', .inr (.inr (.inr (.inl rfl))), rfl, e⟩
  · exact ⟨_, _, σ', .inr (.inr (.inr (.inr rfl))), rfl, e⟩
  · omega
theorem one_word (aS : Addr) (σ : Src) (tL : Addr) (a0 a1 a2 : Addr) (x0 y0 x1 y1 x2 y2 : Tok) (n : Nat) (rest : Led) (hm : (tL, W.listOf #[.ref a0, .ref a1, .ref a2] n) ∈ rest) (m0 : (a0, tupO [.str (Str.ofString "NOCASE") x0, .str (Str.ofString "nocase") y0]) ∈ rest) (m1 : (a1, tupO [.str (Str.ofString "rtrim") x1, .str (Str.ofString "rtrim") y1]) ∈ rest) (m2 : (a2, tupO [.str (Str.ofString "Binary") x2, .str (Str.ofString "binary") y2]) ∈ rest) (hne : ∀ p ∈ rest, p.1 ≠ aS) :
    Spec 5 662 [.ref aS, .ref tL] ((aS, srcO σ) :: rest) (fun news' v => ∃ t x y tx ty σ', v = .ref t ∧ (t, tupO [.str x tx, .str y ty]) ∈ rest ∧ IsWord x y ∧ news' = (aS, srcO σ') :: rest) := by
  have h := one_spec aS σ tL [.ref a0, .ref a1, .ref a2] n rest hm ⟨Nat.le_of_ble_eq_true rfl, Nat.le_of_ble_eq_true rfl⟩ hne
  unfold Spec at h ⊢
  intro prog w p loose mean mg mb dp un gd cn cs a ccd cl outer A₀ base h₀ L m s Q E B F X N T hk hd hu hret
  refine h prog w p loose mean mg mb dp un gd cn cs a ccd cl outer A₀ base h₀ L m s Q E B F X N T hk hd hu fun v nw h' tk' F' N' P => hret v nw h' tk' F' N' ?_
  obtain ⟨i, σ', hi, rfl, e⟩ := P
  have hi' : i < 3 := hi
  rcases i with _ | _ | _ | i
  · exact ⟨_, _, _, _, _, σ', rfl, m0, .inl ⟨rfl, rfl⟩, e⟩
  · exact ⟨_, _, _, _, _, σ', rfl, m1, .inr (.inl ⟨rfl, rfl⟩), e⟩
  · exact ⟨_, _, _, _, _, σ', rfl, m2, .inr (.inr (⟨rfl, rfl⟩)), e⟩
  · omega
theorem one_type (aS : Addr) (σ : Src) (tL : Addr) (a0 a1 a2 a3 : Addr) (x0 y0 x1 y1 x2 y2 x3 y3 : Tok) (n : Nat) (rest : Led) (hm : (tL, W.listOf #[.ref a0, .ref a1, .ref a2, .ref a3] n) ∈ rest) (m0 : (a0, tupO [.str (Str.ofString "BIGINT") x0, .str (Str.ofString "integer") y0]) ∈ rest) (m1 : (a1, tupO [.str (Str.ofString "Char(9)") x1, .str (Str.ofString "text") y1]) ∈ rest) (m2 : (a2, tupO [.str (Str.ofString "BLOB") x2, .str (Str.ofString "blob") y2]) ∈ rest) (m3 : (a3, tupO [.str (Str.ofString "DATE") x3, .str (Str.ofString "numeric") y3]) ∈ rest) (hne : ∀ p ∈ rest, p.1 ≠ aS) :
    Spec 5 662 [.ref aS, .ref tL] ((aS, srcO σ) :: rest) (fun news' v => ∃ t x y tx ty σ', v = .ref t ∧ (t, tupO [.str x tx, .str y ty]) ∈ rest ∧ IsType x y ∧ news' = (aS, srcO σ') :: rest) := by
  have h := one_spec aS σ tL [.ref a0, .ref a1, .ref a2, .ref a3] n rest hm ⟨Nat.le_of_ble_eq_true rfl, Nat.le_of_ble_eq_true rfl⟩ hne
  unfold Spec at h ⊢
  intro prog w p loose mean mg mb dp un gd cn cs a ccd cl outer A₀ base h₀ L m s Q E B F X N T hk hd hu hret
  refine h prog w p loose mean mg mb dp un gd cn cs a ccd cl outer A₀ base h₀ L m s Q E B F X N T hk hd hu fun v nw h' tk' F' N' P => hret v nw h' tk' F' N' ?_
  obtain ⟨i, σ', hi, rfl, e⟩ := P
  have hi' : i < 4 := hi
  rcases i with _ | _ | _ | _ | i
  · exact ⟨_, _, _, _, _, σ', rfl, m0, .inl ⟨rfl, rfl⟩, e⟩
  · exact ⟨_, _, _, _, _, σ', rfl, m1, .inr (.inl ⟨rfl, rfl⟩), e⟩
  · exact ⟨_, _, _, _, _, σ', rfl, m2, .inr (.inr (.inl ⟨rfl, rfl⟩)), e⟩
  · exact ⟨_, _, _, _, _, σ', rfl, m3, .inr (.inr (.inr (⟨rfl, rfl⟩))), e⟩
  · omega

theorem one_affu {prog9 : Program} {w9 : World} {p9 : Program} {loose9 : List Str} {mean9 : ExcName → Option Value} {mg9 mb9 : Str → Option Value} {dp9 un9 : Nat} {gd9 : Option (List Code)} {cn9 : Str} {cs9 : Scope} {a9 : Addr} {ccd9 : Value} {cl9 : List (Str × Addr)} {outer9 : List Env} {A₀9 : Around} {base9 h₀9 : Heap} {L9 : Addr} {m9 : Str → Option Value} {hh9 : Heap} {gg9 : Array GenState} {dd9 : Drawn} {tt9 : Nat} {oo9 : OsState} {Q9 E9 : Value → Shared → Prop} {A9 : Around} {cur9 : Led} (aS : Addr) (σ : Src) (tL : Addr) (a b c d : Tok) (n : Nat) (rest : Led) (hA9 : A9 = ktrTop dp9 un9 gd9 cn9 cs9 L9 a9 ccd9 cl9 outer9) (B9 : Below A₀9 base9 outer9 h₀9) (F9 : Fr h₀9 L9 hh9 m9) (X9 : (hd.heap_39 w9.params).In h₀9) (N9 : News h₀9 L9 hh9 cur9) (K9 : Pick aS (srcO σ) cur9 (rest)) (T9 : Top p9 loose9 mean9 mg9 mb9 h₀9) (hk9 : cs9.kind = .function) (hm : (tL, W.listOf #[.str (Str.ofString "integer") a, .str (Str.ofString "numeric") b, .str (Str.ofString "text") c, .str (Str.ofString "blob") d] n) ∈ rest) (hne : ∀ p ∈ rest, p.1 ≠ aS) (hd9 : dp9 + 5 < recursionLimit) (hu9 : un9 + 8 * 5 < cLine)
    (ret9 : ∀ x t σ', (IsAff x) → ∀ h9 tk9, Fr h₀9 L9 h9 m9 → News h₀9 L9 h9 ((aS, srcO σ') :: rest) → Q9 (.str x t) ⟨h9, gg9, dd9, tk9, oo9⟩) :
    wpAny (model prog9 w9) A9 (call (.ref 662) [.ref aS, .ref tL]) Q9 E9 ⟨hh9, gg9, dd9, tt9, oo9⟩ := by
  subst hA9
  refine Spec.useP B9 F9 X9 N9 K9 T9 hk9 (one_aff aS σ tL a b c d n rest hm hne) hd9 hu9 fun v nw8 h8 tk8 F8 N8 P8 => ?_
  obtain ⟨x, t, σ', c0, rfl, rfl⟩ := P8
  exact ret9 x t σ' c0 h8 tk8 F8 N8
theorem one_collu {prog9 : Program} {w9 : World} {p9 : Program} {loose9 : List Str} {mean9 : ExcName → Option Value} {mg9 mb9 : Str → Option Value} {dp9 un9 : Nat} {gd9 : Option (List Code)} {cn9 : Str} {cs9 : Scope} {a9 : Addr} {ccd9 : Value} {cl9 : List (Str × Addr)} {outer9 : List Env} {A₀9 : Around} {base9 h₀9 : Heap} {L9 : Addr} {m9 : Str → Option Value} {hh9 : Heap} {gg9 : Array GenState} {dd9 : Drawn} {tt9 : Nat} {oo9 : OsState} {Q9 E9 : Value → Shared → Prop} {A9 : Around} {cur9 : Led} (aS : Addr) (σ : Src) (tL : Addr) (a b c : Tok) (n : Nat) (rest : Led) (hA9 : A9 = ktrTop dp9 un9 gd9 cn9 cs9 L9 a9 ccd9 cl9 outer9) (B9 : Below A₀9 base9 outer9 h₀9) (F9 : Fr h₀9 L9 hh9 m9) (X9 : (hd.heap_39 w9.params).In h₀9) (N9 : News h₀9 L9 hh9 cur9) (K9 : Pick aS (srcO σ) cur9 (rest)) (T9 : Top p9 loose9 mean9 mg9 mb9 h₀9) (hk9 : cs9.kind = .function) (hm : (tL, W.listOf #[.str (Str.ofString "binary") a, .str (Str.ofString "nocase") b, .str (Str.ofString "rtrim") c] n) ∈ rest) (hne : ∀ p ∈ rest, p.1 ≠ aS) (hd9 : dp9 + 5 < recursionLimit) (hu9 : un9 + 8 * 5 < cLine)
    (ret9 : ∀ x t σ', (IsColl x) → ∀ h9 tk9, Fr h₀9 L9 h9 m9 → News h₀9 L9 h9 ((aS, srcO σ') :: rest) → Q9 (.str x t) ⟨h9, gg9, dd9, tk9, oo9⟩) :
    wpAny (model prog9 w9) A9 (call (.ref 662) [.ref aS, .ref tL]) Q9 E9 ⟨hh9, gg9, dd9, tt9, oo9⟩ := by
  subst hA9
  refine Spec.useP B9 F9 X9 N9 K9 T9 hk9 (one_coll aS σ tL a b c n rest hm hne) hd9 hu9 fun v nw8 h8 tk8 F8 N8 P8 => ?_
  obtain ⟨x, t, σ', c0, rfl, rfl⟩ := P8
  exact ret9 x t σ' c0 h8 tk8 F8 N8
theorem one_opu {prog9 : Program} {w9 : World} {p9 : Program} {loose9 : List Str} {mean9 : ExcName → Option Value} {mg9 mb9 : Str → Option Value} {dp9 un9 : Nat} {gd9 : Option (List Code)} {cn9 : Str} {cs9 : Scope} {a9 : Addr} {ccd9 : Value} {cl9 : List (Str × Addr)} {outer9 : List Env} {A₀9 : Around} {base9 h₀9 : Heap} {L9 : Addr} {m9 : Str → Option Value} {hh9 : Heap} {gg9 : Array GenState} {dd9 : Drawn} {tt9 : Nat} {oo9 : OsState} {Q9 E9 : Value → Shared → Prop} {A9 : Around} {cur9 : Led} (aS : Addr) (σ : Src) (tL : Addr) (a b c d f : Tok) (n : Nat) (rest : Led) (hA9 : A9 = ktrTop dp9 un9 gd9 cn9 cs9 L9 a9 ccd9 cl9 outer9) (B9 : Below A₀9 base9 outer9 h₀9) (F9 : Fr h₀9 L9 hh9 m9) (X9 : (hd.heap_39 w9.params).In h₀9) (N9 : News h₀9 L9 hh9 cur9) (K9 : Pick aS (srcO σ) cur9 (rest)) (T9 : Top p9 loose9 mean9 mg9 mb9 h₀9) (hk9 : cs9.kind = .function) (hm : (tL, W.listOf #[.str (Str.ofString "=") a, .str (Str.ofString "<") b, .str (Str.ofString "<=") c, .str (Str.ofString ">") d, .str (Str.ofString ">=") f] n) ∈ rest) (hne : ∀ p ∈ rest, p.1 ≠ aS) (hd9 : dp9 + 5 < recursionLimit) (hu9 : un9 + 8 * 5 < cLine)
    (ret9 : ∀ x t σ', (IsOp x) → ∀ h9 tk9, Fr h₀9 L9 h9 m9 → News h₀9 L9 h9 ((aS, srcO σ') :: rest) → Q9 (.str x t) ⟨h9, gg9, dd9, tk9, oo9⟩) :
    wpAny (model prog9 w9) A9 (call (.ref 662) [.ref aS, .ref tL]) Q9 E9 ⟨hh9, gg9, dd9, tt9, oo9⟩ := by
  subst hA9
  refine Spec.useP B9 F9 X9 N9 K9 T9 hk9 (one_op aS σ tL a b c d f n rest hm hne) hd9 hu9 fun v nw8 h8 tk8 F8 N8 P8 => ?_
  obtain ⟨x, t, σ', c0, rfl, rfl⟩ := P8
  exact ret9 x t σ' c0 h8 tk8 F8 N8
theorem one_wordu {prog9 : Program} {w9 : World} {p9 : Program} {loose9 : List Str} {mean9 : ExcName → Option Value} {mg9 mb9 : Str → Option Value} {dp9 un9 : Nat} {gd9 : Option (List Code)} {cn9 : Str} {cs9 : Scope} {a9 : Addr} {ccd9 : Value} {cl9 : List (Str × Addr)} {outer9 : List Env} {A₀9 : Around} {base9 h₀9 : Heap} {L9 : Addr} {m9 : Str → Option Value} {hh9 : Heap} {gg9 : Array GenState} {dd9 : Drawn} {tt9 : Nat} {oo9 : OsState} {Q9 E9 : Value → Shared → Prop} {A9 : Around} {cur9 : Led} (aS : Addr) (σ : Src) (tL : Addr) (a0 a1 a2 : Addr) (x0 y0 x1 y1 x2 y2 : Tok) (n : Nat) (rest : Led) (hA9 : A9 = ktrTop dp9 un9 gd9 cn9 cs9 L9 a9 ccd9 cl9 outer9) (B9 : Below A₀9 base9 outer9 h₀9) (F9 : Fr h₀9 L9 hh9 m9) (X9 : (hd.heap_39 w9.params).In h₀9) (N9 : News h₀9 L9 hh9 cur9) (K9 : Pick aS (srcO σ) cur9 (rest)) (T9 : Top p9 loose9 mean9 mg9 mb9 h₀9) (hk9 : cs9.kind = .function) (hm : (tL, W.listOf #[.ref a0, .ref a1, .ref a2] n) ∈ rest) (m0 : (a0, tupO [.str (Str.ofString "NOCASE") x0, .str (Str.ofString "nocase") y0]) ∈ rest) (m1 : (a1, tupO [.str (Str.ofString "rtrim") x1, .str (Str.ofString "rtrim") y1]) ∈ rest) (m2 : (a2, tupO [.str (Str.ofString "Binary") x2, .str (Str.ofString "binary") y2]) ∈ rest) (hne : ∀ p ∈ rest, p.1 ≠ aS) (hd9 : dp9 + 5 < recursionLimit) (hu9 : un9 + 8 * 5 < cLine)
    (ret9 : ∀ t x y tx ty σ', ((t, tupO [.str x tx, .str y ty]) ∈ rest) → (IsWord x y) → ∀ h9 tk9, Fr h₀9 L9 h9 m9 → News h₀9 L9 h9 ((aS, srcO σ') :: rest) → Q9 (.ref t) ⟨h9, gg9, dd9, tk9, oo9⟩) :
    wpAny (model prog9 w9) A9 (call (.ref 662) [.ref aS, .ref tL]) Q9 E9 ⟨hh9, gg9, dd9, tt9, oo9⟩ := by
  subst hA9
  refine Spec.useP B9 F9 X9 N9 K9 T9 hk9 (one_word aS σ tL a0 a1 a2 x0 y0 x1 y1 x2 y2 n rest hm m0 m1 m2 hne) hd9 hu9 fun v nw8 h8 tk8 F8 N8 P8 => ?_
  obtain ⟨t, x, y, tx, ty, σ', rfl, c1, c2, rfl⟩ := P8
  exact ret9 t x y tx ty σ' c1 c2 h8 tk8 F8 N8
theorem one_typeu {prog9 : Program} {w9 : World} {p9 : Program} {loose9 : List Str} {mean9 : ExcName → Option Value} {mg9 mb9 : Str → Option Value} {dp9 un9 : Nat} {gd9 : Option (List Code)} {cn9 : Str} {cs9 : Scope} {a9 : Addr} {ccd9 : Value} {cl9 : List (Str × Addr)} {outer9 : List Env} {A₀9 : Around} {base9 h₀9 : Heap} {L9 : Addr} {m9 : Str → Option Value} {hh9 : Heap} {gg9 : Array GenState} {dd9 : Drawn} {tt9 : Nat} {oo9 : OsState} {Q9 E9 : Value → Shared → Prop} {A9 : Around} {cur9 : Led} (aS : Addr) (σ : Src) (tL : Addr) (a0 a1 a2 a3 : Addr) (x0 y0 x1 y1 x2 y2 x3 y3 : Tok) (n : Nat) (rest : Led) (hA9 : A9 = ktrTop dp9 un9 gd9 cn9 cs9 L9 a9 ccd9 cl9 outer9) (B9 : Below A₀9 base9 outer9 h₀9) (F9 : Fr h₀9 L9 hh9 m9) (X9 : (hd.heap_39 w9.params).In h₀9) (N9 : News h₀9 L9 hh9 cur9) (K9 : Pick aS (srcO σ) cur9 (rest)) (T9 : Top p9 loose9 mean9 mg9 mb9 h₀9) (hk9 : cs9.kind = .function) (hm : (tL, W.listOf #[.ref a0, .ref a1, .ref a2, .ref a3] n) ∈ rest) (m0 : (a0, tupO [.str (Str.ofString "BIGINT") x0, .str (Str.ofString "integer") y0]) ∈ rest) (m1 : (a1, tupO [.str (Str.ofString "Char(9)") x1, .str (Str.ofString "text") y1]) ∈ rest) (m2 : (a2, tupO [.str (Str.ofString "BLOB") x2, .str (Str.ofString "blob") y2]) ∈ rest) (m3 : (a3, tupO [.str (Str.ofString "DATE") x3, .str (Str.ofString "numeric") y3]) ∈ rest) (hne : ∀ p ∈ rest, p.1 ≠ aS) (hd9 : dp9 + 5 < recursionLimit) (hu9 : un9 + 8 * 5 < cLine)
    (ret9 : ∀ t x y tx ty σ', ((t, tupO [.str x tx, .str y ty]) ∈ rest) → (IsType x y) → ∀ h9 tk9, Fr h₀9 L9 h9 m9 → News h₀9 L9 h9 ((aS, srcO σ') :: rest) → Q9 (.ref t) ⟨h9, gg9, dd9, tk9, oo9⟩) :
    wpAny (model prog9 w9) A9 (call (.ref 662) [.ref aS, .ref tL]) Q9 E9 ⟨hh9, gg9, dd9, tt9, oo9⟩ := by
  subst hA9
  refine Spec.useP B9 F9 X9 N9 K9 T9 hk9 (one_type aS σ tL a0 a1 a2 a3 x0 y0 x1 y1 x2 y2 x3 y3 n rest hm m0 m1 m2 m3 hne) hd9 hu9 fun v nw8 h8 tk8 F8 N8 P8 => ?_
  obtain ⟨t, x, y, tx, ty, σ', rfl, c1, c2, rfl⟩ := P8
  exact ret9 t x y tx ty σ' c1 c2 h8 tk8 F8 N8
theorem rows_ones_1 : True := by
  k_with "call ref" => first | (k_here; (with_reducible show wpAny _ _ (call (Value.ref 662) _) _ _ _); (with_reducible refine one_affu _ _ _ _ _ _ _ _ _ (by k_dflt (exact rfl)) (by k_dflt (k_asm)) (by k_dflt (k_asm)) (by k_dflt (k_asm)) (by k_dflt (k_asm)) (by k_dflt (repeat (first | exact Pick.head | apply Pick.tail | apply Pick.app))) (by k_dflt (k_asm)) (by k_dflt (first | exact rfl | assumption)) (by k_dflt (k_extra "lcg_off")) (by k_dflt (k_extra "ktu_offL")) (by k_dflt (k_extra "ktr_room")) (by k_dflt (k_extra "ktr_units")) ?_); intro x9 t9 σ9 ia9 h9 tk9 F9 N9; (try k_sweep); (try k_fold)) | fail "row"
  k_with "call ref" => first | (k_here; (with_reducible show wpAny _ _ (call (Value.ref 662) _) _ _ _); (with_reducible refine one_collu _ _ _ _ _ _ _ _ (by k_dflt (exact rfl)) (by k_dflt (k_asm)) (by k_dflt (k_asm)) (by k_dflt (k_asm)) (by k_dflt (k_asm)) (by k_dflt (repeat (first | exact Pick.head | apply Pick.tail | apply Pick.app))) (by k_dflt (k_asm)) (by k_dflt (first | exact rfl | assumption)) (by k_dflt (k_extra "lcg_off")) (by k_dflt (k_extra "ktu_offL")) (by k_dflt (k_extra "ktr_room")) (by k_dflt (k_extra "ktr_units")) ?_); intro x9 t9 σ9 ia9 h9 tk9 F9 N9; (try k_sweep); (try k_fold)) | fail "row"
  k_with "call ref" => first | (k_here; (with_reducible show wpAny _ _ (call (Value.ref 662) _) _ _ _); (with_reducible refine one_opu _ _ _ _ _ _ _ _ _ _ (by k_dflt (exact rfl)) (by k_dflt (k_asm)) (by k_dflt (k_asm)) (by k_dflt (k_asm)) (by k_dflt (k_asm)) (by k_dflt (repeat (first | exact Pick.head | apply Pick.tail | apply Pick.app))) (by k_dflt (k_asm)) (by k_dflt (first | exact rfl | assumption)) (by k_dflt (k_extra "lcg_off")) (by k_dflt (k_extra "ktu_offL")) (by k_dflt (k_extra "ktr_room")) (by k_dflt (k_extra "ktr_units")) ?_); intro x9 t9 σ9 ia9 h9 tk9 F9 N9; (try k_sweep); (try k_fold)) | fail "row"
  k_with "call ref" => first | (k_here; (with_reducible show wpAny _ _ (call (Value.ref 662) _) _ _ _); (with_reducible refine one_wordu _ _ _ _ _ _ _ _ _ _ _ _ _ _ (by k_dflt (exact rfl)) (by k_dflt (k_asm)) (by k_dflt (k_asm)) (by k_dflt (k_asm)) (by k_dflt (k_asm)) (by k_dflt (repeat (first | exact Pick.head | apply Pick.tail | apply Pick.app))) (by k_dflt (k_asm)) (by k_dflt (first | exact rfl | assumption)) (by k_dflt (k_extra "lcg_off")) (by k_dflt (k_extra "lcg_off")) (by k_dflt (k_extra "lcg_off")) (by k_dflt (k_extra "lcg_off")) (by k_dflt (k_extra "ktu_offL")) (by k_dflt (k_extra "ktr_room")) (by k_dflt (k_extra "ktr_units")) ?_); intro tt9 xx9 yy9 tx9 ty9 σ9 m9 iw9 h9 tk9 F9 N9; (try k_sweep); (try k_fold)) | fail "row"
  k_with "call ref" => first | (k_here; (with_reducible show wpAny _ _ (call (Value.ref 662) _) _ _ _); (with_reducible refine one_typeu _ _ _ _ _ _ _ _ _ _ _ _ _ _ _ _ _ (by k_dflt (exact rfl)) (by k_dflt (k_asm)) (by k_dflt (k_asm)) (by k_dflt (k_asm)) (by k_dflt (k_asm)) (by k_dflt (repeat (first | exact Pick.head | apply Pick.tail | apply Pick.app))) (by k_dflt (k_asm)) (by k_dflt (first | exact rfl | assumption)) (by k_dflt (k_extra "lcg_off")) (by k_dflt (k_extra "lcg_off")) (by k_dflt (k_extra "lcg_off")) (by k_dflt (k_extra "lcg_off")) (by k_dflt (k_extra "lcg_off")) (by k_dflt (k_extra "ktu_offL")) (by k_dflt (k_extra "ktr_room")) (by k_dflt (k_extra "ktr_units")) ?_); intro tt9 xx9 yy9 tx9 ty9 σ9 m9 iw9 h9 tk9 F9 N9; (try k_sweep); (try k_fold)) | fail "row"
  trivial
/-- the columns made so far -/
inductive ColsAt (pre : Led) : List Value → Prop
  | nil : ColsAt pre []
  | snoc {vs : List Value} {t : Addr} {nm a c : Str} {tn ta tc : Tok} : ColsAt pre vs → (t, tupO [.str nm tn, .str a ta, .str c tc]) ∈ pre → IsAff a → IsColl c → ColsAt pre (vs ++ [.ref t])
theorem ColsAt.mono {pre pre' : Led} {vs : List Value} (h : ColsAt pre vs) (hs : ∀ p ∈ pre, p ∈ pre') : ColsAt pre' vs := by
  induction h with
  | nil => exact .nil
  | snoc _ b c d ih => exact .snoc ih (hs _ b) c d
theorem ColsAt.get {pre : Led} {vs : List Value} (h : ColsAt pre vs) : ∃ col : Nat → Col, ∀ k, k < vs.length → vs.getD k .none = .ref (col k).t ∧ ((col k).t, (col k).obj) ∈ pre ∧ IsAff (col k).aff ∧ IsColl (col k).coll := by
  induction h with
  | nil => exact ⟨fun _ => ⟨0, Str.ofString "", Str.ofString "", Str.ofString "", 0, 0, 0⟩, fun k hk => absurd hk (Nat.not_lt_zero k)⟩
  | @snoc vs t nm a c tn ta tc _ m ia ic ih =>
    obtain ⟨col, hc⟩ := ih
    refine ⟨fun k => if k < vs.length then col k else ⟨t, nm, a, c, tn, ta, tc⟩, fun k hk => ?_⟩
    by_cases h : k < vs.length
    · simp only [h, if_true]
      have e : (vs ++ [Value.ref t]).getD k .none = vs.getD k .none := by simp [List.getD, List.getElem?_append_left h]
      rw [e]; exact hc k h
    · have hk' : k = vs.length := by rw [List.length_append, List.length_singleton] at hk; omega
      subst hk'
      simp only [Nat.lt_irrefl, if_false]
      exact ⟨by simp [List.getD], m, ia, ic⟩
theorem sourceN {news pre : Led} {v : Value} {x dx cL uL : Addr} {num : Int} {al kd : Str} {h1 h2 h3 h4 h5 h6 h7 h8 h9 : Int} {t1 t2 t3 t4 t5 t6 t7 t8 t9 tn ta tk : Tok} {n : Nat} {vs : List Value} (e : v = .ref x)
    (m1 : (x, instObj 630 dx) ∈ news)
    (m2 : (dx, dictOf [ent h1 "number" t1 (.int num tn), ent h2 "alias" t2 (.str al ta), ent h3 "table" t3 .none, ent h4 "columns" t4 (.ref cL), ent h5 "select" t5 .none, ent h6 "kind" t6 (.str kd tk), ent h7 "hint" t7 .none, ent h8 "on" t8 .none, ent h9 "using" t9 (.ref uL)] 9) ∈ news)
    (m3 : (cL, W.listOf vs.toArray n) ∈ news) (hc : ColsAt pre vs) (hs : ∀ p ∈ pre, p ∈ news) (hl : vs.length = 3) : ∃ x col, v = .ref x ∧ SourceAt news x num col := by
  obtain ⟨col, hc⟩ := (hc.mono hs).get
  exact ⟨x, col, e, SourceAt.mk m1 m2 m3 hl fun k hk => hc k (by omega)⟩
/-- items_inv where what is kept is an argument of what holds between the turns -/
theorem items_invK {α : Type} {prog : Program} {w : World} {A : Around} {E : Value → Shared → Prop} {s : Shared} {env : Env} {h₀ : Heap} {target : PySem.Expr} {body : List Stmt} {Q : Flow → Shared → Prop} {I : Addr} {ty : String} {keep : Led}
    (f : α → Itm) (V : α → Value → Prop) (hf : ∀ p v h, (f p).Is v h → V p v) (Inv : Led → List α → (Str → Option Value) → Led → Prop) (hk : ∀ K ps m news, Inv K ps m news → SubL K news)
    (turn : ∀ p ps m news h tk o v, Inv keep (p :: ps) m news → V p v → o.cls = .type ty → Fr h₀ env.locals h m → News h₀ env.locals h ((I, o) :: news) →
      wpAny (model prog w) A (assign target env v) (fun _ s₂ => wpAny (model prog w) A (execs body env) (UnrPostW h₀ env.locals { s with heap := h, toks := tk } [(I, o)] (fun m' n' => Inv keep ps m' n') Q) E s₂) E { s with heap := h, toks := tk })
    (stop : ∀ m news h tk, Inv keep [] m news → Fr h₀ env.locals h m → News h₀ env.locals h news → Q .next { s with heap := h, toks := tk }) :
    ∀ ps m news, Inv keep ps m news → ItemsRest prog w A E h₀ env target body Q s [(I, ty)] keep (ps.map f) m news := items_inv f V hf (Inv keep) (hk keep) turn stop
theorem SubL.all {K l : Led} (h : SubL K l) : ∀ p ∈ K, p ∈ l := by
  induction K with
  | nil => exact fun p hp => nomatch hp
  | cons q K ih =>
    intro p hp
    rcases List.mem_cons.mp hp with rfl | hp
    · exact h.1
    · exact ih h.2 p hp
theorem SubL.of {K l : Led} (h : ∀ p ∈ K, p ∈ l) : SubL K l := by
  induction K with
  | nil => trivial
  | cons q K ih => exact ⟨h q (.head _), ih fun p hp => h p (.tail _ hp)⟩
/-- the walk stops here -/
structure Hold (P : Prop) : Prop where
  h : P
section
theorem rows_source_1 : True := by
  k_with "exec For Name Name cons nil" => (fail_if_success k_extra "osource"); first | ((k_here; (rename Fr _ _ _ _ => lF'); (with_unfolding_all refine' For_turns lF' ?_; k_whole))) | fail "row"
  k_with "exec For Name Tuple cons nil" => (fail_if_success k_extra "osource"); first | ((k_here; (rename Fr _ _ _ _ => lF'); (with_unfolding_all refine' For_turns lF' ?_; k_whole))) | fail "row"
  k_with "exec For Tuple Tuple cons nil" => (fail_if_success k_extra "osource"); first | ((k_here; (rename Fr _ _ _ _ => lF'); (with_unfolding_all refine' For_turns lF' ?_; k_whole))) | fail "row"
  k_with "exec For Name Call cons nil" => (fail_if_success k_extra "osource"); first | ((k_here; (rename Fr _ _ _ _ => lF'); (with_unfolding_all refine' For_turns lF' ?_; k_whole))) | fail "row"
  k_with "exec For Name Attribute cons nil" => (fail_if_success k_extra "osource"); first | ((k_here; (rename Fr _ _ _ _ => lF'); (with_unfolding_all refine' For_turns lF' ?_; k_whole))) | fail "row"
  k_with "pyIter str" => (fail_if_success k_extra "osource"); first | ((k_here; k_dflt (refine iter_signs (by rfl) (by decide +kernel) (by k_asm) (by k_asm) ?_); intro i' l1; (try k_lt l1))) | fail "row"
  k_with "pyIter ref" => (fail_if_success k_extra "osource"); first | ((k_here; (with_reducible show wpAny _ _ (pyIter (Value.ref _)) (fun it s₂ => TurnsAt _ _ _ _ _ _ _ _ _ it s₂) _ _); first | ((with_unfolding_all refine' iter_listTurns (by rfl) (by k_asm) (by k_asm) (by k_extra "lcg_off") (by rfl) (by rfl) ?_); intro i' l1; (try k_lt l1)) | ((with_unfolding_all refine' iter_tupTurns (by rfl) (by k_asm) (by k_asm) (by k_extra "lcg_off") (by rfl) (by rfl) ?_); intro i' l1; (try k_lt l1)))) | fail "row"
  k_with "call builtin:list.append" => (fail_if_success k_extra "osource"); first | ((k_here; (with_reducible show wpAny _ _ (call (Value.builtin _) [Value.ref _, _]) _ _ _); k_dflt (refine append_sym (by k_asm) (by k_asm) (by with_reducible assumption) (by k_extra "k_upd") ?_); intro h' F' N'; (try k_sweep))) | fail "row"
  k_with "eval Name" => (fail_if_success k_extra "osource"); first | ((k_here; k_dflt (refine nameX_L (by k_asm) (by first | exact rfl | assumption) ?_))) | fail "row"
  k_with "ItemsRest" => (fail_if_success k_extra "osource"); first | (refine Hold.h ?_) | fail "row"
  trivial
theorem source_spec (aS : Addr) (σ : Src) (num : Int) (tn : Tok) (rest : Led) (hn : num = 3 ∨ num = 8) (hne : ∀ p ∈ rest, p.1 ≠ aS) :
    SpecS 9 669 [.ref aS, .int num tn] aS σ rest (fun pre v => ∃ x col, v = .ref x ∧ SourceAt pre x num col) := Carry.out (by exact Carry.mk : Carry ((by
  unfold SpecS Spec
  intro prog w p loose mean mg mb dp un gd cn cs a ccd cl outer A₀ base h₀ L m s Q E B F X N T hk hd hu hret
  have hn' : 0 ≤ num ∧ num < 10 := by omega
  k_dflt k_extra "ktr_enter"
  k_steps
  refine Hold.mk ?_
  refine items_invK (α := Str × Tok) (fun p => Itm.val (.str p.1 p.2)) (fun p v => v = .str p.1 p.2) (fun _ _ _ e => e) (fun K ps m' n' => ∃ D vs k σ' pre, (∀ p ∈ (D, W.listOf vs.toArray k) :: (aS, srcO σ') :: (pre ++ rest), p ∈ n') ∧ (∀ p ∈ K, p ∈ pre) ∧ ColsAt pre vs ∧ vs.length + ps.length = 3 ∧ (∀ p ∈ pre ++ rest, p.1 ≠ D) ∧ D ≠ aS ∧ FreshA aS pre ∧ Fresh rest pre ∧ (∀ p ∈ (D, W.listOf vs.toArray k) :: (aS, srcO σ') :: (pre ++ rest), p.1 ≠ i') ∧ m' (Str.ofString "columns") = some (.ref D) ∧ m' (Str.ofString "source") = some (.ref aS) ∧ m' (Str.ofString "number") = some (.int num tn)) (fun K ps m9 n9 h9 => by obtain ⟨D, vs, k, σ', pre, e, h, _⟩ := h9; exact SubL.of fun p hp => e _ (.tail _ (.tail _ (List.mem_append_left _ (h p hp))))) ?_ ?_ [(_, _), (_, _), (_, _)] _ _ ?_
  · rintro q ps m9 n9 h9 tk9 o9 v9 ⟨D, vs, k, σ', pre, hs, hK, hC, hl, hD, hDa, f1, f2, hI, hm1, hm2, hm3⟩ rfl hcl F9 N9
    have hDa' := Ne.symm hDa
    have hv : vs.length ≤ 64 := by omega
    replace N9 := News.sub (news := (i', o9) :: (D, W.listOf vs.toArray k) :: (aS, srcO σ') :: (pre ++ rest)) N9 (List.forall_mem_cons.mpr ⟨.head _, fun p hp => .tail _ (hs p hp)⟩)
    k_steps
    refine unr_s (by k_asm) (by k_asm) (by k_extra "ktu_off1L") (by k_extra "ktu_offL") ⟨D, _, _, _, _ :: pre, fun _ h => h, fun p hp => .tail _ (hK p hp), .snoc (hC.mono fun p hp => .tail _ hp) (.head _) (by with_reducible assumption) (by with_reducible assumption), by rw [List.length_append, List.length_singleton]; rw [List.length_cons] at hl; omega, by k_extra "ktu_offL", hDa, by k_extra "tb_start", by k_extra "tb_start", by k_extra "ktu_offL", by assumption, by assumption, by assumption⟩
  · rintro m9 n9 h9 tk9 ⟨D, vs, k, σ', pre, hs, hK, hC, hl, hD, hDa, f1, f2, hI, hm1, hm2, hm3⟩ F9 N9
    replace N9 := News.sub N9 hs
    k_steps

    all_goals (refine finS hret (by k_asm) (by k_asm) (by k_asm) (by k_extra "tb_rel") (by k_extra "tb_start") (by k_extra "tb_start") ?_)
    all_goals (exact sourceN rfl (by k_extra "lcg_off") (by k_extra "lcg_off") (by k_extra "lcg_off") hC (by k_extra "ktu_off1L") (by simpa using hl))
  · exact ⟨_, [], _, _, [_], (by k_extra "ktu_off1L"), (by k_extra "ktu_off1L"), .nil, rfl, (by k_extra "ktu_offL"), (by k_extra "ne"), (by k_extra "tb_start"), (by k_extra "tb_start"), (by k_extra "ktu_offL"), rfl, rfl, rfl⟩
  done
  : SpecS 9 669 [.ref aS, .int num tn] aS σ rest (fun pre v => ∃ x col, v = .ref x ∧ SourceAt pre x num col)) :))

end

theorem source_specu {prog9 : Program} {w9 : World} {p9 : Program} {loose9 : List Str} {mean9 : ExcName → Option Value} {mg9 mb9 : Str → Option Value} {dp9 un9 : Nat} {gd9 : Option (List Code)} {cn9 : Str} {cs9 : Scope} {a9 : Addr} {ccd9 : Value} {cl9 : List (Str × Addr)} {outer9 : List Env} {A₀9 : Around} {base9 h₀9 : Heap} {L9 : Addr} {m9 : Str → Option Value} {hh9 : Heap} {gg9 : Array GenState} {dd9 : Drawn} {tt9 : Nat} {oo9 : OsState} {Q9 E9 : Value → Shared → Prop} {A9 : Around} {cur9 : Led} (aS : Addr) (σ : Src) (num : Int) (tn : Tok) (rest : Led) (hA9 : A9 = ktrTop dp9 un9 gd9 cn9 cs9 L9 a9 ccd9 cl9 outer9) (B9 : Below A₀9 base9 outer9 h₀9) (F9 : Fr h₀9 L9 hh9 m9) (X9 : (hd.heap_39 w9.params).In h₀9) (N9 : News h₀9 L9 hh9 cur9) (K9 : Pick aS (srcO σ) cur9 (rest)) (T9 : Top p9 loose9 mean9 mg9 mb9 h₀9) (hk9 : cs9.kind = .function) (hn : num = 3 ∨ num = 8) (hne : ∀ p ∈ rest, p.1 ≠ aS) (hd9 : dp9 + 9 < recursionLimit) (hu9 : un9 + 8 * 9 < cLine)
    (ret9 : ∀ σ', ∀ pre, FreshA aS pre → Fresh rest pre → ∀ x col, (SourceAt pre x num col) → ∀ h9 tk9, Fr h₀9 L9 h9 m9 → News h₀9 L9 h9 ((aS, srcO σ') :: (pre ++ rest)) → Q9 (.ref x) ⟨h9, gg9, dd9, tk9, oo9⟩) :
    wpAny (model prog9 w9) A9 (call (.ref 669) [.ref aS, .int num tn]) Q9 E9 ⟨hh9, gg9, dd9, tt9, oo9⟩ := by
  subst hA9
  refine Spec.useP B9 F9 X9 N9 K9 T9 hk9 (source_spec aS σ num tn rest hn hne) hd9 hu9 fun v nw8 h8 tk8 F8 N8 P8 => ?_
  obtain ⟨σ', pre, rfl, fa, fr, x, col, rfl, c1⟩ := P8
  exact ret9 σ' pre fa fr x col c1 h8 tk8 F8 N8
theorem rows_source_2 : True := by
  k_with "osource" => skip
  k_with "call ref" => first | (k_here; (with_reducible show wpAny _ _ (call (Value.ref 669) _) _ _ _); (with_reducible refine source_specu _ _ _ _ _ (by k_dflt (exact rfl)) (by k_dflt (k_asm)) (by k_dflt (k_asm)) (by k_dflt (k_asm)) (by k_dflt (k_asm)) (by k_dflt (repeat (first | exact Pick.head | apply Pick.tail | apply Pick.app))) (by k_dflt (k_asm)) (by k_dflt (first | exact rfl | assumption)) (by k_dflt (first | exact Or.inl rfl | exact Or.inr rfl)) (by k_dflt (k_extra "ktu_offL")) (by k_dflt (k_extra "ktr_room")) (by k_dflt (k_extra "ktr_units")) ?_); intro σ9 pre9 fa9 fr9 x9 col9 S9 h9 tk9 F9 N9; (try k_sweep); (try k_fold)) | fail "row"
  trivial
section
theorem type_aff {x y : Str} (h : IsType x y) : IsAff y := by
  rcases h with ⟨_, rfl⟩ | ⟨_, rfl⟩ | ⟨_, rfl⟩ | ⟨_, rfl⟩
  · exact .inl rfl
  · exact .inr (.inr (.inl rfl))
  · exact .inr (.inr (.inr rfl))
  · exact .inr (.inl rfl)
theorem side_spec (aS : Addr) (σ : Src) (own other : Addr) (co cr : Nat → Col) (rest : Led) (ho : SourceAt rest own 3 co) (hr : SourceAt rest other 8 cr) (hne : ∀ p ∈ rest, p.1 ≠ aS) :
    SpecS 12 683 [.ref aS, .ref own, .ref other] aS σ rest (fun pre v => ∃ t x nd, v = .ref t ∧ SideA pre 3 t x nd) := Carry.out (by exact Carry.mk : Carry ((by
  unfold SpecS Spec
  intro prog w p loose mean mg mb dp un gd cn cs a ccd cl outer A₀ base h₀ L m s Q E B F X N T hk hd hu hret
  k_dflt k_extra "ktr_enter"
  k_steps
  all_goals (refine finS hret (by k_asm) (by k_asm) (by k_asm) (by k_extra "tb_rel") (by k_extra "tb_start") (by k_extra "tb_start") ?_)
  · exact ⟨_, _, .name 3 _ _ _, rfl, .mk (te := 0) (by k_extra "lcg_off") (.name (NameAt.mono (by with_reducible assumption) (by k_extra "ktu_off1L"))) (fun _ e => by cases e; with_reducible assumption) (fun _ e => by cases e; with_reducible assumption)⟩
  · exact ⟨_, _, .lit, rfl, .mk (tp := 0) (ta := 0) (te := 0) (tc := 0) (by k_extra "lcg_off") (.lit (.mk (by k_extra "lcg_off") (by k_extra "lcg_off"))) (fun _ e => by cases e) (fun _ e => by cases e)⟩
  · exact ⟨_, _, .coll _ _, rfl, .mk (tp := 0) (ta := 0) (tc := 0) (by k_extra "lcg_off") (.coll (by k_extra "lcg_off") (by k_extra "lcg_off") (.mk (by k_extra "lcg_off") (by k_extra "lcg_off")) (by with_reducible assumption)) (fun _ e => by cases e) (fun _ e => by cases e)⟩
  · exact ⟨_, _, .cast _ _, rfl, .mk (tp := 0) (te := 0) (tc := 0) (by k_extra "lcg_off") (.cast (by k_extra "lcg_off") (by k_extra "lcg_off") (.mk (by k_extra "lcg_off") (by k_extra "lcg_off")) (by with_reducible assumption)) (fun _ e => by cases e; exact type_aff (by with_reducible assumption)) (fun _ e => by cases e)⟩
  · exact ⟨_, _, .plus 3, rfl, .mk (tp := 0) (ta := 0) (te := 0) (tc := 0) (by k_extra "lcg_off") (.plus (by k_extra "lcg_off") (by k_extra "lcg_off") (NameAt.mono (by with_reducible assumption) (by k_extra "ktu_off1L")) (.mk (by k_extra "lcg_off") (by k_extra "lcg_off"))) (fun _ e => by cases e) (fun _ e => by cases e)⟩
  · exact ⟨_, _, .name 8 _ _ _, rfl, .mk (tp := 0) (te := 0) (by k_extra "lcg_off") (.name (NameAt.mono (by with_reducible assumption) (by k_extra "ktu_off1L"))) (fun _ e => by cases e; with_reducible assumption) (fun _ e => by cases e; with_reducible assumption)⟩
  · exact ⟨_, _, .un true 8 _, rfl, .mk (tp := 0) (ta := 0) (te := 0) (by k_extra "lcg_off") (.unP (by k_extra "lcg_off") (by k_extra "lcg_off") (NameAt.mono (by with_reducible assumption) (by k_extra "ktu_off1L"))) (fun _ e => by cases e) (fun _ e => by cases e; with_reducible assumption)⟩
  · exact ⟨_, _, .un false 8 _, rfl, .mk (tp := 0) (ta := 0) (te := 0) (tc := 0) (by k_extra "lcg_off") (.unM (by k_extra "lcg_off") (by k_extra "lcg_off") (NameAt.mono (by with_reducible assumption) (by k_extra "ktu_off1L"))) (fun _ e => by cases e) (fun _ e => by cases e)⟩
  done
  : SpecS 12 683 [.ref aS, .ref own, .ref other] aS σ rest (fun pre v => ∃ t x nd, v = .ref t ∧ SideA pre 3 t x nd)) :))

end

theorem side_specu {prog9 : Program} {w9 : World} {p9 : Program} {loose9 : List Str} {mean9 : ExcName → Option Value} {mg9 mb9 : Str → Option Value} {dp9 un9 : Nat} {gd9 : Option (List Code)} {cn9 : Str} {cs9 : Scope} {a9 : Addr} {ccd9 : Value} {cl9 : List (Str × Addr)} {outer9 : List Env} {A₀9 : Around} {base9 h₀9 : Heap} {L9 : Addr} {m9 : Str → Option Value} {hh9 : Heap} {gg9 : Array GenState} {dd9 : Drawn} {tt9 : Nat} {oo9 : OsState} {Q9 E9 : Value → Shared → Prop} {A9 : Around} {cur9 : Led} (aS : Addr) (σ : Src) (own other : Addr) (co cr : Nat → Col) (rest : Led) (hA9 : A9 = ktrTop dp9 un9 gd9 cn9 cs9 L9 a9 ccd9 cl9 outer9) (B9 : Below A₀9 base9 outer9 h₀9) (F9 : Fr h₀9 L9 hh9 m9) (X9 : (hd.heap_39 w9.params).In h₀9) (N9 : News h₀9 L9 hh9 cur9) (K9 : Pick aS (srcO σ) cur9 (rest)) (T9 : Top p9 loose9 mean9 mg9 mb9 h₀9) (hk9 : cs9.kind = .function) (ho : SourceAt rest own 3 co) (hr : SourceAt rest other 8 cr) (hne : ∀ p ∈ rest, p.1 ≠ aS) (hd9 : dp9 + 12 < recursionLimit) (hu9 : un9 + 8 * 12 < cLine)
    (ret9 : ∀ σ', ∀ pre, FreshA aS pre → Fresh rest pre → ∀ t x nd, (SideA pre 3 t x nd) → ∀ h9 tk9, Fr h₀9 L9 h9 m9 → News h₀9 L9 h9 ((aS, srcO σ') :: (pre ++ rest)) → Q9 (.ref t) ⟨h9, gg9, dd9, tk9, oo9⟩) :
    wpAny (model prog9 w9) A9 (call (.ref 683) [.ref aS, .ref own, .ref other]) Q9 E9 ⟨hh9, gg9, dd9, tt9, oo9⟩ := by
  subst hA9
  refine Spec.useP B9 F9 X9 N9 K9 T9 hk9 (side_spec aS σ own other co cr rest ho hr hne) hd9 hu9 fun v nw8 h8 tk8 F8 N8 P8 => ?_
  obtain ⟨σ', pre, rfl, fa, fr, t, x, nd, rfl, c1⟩ := P8
  exact ret9 σ' pre fa fr t x nd c1 h8 tk8 F8 N8
theorem rows_side_1 : True := by
  k_with "call ref" => first | (k_here; (with_reducible show wpAny _ _ (call (Value.ref 683) _) _ _ _); (with_reducible refine side_specu _ _ _ _ _ _ _ (by k_dflt (exact rfl)) (by k_dflt (k_asm)) (by k_dflt (k_asm)) (by k_dflt (k_asm)) (by k_dflt (k_asm)) (by k_dflt (repeat (first | exact Pick.head | apply Pick.tail | apply Pick.app))) (by k_dflt (k_asm)) (by k_dflt (first | exact rfl | assumption)) (by k_dflt (first | with_reducible assumption | exact SourceAt.mono (by with_reducible assumption) (by k_extra "ktu_off1L"))) (by k_dflt (first | with_reducible assumption | exact SourceAt.mono (by with_reducible assumption) (by k_extra "ktu_off1L"))) (by k_dflt (k_extra "ktu_offL")) (by k_dflt (k_extra "ktr_room")) (by k_dflt (k_extra "ktr_units")) ?_); intro σ9 pre9 fa9 fr9 t9 x9 nd9 S9 h9 tk9 F9 N9; have S8 := S9; obtain ⟨m9, n9, ha9, hc9⟩ := S8; (try k_sweep); (try k_fold)) | fail "row"
  trivial
theorem turned_spec (op : Str) (to : Tok) (news : Led) (h : IsOp op) : SpecP 3 695 [.str op to] news (fun v => ∃ t, v = .str (turnOp op) t) := Carry.out (by exact Carry.mk : Carry ((by
  unfold SpecP Spec
  intro prog w p loose mean mg mb dp un gd cn cs a ccd cl outer A₀ base h₀ L m s Q E B F X N T hk hd hu hret
  rcases h with rfl | rfl | rfl | rfl | rfl
  all_goals (k_dflt k_extra "ktr_enter"; k_steps)
  all_goals (refine finP hret (by k_asm) (by k_asm) (by k_asm) (by k_extra "tb_rel") ?_; refine ⟨_, congrArg (fun z => Value.str z _) ?_⟩; decide +kernel)
  done
  : SpecP 3 695 [.str op to] news (fun v => ∃ t, v = .str (turnOp op) t)) :))

theorem turned_specu {prog9 : Program} {w9 : World} {p9 : Program} {loose9 : List Str} {mean9 : ExcName → Option Value} {mg9 mb9 : Str → Option Value} {dp9 un9 : Nat} {gd9 : Option (List Code)} {cn9 : Str} {cs9 : Scope} {a9 : Addr} {ccd9 : Value} {cl9 : List (Str × Addr)} {outer9 : List Env} {A₀9 : Around} {base9 h₀9 : Heap} {L9 : Addr} {m9 : Str → Option Value} {hh9 : Heap} {gg9 : Array GenState} {dd9 : Drawn} {tt9 : Nat} {oo9 : OsState} {Q9 E9 : Value → Shared → Prop} {A9 : Around} (op : Str) (to : Tok) (news : Led) (hA9 : A9 = ktrTop dp9 un9 gd9 cn9 cs9 L9 a9 ccd9 cl9 outer9) (B9 : Below A₀9 base9 outer9 h₀9) (F9 : Fr h₀9 L9 hh9 m9) (X9 : (hd.heap_39 w9.params).In h₀9) (N9 : News h₀9 L9 hh9 news) (T9 : Top p9 loose9 mean9 mg9 mb9 h₀9) (hk9 : cs9.kind = .function) (h : IsOp op) (hd9 : dp9 + 3 < recursionLimit) (hu9 : un9 + 8 * 3 < cLine)
    (ret9 : ∀ t, ∀ h9 tk9, Fr h₀9 L9 h9 m9 → News h₀9 L9 h9 (news) → Q9 (.str (turnOp op) t) ⟨h9, gg9, dd9, tk9, oo9⟩) :
    wpAny (model prog9 w9) A9 (call (.ref 695) [.str op to]) Q9 E9 ⟨hh9, gg9, dd9, tt9, oo9⟩ := by
  subst hA9
  refine Spec.useN B9 F9 X9 N9 T9 hk9 (turned_spec op to news h) hd9 hu9 fun v nw8 h8 tk8 F8 N8 P8 => ?_
  obtain ⟨rfl, t, rfl⟩ := P8
  exact ret9 t h8 tk8 F8 N8
theorem rows_turned_1 : True := by
  k_with "call ref" => first | (k_here; (with_reducible show wpAny _ _ (call (Value.ref 695) _) _ _ _); (with_reducible refine turned_specu _ _ _ (by k_dflt (exact rfl)) (by k_dflt (k_asm)) (by k_dflt (k_asm)) (by k_dflt (k_asm)) (by k_dflt (k_asm)) (by k_dflt (k_asm)) (by k_dflt (first | exact rfl | assumption)) (by k_dflt (with_reducible assumption)) (by k_dflt (k_extra "ktr_room")) (by k_dflt (k_extra "ktr_units")) ?_); intro t9 h9 tk9 F9 N9; (try k_sweep); (try k_fold)) | fail "row"
  trivial
section
open LCg LCt PySem.Calls
variable {prog : Program} {w : World} {A : Around} {E : Value → Shared → Prop} {s : Shared} {h₀ : Heap} {L : Addr} {m : Str → Option Value} {env : Env}
def DropTup (A : Around) (h₀ : Heap) (L : Addr) (m : Str → Option Value) (Fin : Shared → List Value → Led → Prop) (xv : Value) (s₁ : Shared) : Prop :=
  ∃ (ax : Addr) (vs : List Value) (news : Led), xv = .ref ax ∧ A.handled = none ∧ Fr h₀ L s₁.heap m ∧ News h₀ L s₁.heap news ∧ (ax, tupO vs) ∈ news ∧ vs.length ≤ 12 ∧ ∀ g, Fin { s₁ with heap := g } (vs.filter keepV) news
theorem dropTup {Fin : Shared → List Value → Led → Prop} {ax : Addr} {vs : List Value} {news : Led} {s₁ : Shared} (hh : A.handled = none) (F : Fr h₀ L s₁.heap m) (N : News h₀ L s₁.heap news) (hm : (ax, tupO vs) ∈ news) (hl : vs.length ≤ 12)
    (h : ∀ g, Fin { s₁ with heap := g } (vs.filter keepV) news) : DropTup A h₀ L m Fin (.ref ax) s₁ := ⟨ax, vs, news, rfl, hh, F, N, hm, hl, h⟩
theorem comp_dropA {iter : PySem.Expr} {x y : Str} {px py p1 p2 p3 p4 : Pos} {k0 : Nat} {scope : Scope} {cl : List (Str × Addr)} {pos spos : Pos} {Q : Flow → Shared → Prop} (_F₀ : Fr h₀ L s.heap m) (hLe : env.locals = L)
    (hsw : swapsWith (.ListComp (.Name x p4) [⟨.Name x px, iter, [.Compare (.Name x p1) [.IsNot] [.Constant .none k0 p2] p3], 0⟩] scope pos) (some (.Name y py)) spos.line env = pure true)
    (hclos : closureFor scope env = pure cl) (hcell : ∀ z ∈ scope.names, z.2 ≠ .cell) (hkind : scope.kind = .function)
    (hnames : ∀ z ∈ scope.names, z.2 = .local → scope.names.lookup z.1 = some .local) (hx : scope.names.lookup x = some .local) (hd : (x == ("__debug__" : Str)) = false)
    (hy : env.kindOf y = some .local) (hp : (env.scope.kind == .class || (env.scope.kind == .module && env.locals != env.globals)) = false)
    (h : wpAny (model prog w) A (eval iter env) (DropTup A h₀ L m (fun s₂ => FinA h₀ L m s₂ y Q)) E s)
    (hs : ∀ x, foldedSetIterable iter env x = pure x := by intro _; rfl) :
    wpAny (model prog w) A (exec (.Assign [.Name y py] (.ListComp (.Name x p4) [⟨.Name x px, iter, [.Compare (.Name x p1) [.IsNot] [.Constant .none k0 p2] p3], 0⟩] scope pos) spos) env) Q E s := by
  subst hLe
  rw [exec_Assign_Name_used _ _ _ _ hsw]
  refine wpAny_bind (wpAny_standAt (wpAny_bind ?_))
  refine wpAny_bind (wpAny_mono (wpAny_comprehension_free (use := some (assign (.Name y py) env)) (Q := fun _ s' => Q .next s') rfl hs hclos hkind hnames
    (wpAny_mono h (fun xv s₁ h₁ => ?_) fun _ _ e => e)) (fun _ s' hq => wpAny_pure (wpAny_pure hq)) fun _ _ e => e)
  obtain ⟨ax, vs, news, rfl, hh, F, N, hm, hl, k⟩ := h₁
  have ht : s₁.heap.IsTuple ax vs.toArray := ⟨_, (N _ hm).1, rfl, _, rfl⟩
  have hlt : ax < s₁.heap.objs.size := Heap.lt_size (N _ hm).1
  have e : vs.toArray.size = vs.length := List.size_toArray
  refine wpAny_pyIter_tuple ht ?_
  have up : ∀ b o, s₁.heap.get? b = some o → (s₁.heap.push { cls := .type "tuple_iterator", data := .fields #[.ref ax, .int 0 0] }).get? b = some o := fun b o e => Heap.get?_push_of_some _ e
  refine block_T (Walks.tuple hh s₁.heap.objs.size ax (Nat.ne_of_lt hlt) vs.toArray) (by rw [e, sizeLine_eq]; omega) (fun i h st => by obtain ⟨o, e, _⟩ := st.1; exact ⟨o, e⟩)
    (S := fun nw => (ax, tupO vs) ∈ nw) (Fin := FinA h₀ env.locals m { s₁ with heap := s₁.heap.push { cls := .type "tuple_iterator", data := .fields #[.ref ax, .int 0 0] } } y Q)
    (fun i h h' o nw st e e' k N S => ⟨by obtain ⟨o', q, r⟩ := st.1; rw [e] at q; cases q; exact ⟨o, e', r⟩, ⟨_, (N _ S).1, rfl, _, rfl⟩⟩) hcell hkind hx ⟨⟨_, Heap.get?_push_size _ rfl, rfl, rfl⟩, ht.at fun o e => up _ _ e⟩ (fun b hb => ?_)
    (F.keeps up) (N.grown up) (Nat.ne_of_lt F.ns.lt) (next_free F) (fun p hp => Nat.ne_of_lt (Heap.lt_size (N p hp).1)) hm (drop_rest hkind hx hd hm _ 0 [] (by rw [e]; rfl) (k _)) ?_
  · show b < (s₁.heap.push _).objs.size
    rw [Heap.size_push]
    rcases List.mem_cons.mp hb with rfl | hb
    · exact Nat.lt_succ_self _
    · rw [List.mem_singleton.mp hb]; exact Nat.lt_succ_of_lt hlt
  · intro D C h' tk m' ys news' F' N' o1 hn hC₀ hD₀ hCL hDL hCD offC fin
    show wpAny _ A (assign (.Name y py) env (.ref D)) _ _ _
    refine wpAny_assign_Name (wpAny_storeName_local hy F'.ns (fun h₂ hn₂ hs₂ => ?_) hp)
    have hL₀ : h₀.get? env.locals = none := Heap.get?_none_of_le F'.above
    have F₂ : Fr h₀ env.locals h₂ (fun z => if z = y then some (.ref D) else m z) := ⟨hn₂, fun b o e => hs₂.extBut b o (fun q => by rw [q, hL₀] at e; cases e) (F'.keep b o e), F'.above⟩
    refine ⟨m', hn.sameBut hs₂ hCL, fun h'' hs'' => fin D h'' _ (F₂.change hs'' hCL hC₀) (fun p hp => ?_) o1⟩
    have z : h₂.get? p.1 = some p.2 := hs₂.extBut _ _ (N' p hp).2.1 (N' p hp).1
    refine ⟨hs''.extBut _ _ ?_ z, (N' p hp).2⟩
    rcases List.mem_cons.mp hp with rfl | hp
    · exact Ne.symm hCD
    · exact offC p hp
end

theorem rows_lawbound_1 : True := by
  k_with "i1" => skip
  trivial
/-- what the law reckons: a tuple of place, operator, [value], affinity, collation -/
inductive DueAt (news : Led) : Value → Bd → Prop
  | mk {t l : Addr} {place : Int} {op : Str} {v : Value} {led : Option Str} {coll : Str} {n : Nat} {tp to tl tc : Tok} :
    (t, tupO [.int place tp, .str op to, .ref l, ov led tl, .str coll tc]) ∈ news → (l, W.listOf #[v] n) ∈ news → DueAt news (.ref t) ⟨place, op, v, led, coll⟩
theorem DueAt.mono {news news' : Led} {v : Value} {d : Bd} (h : DueAt news v d) (hs : ∀ p ∈ news, p ∈ news') : DueAt news' v d := by
  cases h with | mk a b => exact .mk (hs _ a) (hs _ b)
inductive DuesAt (news : Led) : List Value → List Bd → Prop
  | nil : DuesAt news [] []
  | cons {v : Value} {d : Bd} {vs : List Value} {ds : List Bd} : DueAt news v d → DuesAt news vs ds → DuesAt news (v :: vs) (d :: ds)
theorem DuesAt.mono {news news' : Led} {vs : List Value} {ds : List Bd} (h : DuesAt news vs ds) (hs : ∀ p ∈ news, p ∈ news') : DuesAt news' vs ds := by
  induction h with
  | nil => exact .nil
  | cons a _ ih => exact .cons (a.mono hs) ih
theorem DuesAt.app {news : Led} {vs us : List Value} {ds es : List Bd} (h : DuesAt news vs ds) (k : DuesAt news us es) : DuesAt news (vs ++ us) (ds ++ es) := by
  induction h with
  | nil => exact k
  | cons a _ ih => exact .cons a ih
theorem DuesAt.len {news : Led} {vs : List Value} {ds : List Bd} (h : DuesAt news vs ds) : vs.length = ds.length := by
  induction h with
  | nil => rfl
  | cons _ _ ih => simp only [List.length_cons, ih]
def tellColl (o1 o2 o3 o4 : Option Str) : Str := match orC o1 (orC o2 (orC o3 o4)) with
  | some x => x
  | none => Str.ofString "binary"
theorem told_head (o1 o2 o3 o4 : Option Str) (t1 t2 t3 t4 tb : Tok) : ∃ t, (([ov o1 t1, ov o2 t2, ov o3 t3, ov o4 t4].filter keepV) ++ [Value.str (Str.ofString "binary") tb]).getD 0 .none = .str (tellColl o1 o2 o3 o4) t := by
  cases o1 <;> cases o2 <;> cases o3 <;> cases o4 <;> exact ⟨_, rfl⟩
theorem filter_len {vs : List Value} : (vs.filter keepV).length ≤ vs.length := List.length_filter_le ..
section
open PySem.Calls
variable {prog : Program} {w : World} {A : Around} {E : Value → Shared → Prop} {s : Shared} {h₀ : Heap} {L a b l : Addr} {m : Str → Option Value} {news : Led} {vs us : List Value} {n k : Nat} {Q : Value → Shared → Prop}
theorem add_sym (F : Fr h₀ L s.heap m) (N : News h₀ L s.heap news) (ha : (a, W.listOf vs.toArray n) ∈ news) (hb : (b, W.listOf us.toArray k) ∈ news) (hz : vs.length + us.length ≤ 64)
    (h : ∀ D h', Fr h₀ L h' m → News h₀ L h' ((D, W.listOf (vs ++ us).toArray 0) :: news) → (∀ p ∈ news, p.1 < D) → Q (.ref D) { s with heap := h' }) :
    wpAny (model prog w) A (binaryOp .Add (.ref a) (.ref b)) Q E s :=
  add_lists F N (News.isL N ha) (News.isL N hb) (fun h' F' N' => h _ h' F' N' fun p hp => Heap.lt_size (N p hp).1) (by rw [sizeLine_eq]; omega)
theorem told_item {value slice : PySem.Expr} {u t1 t2 t3 t4 tb : Tok} {o1 o2 o3 o4 : Option Str} (N : News h₀ L s.heap news) (hm : (l, W.listOf (([ov o1 t1, ov o2 t2, ov o3 t3, ov o4 t4].filter keepV) ++ [Value.str (Str.ofString "binary") tb]).toArray n) ∈ news)
    (h : ∀ t, Q (.str (tellColl o1 o2 o3 o4) t) s)
    (hs : subscripted slice false (.ref l) (.int 0 u) = operate [.ref l, .int 0 u] (getItem (.ref l) (.int 0 u)) := by with_unfolding_all rfl) :
    wpAny (model prog w) A (subscriptTail value slice (.ref l) (.int 0 u)) Q E s := by
  have q := @filter_len [ov o1 t1, ov o2 t2, ov o3 t3, ov o4 t4]
  have q' : [ov o1 t1, ov o2 t2, ov o3 t3, ov o4 t4].length = 4 := rfl
  refine item_sym N hm (Int.le_refl 0) ?_ ?_ ?_ hs
  · rw [List.length_append]; simp only [List.length_cons, List.length_nil]; omega
  · rw [List.length_append]; simp only [List.length_cons, List.length_nil] at q ⊢; omega
  · obtain ⟨t, e⟩ := told_head o1 o2 o3 o4 t1 t2 t3 t4 tb
    show Q (List.getD _ 0 _) s
    rw [e]
    exact h t
end
def vnum (o : Option Str) : Bool := o.any isNum
theorem isnone_ov {o : Option Str} {t : Tok} : (ov o t == Value.none) = o.isNone := by cases o <;> rfl
/-- behind a statement that may have stored a text under y: one frame whichever way was gone -/
def JoinL (h₀ : Heap) (L : Addr) (m : Str → Option Value) (s : Shared) (news : Led) (y : Str) (o : Option Str) (Q : Flow → Shared → Prop) : Flow → Shared → Prop
  | .next, s' => ∃ o' t h tk, s' = { s with heap := h, toks := tk } ∧ o' = o ∧ Fr h₀ L h (fun z => if z = y then some (ov o' t) else m z) ∧ News h₀ L h news
  | fl, s' => Q fl s'
/-- behind a statement that may have left: what is known where it has not -/
def JoinS (h₀ : Heap) (L : Addr) (m : Str → Option Value) (s : Shared) (news : Led) (R : Prop) (Q : Flow → Shared → Prop) : Flow → Shared → Prop
  | .next, s' => ∃ h tk, s' = { s with heap := h, toks := tk } ∧ R ∧ Fr h₀ L h m ∧ News h₀ L h news
  | fl, s' => Q fl s'
section
open PySem.Calls
variable {prog : Program} {w : World} {A : Around} {E : Value → Shared → Prop} {s : Shared} {h₀ : Heap} {L a : Addr} {m : Str → Option Value} {news cur : Led} {items : Array Value} {o : Option Str} {t : Tok} {Q : Value → Shared → Prop} {QF : Flow → Shared → Prop} {st : Stmt} {env : Env} {y : Str} {R : Prop}
theorem in_ov (ht : IsTup s.heap a items) (hi : StrsAre items.toList [Str.ofString "integer", Str.ofString "numeric"]) (hu : A.units + 2 < cLine) (h : Q (.bool (vnum o)) s) : wpAny (model prog w) A (compareOp .In (ov o t) (.ref a)) Q E s := by
  cases o with
  | none => exact in_none ht hi hu h
  | some x => exact in_num ht hi rfl h
theorem notin_ov (ht : IsTup s.heap a items) (hi : StrsAre items.toList [Str.ofString "integer", Str.ofString "numeric"]) (hu : A.units + 2 < cLine) (h : Q (.bool (!vnum o)) s) : wpAny (model prog w) A (compareOp .NotIn (ov o t) (.ref a)) Q E s := by
  cases o with
  | none => exact notin_none ht hi hu h
  | some x => exact notin_num ht hi rfl h
theorem is_none_ov (h : Q (.bool o.isNone) s) : wpAny (model prog w) A (compareOp .Is (ov o t) .none) Q E s := is_none (by rw [isnone_ov]; exact h)
theorem frSame {h : Heap} {v : Value} (F : Fr h₀ L h m) (e : m y = some v) : Fr h₀ L h (fun z => if z = y then some v else m z) := by
  have q : (fun z => if z = y then some v else m z) = m := by
    funext z
    by_cases hz : z = y
    · subst hz; simp only [if_true, e]
    · simp only [hz, if_false]
  rw [q]
  exact F
theorem joinL (_F : Fr h₀ L s.heap m) (_N : News h₀ L s.heap news) (h1 : wpAny (model prog w) A (exec st env) (JoinL h₀ L m s news y o QF) E s)
    (h2 : ∀ t h tk, Fr h₀ L h (fun z => if z = y then some (ov o t) else m z) → News h₀ L h news → QF .next { s with heap := h, toks := tk }) : wpAny (model prog w) A (exec st env) QF E s := by
  refine wpAny_mono h1 (fun fl s' q => ?_) fun _ _ e => e
  cases fl with
  | next => obtain ⟨o', t, h, tk, rfl, rfl, F, N⟩ := q; exact h2 t h tk F N
  | _ => exact q
theorem joinS (_F : Fr h₀ L s.heap m) (_N : News h₀ L s.heap news) (h1 : wpAny (model prog w) A (exec st env) (JoinS h₀ L m s news R QF) E s)
    (h2 : ∀ h tk, R → Fr h₀ L h m → News h₀ L h news → QF .next { s with heap := h, toks := tk }) : wpAny (model prog w) A (exec st env) QF E s := by
  refine wpAny_mono h1 (fun fl s' q => ?_) fun _ _ e => e
  cases fl with
  | next => obtain ⟨h, tk, rfl, r, F, N⟩ := q; exact h2 h tk r F N
  | _ => exact q
theorem joinL_set {h : Heap} {tk : Nat} {x : Str} (F : Fr h₀ L h (fun z => if z = y then some (.str x t) else m z)) (N : News h₀ L h cur) (hs : ∀ p ∈ news, p ∈ cur) (e : some x = o) : JoinL h₀ L m s news y o QF .next { s with heap := h, toks := tk } :=
  ⟨some x, t, h, tk, rfl, e, F, News.sub N hs⟩
theorem joinL_keep {h : Heap} {tk : Nat} {o' : Option Str} (F : Fr h₀ L h m) (N : News h₀ L h cur) (hm : m y = some (ov o' t)) (hs : ∀ p ∈ news, p ∈ cur) (e : o' = o) : JoinL h₀ L m s news y o QF .next { s with heap := h, toks := tk } :=
  ⟨o', t, h, tk, rfl, e, frSame F hm, News.sub N hs⟩
theorem joinS_ret {s' : Shared} {v : Value} (h : QF (.ret v) s') : JoinS h₀ L m s news R QF (.ret v) s' := h
theorem joinS_end {h : Heap} {tk : Nat} (F : Fr h₀ L h m) (N : News h₀ L h cur) (hs : ∀ p ∈ news, p ∈ cur) (r : R) : JoinS h₀ L m s news R QF .next { s with heap := h, toks := tk } :=
  ⟨h, tk, rfl, r, F, News.sub N hs⟩
end
theorem cmpAff_led {aff : Str} {va : Option Str} (h : (isNum aff || !vnum va) = true) :
    cmpAff aff va = (none, if (isText aff && va.isNone) = true then some (Str.ofString "text") else if (isNum aff && !vnum va) = true then some (Str.ofString "numeric") else none) := by
  have hT : isText aff = true → isNum aff = false := by
    intro hT
    simp only [isText, beq_iff_eq] at hT
    subst hT
    decide +kernel
  cases va with
  | none => cases hA : isNum aff <;> cases hB : isText aff <;> simp_all [cmpAff, vnum]
  | some x => cases hA : isNum aff <;> cases hB : isNum x <;> simp_all [cmpAff, vnum]
theorem cmpAff_kept {aff : Str} {va : Option Str} (h : isNum aff = false) (h2 : vnum va = true) : (cmpAff aff va).1 = some (Str.ofString "numeric") := by
  cases va with
  | none => cases h2
  | some x => simp_all [cmpAff, vnum]
section
theorem rows_lawbound_2 : True := by
  k_with "compareOp In str ref" => (fail_if_success k_extra "olawbound"); first | ((k_here; (with_reducible show wpAny _ _ (compareOp CmpOp.In (Value.str _ _) (Value.ref _)) _ _ _); k_dflt (refine' in_num (by first | exact News.isTup (by k_asm) (by k_extra "lcg_off") | exact tupK (Frag.In.keeps (by k_asm) (Fr.keep (by k_asm))) (by k_is)) (by kde_strs) (by assumption) ?_; k_whole))) | fail "row"
  k_with "compareOp NotIn str ref" => (fail_if_success k_extra "olawbound"); first | ((k_here; (with_reducible show wpAny _ _ (compareOp CmpOp.NotIn (Value.str _ _) (Value.ref _)) _ _ _); k_dflt (refine' notin_num (by first | exact News.isTup (by k_asm) (by k_extra "lcg_off") | exact tupK (Frag.In.keeps (by k_asm) (Fr.keep (by k_asm))) (by k_is)) (by kde_strs) (by assumption) ?_; k_whole))) | fail "row"
  k_with "compareOp Eq str str" => (fail_if_success k_extra "olawbound"); first | ((k_here; (with_reducible show wpAny _ _ (compareOp CmpOp.Eq (Value.str _ _) (Value.str _ _)) _ _ _); k_dflt (refine' eq_text (by with_reducible assumption) ?_; k_whole))) | fail "row"
  k_with "compareOp In none ref" => (fail_if_success k_extra "olawbound"); first | ((k_here; k_dflt (refine' in_none (by first | exact News.isTup (by k_asm) (by k_extra "lcg_off") | exact tupK (Frag.In.keeps (by k_asm) (Fr.keep (by k_asm))) (by k_is)) (by kde_strs) (by k_extra "ktr_units") ?_; k_whole))) | fail "row"
  k_with "compareOp NotIn none ref" => (fail_if_success k_extra "olawbound"); first | ((k_here; k_dflt (refine' notin_none (by first | exact News.isTup (by k_asm) (by k_extra "lcg_off") | exact tupK (Frag.In.keeps (by k_asm) (Fr.keep (by k_asm))) (by k_is)) (by kde_strs) (by k_extra "ktr_units") ?_; k_whole))) | fail "row"
  k_with "exec Assign cons ListComp" => (fail_if_success k_extra "olawbound"); first | ((k_here; k_dflt (refine comp_dropA (by k_asm) (by rfl) (by with_unfolding_all rfl) (by with_unfolding_all rfl) (by decide) (by rfl) (by decide) (by rfl) (by decide) (by rfl) (by rfl) ?_))) | fail "row"
  k_with "DropTup" => (fail_if_success k_extra "olawbound"); first | ((k_here; k_dflt (refine' dropTup (by rfl) (by k_asm) (by k_asm) (by k_extra "lcg_off") (by exact Nat.le_of_ble_eq_true rfl) ?_); intro g')) | fail "row"
  k_with "compareOp In" => (fail_if_success k_extra "olawbound"); first | ((k_here; (with_reducible show wpAny _ _ (compareOp CmpOp.In (ov _ _) (Value.ref _)) _ _ _); k_dflt (refine' in_ov (by first | exact News.isTup (by k_asm) (by k_extra "lcg_off") | exact tupK (Frag.In.keeps (by k_asm) (Fr.keep (by k_asm))) (by k_is)) (by kde_strs) (by k_extra "ktr_units") ?_; k_whole))) | fail "row"
  k_with "compareOp NotIn" => (fail_if_success k_extra "olawbound"); first | ((k_here; (with_reducible show wpAny _ _ (compareOp CmpOp.NotIn (ov _ _) (Value.ref _)) _ _ _); k_dflt (refine' notin_ov (by first | exact News.isTup (by k_asm) (by k_extra "lcg_off") | exact tupK (Frag.In.keeps (by k_asm) (Fr.keep (by k_asm))) (by k_is)) (by kde_strs) (by k_extra "ktr_units") ?_; k_whole))) | fail "row"
  k_with "compareOp Is" => (fail_if_success k_extra "olawbound"); first | ((k_here; (with_reducible show wpAny _ _ (compareOp CmpOp.Is (ov _ _) Value.none) _ _ _); k_dflt (refine' is_none_ov ?_; k_whole))) | fail "row"
  k_with "compareOp Eq str str" => (fail_if_success k_extra "olawbound"); first | ((k_here; (with_reducible show wpAny _ _ (compareOp CmpOp.Eq (Value.str _ _) (Value.str _ _)) _ _ _); k_dflt (refine' eq_text (by rfl) ?_; k_whole))) | fail "row"
  k_with "compareOp In str ref" => (fail_if_success k_extra "olawbound"); first | ((k_here; (with_reducible show wpAny _ _ (compareOp CmpOp.In (Value.str _ _) (Value.ref _)) _ _ _); k_dflt (refine' in_num (by first | exact News.isTup (by k_asm) (by k_extra "lcg_off") | exact tupK (Frag.In.keeps (by k_asm) (Fr.keep (by k_asm))) (by k_is)) (by kde_strs) (by rfl) ?_; k_whole))) | fail "row"
  k_with "exec If" => (fail_if_success k_extra "olawbound"); first | ((k_here; (with_reducible show wpAny _ _ (exec (Stmt.If _ [Stmt.Return _ _] _ _) _) _ _ _); (fail_if_success (with_reducible show wpAny _ _ _ (JoinS _ _ _ _ _ _ _) _ _)); k_dflt (refine joinS (R := (isNum aff || !vnum va) = true) (by k_asm) (by k_asm) ?_ (fun h9 tk9 hR9 F9 N9 => ?_)))) | fail "row"
  k_with "exec If" => (fail_if_success k_extra "olawbound"); first | ((k_here; (with_reducible show wpAny _ _ (exec (Stmt.If _ [Stmt.Assign [PySem.Expr.Name _ _] (PySem.Expr.Constant (Const.str (Str.ofString "numeric")) _ _) _] _ _) _) _ _ _); (fail_if_success (with_reducible show wpAny _ _ _ (JoinL _ _ _ _ _ _ _ _) _ _)); k_dflt (refine joinL (y := Str.ofString "led") (o := if (isNum aff && !vnum va) = true then some (Str.ofString "numeric") else none) (by k_asm) (by k_asm) ?_ (fun t9 h9 tk9 F9 N9 => ?_)))) | fail "row"
  k_with "exec If" => (fail_if_success k_extra "olawbound"); first | ((k_here; (with_reducible show wpAny _ _ (exec (Stmt.If _ [Stmt.Assign [PySem.Expr.Name _ _] (PySem.Expr.Constant (Const.str (Str.ofString "text")) _ _) _] _ _) _) _ _ _); (fail_if_success (with_reducible show wpAny _ _ _ (JoinL _ _ _ _ _ _ _ _) _ _)); k_dflt (refine joinL (y := Str.ofString "led") (o := if (isText aff && va.isNone) = true then some (Str.ofString "text") else if (isNum aff && !vnum va) = true then some (Str.ofString "numeric") else none) (by k_asm) (by k_asm) ?_ (fun t9 h9 tk9 F9 N9 => ?_)))) | fail "row"
  k_with "fx" => (fail_if_success k_extra "olawbound"); first | (((first | (rename isNum aff = _ => q1; rw [q1]) | skip); (all_goals first | (rename vnum va = _ => q2; rw [q2]) | skip); (all_goals first | (rename isText aff = _ => q3; rw [q3]) | skip); (all_goals first | (rename Option.isNone va = _ => q4; rw [q4]) | skip); (all_goals first | rfl | (simp only [Bool.true_and, Bool.and_false, Bool.false_and, Bool.and_true, Bool.or_true, Bool.true_or, Bool.not_true, Bool.not_false, if_true, Bool.false_eq_true, if_false])); done)) | fail "row"
  k_with "JoinS" => (fail_if_success k_extra "olawbound"); first | ((k_here; k_dflt (first | refine joinS_end (by k_asm) (by k_asm) (by k_extra "ktu_off1L") (by k_extra "fx") | refine joinS_ret ?_))) | fail "row"
  k_with "JoinL" => (fail_if_success k_extra "olawbound"); first | ((k_here; k_dflt (first | refine joinL_set (by k_asm) (by k_asm) (by k_extra "ktu_off1L") (by k_extra "fx") | refine joinL_keep (o' := none) (t := 0) (by k_asm) (by k_asm) (by exact rfl) (by k_extra "ktu_off1L") (by k_extra "fx") | refine joinL_keep (by k_asm) (by k_asm) (by exact rfl) (by k_extra "ktu_off1L") (by k_extra "fx")))) | fail "row"
  k_with "subscriptTail" => (fail_if_success k_extra "olawbound"); first | ((k_here; (with_reducible show wpAny _ _ (subscriptTail _ _ (Value.ref _) (Value.int 0 _)) _ _ _); k_dflt (refine' told_item (by k_asm) (by k_extra "lcg_off") ?_; k_whole); intro u9)) | fail "row"
  k_with "subscriptTail Name" => (fail_if_success k_extra "olawbound"); first | ((k_here; (with_reducible show wpAny _ _ (subscriptTail _ _ (Value.ref _) (Value.int 0 _)) _ _ _); k_dflt (refine' told_item (by k_asm) (by k_extra "lcg_off") ?_; k_whole); intro u9)) | fail "row"
  k_with "subscriptTail Subscript" => (fail_if_success k_extra "olawbound"); first | ((k_here; (with_reducible show wpAny _ _ (subscriptTail _ _ (Value.ref _) (Value.int 0 _)) _ _ _); k_dflt (refine' told_item (by k_asm) (by k_extra "lcg_off") ?_; k_whole); intro u9)) | fail "row"
  k_with "subscriptTail Attribute" => (fail_if_success k_extra "olawbound"); first | ((k_here; (with_reducible show wpAny _ _ (subscriptTail _ _ (Value.ref _) (Value.int 0 _)) _ _ _); k_dflt (refine' told_item (by k_asm) (by k_extra "lcg_off") ?_; k_whole); intro u9)) | fail "row"
  k_with "binaryOp Add ref ref" => (fail_if_success k_extra "olawbound"); first | ((k_here; (with_reducible show wpAny _ _ (binaryOp _ (Value.ref _) (Value.ref _)) _ _ _); k_dflt (refine' add_sym (by k_asm) (by k_asm) (by k_extra "lcg_off") (by k_extra "lcg_off") (by exact Nat.le_trans (Nat.add_le_add_right filter_len _) (Nat.le_of_ble_eq_true rfl)) ?_; k_whole); intro D' h' F' N' l1; (try k_sweep))) | fail "row"
  trivial
theorem lawbound_core (t1 t2 tl tr x y : Addr) (place : Int) (aff op : Str) (va o1 o2 o3 o4 : Option Str) (tp ta to ta2 s1 s2 s3 s4 : Tok) (a0 a2 a4 a5 b1 b2 b4 b5 c0 c1 c2 c3 d0 d1 d2 d3 : Value) (news : Led)
    (m1 : (t1, tupO [a0, .int place tp, a2, .str aff ta, a4, a5]) ∈ news) (m2 : (t2, tupO [.ref y, b1, b2, ov va ta2, b4, b5]) ∈ news)
    (m3 : (tl, tupO [c0, c1, c2, c3, ov o1 s1, ov o3 s3]) ∈ news) (m4 : (tr, tupO [d0, d1, d2, d3, ov o2 s2, ov o4 s4]) ∈ news) :
    SpecN 3 688 [.ref t1, .str op to, .ref t2, .ref tl, .ref tr] news (fun pre v => ∃ q us, v = .ref q ∧ (q, W.listOf us.toArray 0) ∈ pre ∧
      DuesAt pre us (match (cmpAff aff va).1 with | some _ => [] | none => [⟨place, op, .ref y, (cmpAff aff va).2, tellColl o1 o2 o3 o4⟩])) := Carry.out (by exact Carry.mk : Carry ((by
  unfold SpecN Spec
  intro prog w p loose mean mg mb dp un gd cn cs a ccd cl outer A₀ base h₀ L m s Q E B F X N T hk hd hu hret
  k_dflt k_extra "ktr_enter"
  k_steps
  · rename isNum aff = _ => q1
    rename vnum va = _ => q2
    refine finN hret (by k_asm) (by k_asm) (by k_asm) (by k_extra "tb_rel") (by k_extra "tb_start") ⟨_, [], rfl, by k_extra "lcg_off", ?_⟩
    rw [cmpAff_kept q1 q2]
    exact .nil
  · rename (isNum aff || _) = true => q1
    refine finN hret (by k_asm) (by k_asm) (by k_asm) (by k_extra "tb_rel") (by k_extra "tb_start") ⟨_, [_], rfl, by k_extra "lcg_off", ?_⟩
    rw [cmpAff_led q1]
    exact .cons (.mk (by k_extra "lcg_off") (by k_extra "lcg_off")) .nil
  done
  : SpecN 3 688 [.ref t1, .str op to, .ref t2, .ref tl, .ref tr] news (fun pre v => ∃ q us, v = .ref q ∧ (q, W.listOf us.toArray 0) ∈ pre ∧ DuesAt pre us (match (cmpAff aff va).1 with | some _ => [] | none => [⟨place, op, .ref y, (cmpAff aff va).2, tellColl o1 o2 o3 o4⟩]))) :))

end
/-- what a column's comparison with a value gives -/
def colB (c vn : Nd) (op : Str) (val : Value) (coll : Str) : List Bd := match c with
  | .name _ p a _ => oneBound a p vn op val coll
  | _ => []
theorem lawbound_spec (t1 t2 tl tr x y lx rx : Addr) (c vn l r : Nd) (op : Str) (to : Tok) (news : Led) (hc : SideA news 3 t1 x c) (hC : isCol c 3 = true) (hv : SideA news 3 t2 y vn) (hl : SideA news 3 tl lx l) (hr : SideA news 3 tr rx r) :
    SpecN 3 688 [.ref t1, .str op to, .ref t2, .ref tl, .ref tr] news (fun pre v => ∃ q us, v = .ref q ∧ (q, W.listOf us.toArray 0) ∈ pre ∧ us.length ≤ 1 ∧ DuesAt pre us (colB c vn op (.ref y) (cmpColl l r))) := by
  cases hc with | mk m1 _ _ _ =>
  cases hv with | mk m2 _ _ _ =>
  cases hl with | mk m3 _ _ _ =>
  cases hr with | mk m4 _ _ _ =>
  cases c with
  | name n p f c' =>
    have hc' : (n == 3) = true := hC
    simp only [sidePlace, hc', if_true, Nd.aff, ov_some] at m1
    have q := lawbound_core t1 t2 tl tr x y p f op vn.aff l.exp r.exp l.col r.col _ _ to _ _ _ _ _ _ _ _ _ _ _ _ _ _ _ _ _ _ _ _ _ news m1 m2 m3 m4
    unfold SpecN Spec at q ⊢
    intro prog w p loose mean mg mb dp un gd cn cs a ccd cl outer A₀ base h₀ L m s Q E B F X N T hk hd hu hret
    refine q prog w p loose mean mg mb dp un gd cn cs a ccd cl outer A₀ base h₀ L m s Q E B F X N T hk hd hu fun v nw h' tk' F' N' P => hret v nw h' tk' F' N' ?_
    obtain ⟨pre, e, fr, q, us, e2, hm, hD⟩ := P
    refine ⟨pre, e, fr, q, us, e2, hm, ?_, hD⟩
    rw [hD.len]
    split
    · exact Nat.zero_le _
    · exact Nat.le_refl _
  | _ => cases hC

theorem lawbound_specu {prog9 : Program} {w9 : World} {p9 : Program} {loose9 : List Str} {mean9 : ExcName → Option Value} {mg9 mb9 : Str → Option Value} {dp9 un9 : Nat} {gd9 : Option (List Code)} {cn9 : Str} {cs9 : Scope} {a9 : Addr} {ccd9 : Value} {cl9 : List (Str × Addr)} {outer9 : List Env} {A₀9 : Around} {base9 h₀9 : Heap} {L9 : Addr} {m9 : Str → Option Value} {hh9 : Heap} {gg9 : Array GenState} {dd9 : Drawn} {tt9 : Nat} {oo9 : OsState} {Q9 E9 : Value → Shared → Prop} {A9 : Around} (t1 t2 tl tr x y lx rx : Addr) (c vn l r : Nd) (op : Str) (to : Tok) (news : Led) (hA9 : A9 = ktrTop dp9 un9 gd9 cn9 cs9 L9 a9 ccd9 cl9 outer9) (B9 : Below A₀9 base9 outer9 h₀9) (F9 : Fr h₀9 L9 hh9 m9) (X9 : (hd.heap_39 w9.params).In h₀9) (N9 : News h₀9 L9 hh9 news) (T9 : Top p9 loose9 mean9 mg9 mb9 h₀9) (hk9 : cs9.kind = .function) (hc : SideA news 3 t1 x c) (hC : isCol c 3 = true) (hv : SideA news 3 t2 y vn) (hl : SideA news 3 tl lx l) (hr : SideA news 3 tr rx r) (hd9 : dp9 + 3 < recursionLimit) (hu9 : un9 + 8 * 3 < cLine)
    (ret9 : ∀ pre, Fresh news pre → ∀ q us, ((q, W.listOf us.toArray 0) ∈ pre) → (us.length ≤ 1) → (DuesAt pre us (colB c vn op (.ref y) (cmpColl l r))) → ∀ h9 tk9, Fr h₀9 L9 h9 m9 → News h₀9 L9 h9 (pre ++ news) → Q9 (.ref q) ⟨h9, gg9, dd9, tk9, oo9⟩) :
    wpAny (model prog9 w9) A9 (call (.ref 688) [.ref t1, .str op to, .ref t2, .ref tl, .ref tr]) Q9 E9 ⟨hh9, gg9, dd9, tt9, oo9⟩ := by
  subst hA9
  refine Spec.useN B9 F9 X9 N9 T9 hk9 (lawbound_spec t1 t2 tl tr x y lx rx c vn l r op to news hc hC hv hl hr) hd9 hu9 fun v nw8 h8 tk8 F8 N8 P8 => ?_
  obtain ⟨pre, rfl, fr, q, us, rfl, c1, c2, c3⟩ := P8
  exact ret9 pre fr q us c1 c2 c3 h8 tk8 F8 N8
theorem rows_lawbound_3 : True := by
  k_with "olawbound" => skip
  k_with "call ref" => first | (k_here; (with_reducible show wpAny _ _ (call (Value.ref 688) _) _ _ _); (with_reducible refine lawbound_specu _ _ _ _ _ _ _ _ _ _ _ _ _ _ _ (by k_dflt (exact rfl)) (by k_dflt (k_asm)) (by k_dflt (k_asm)) (by k_dflt (k_asm)) (by k_dflt (k_asm)) (by k_dflt (k_asm)) (by k_dflt (first | exact rfl | assumption)) (by k_dflt (first | with_reducible assumption | exact SideA.mono (by with_reducible assumption) (by k_extra "ktu_off1L"))) (by k_dflt (with_reducible assumption)) (by k_dflt (first | with_reducible assumption | exact SideA.mono (by with_reducible assumption) (by k_extra "ktu_off1L"))) (by k_dflt (first | with_reducible assumption | exact SideA.mono (by with_reducible assumption) (by k_extra "ktu_off1L"))) (by k_dflt (first | with_reducible assumption | exact SideA.mono (by with_reducible assumption) (by k_extra "ktu_off1L"))) (by k_dflt (k_extra "ktr_room")) (by k_dflt (k_extra "ktr_units")) ?_); intro pre9 fr9 q9 us9 m9 hz9 D9 h9 tk9 F9 N9; (try k_sweep); (try k_fold)) | fail "row"
  k_with "execs cons" => (fail_if_success k_extra "i2"); first | ((k_here; (with_reducible show wpAny _ _ (execs (Stmt.If _ _ [] _ :: _) _) _ _ _); with_reducible refine if_cons ?_)) | fail "row"
  trivial
theorem cbL {l r : Nd} {op : Str} {lx rx : Addr} (hA : isCol l 3 = true) (hB : (r.num != some 3) = true) : cmpBounds 3 op l r lx rx = colB l r op (.ref rx) (cmpColl l r) := by
  cases l with
  | name n p a c => exact cb1 hA hB
  | _ => cases hA
theorem cbR {l r : Nd} {op : Str} {lx rx : Addr} (hC : isCol r 3 = true) (hA : isCol l 3 = false) (hD : (l.num != some 3) = true) : cmpBounds 3 op l r lx rx = colB r l (turnOp op) (.ref lx) (cmpColl l r) := by
  cases r with
  | name n p a c => exact cb2 hC hA hD
  | _ => cases hC
theorem num_col {nd : Nd} (h : isCol nd 3 = true) : (nd.num == some 3) = true := by
  have := free_of_col h
  simpa using this
section
theorem rows_lawcmp_1 : True := by
  k_with "binaryOp Add ref ref" => (fail_if_success k_extra "olawcmp"); first | ((k_here; (with_reducible show wpAny _ _ (binaryOp _ (Value.ref _) (Value.ref _)) _ _ _); k_dflt (refine' add_sym (vs := []) (by k_asm) (by k_asm) (by k_extra "lcg_off") (by k_extra "lcg_off") (by simp only [List.length_nil]; omega) ?_; k_whole); intro D' h' F' N' l1; (try k_sweep))) | fail "row"
  trivial
theorem lawcmp_spec (tl tr lx rx : Addr) (op : Str) (to : Tok) (l r : Nd) (news : Led) (hl : SideA news 3 tl lx l) (hr : SideA news 3 tr rx r) (hop : IsOp op) :
    SpecN 8 702 [.str op to, .ref tl, .ref tr] news (fun pre v => ∃ q us, v = .ref q ∧ (q, W.listOf us.toArray 0) ∈ pre ∧ DuesAt pre us (cmpBounds 3 op l r lx rx)) := Carry.out (by exact Carry.mk : Carry ((by
  unfold SpecN Spec
  intro prog w p loose mean mg mb dp un gd cn cs a ccd cl outer A₀ base h₀ L m s Q E B F X N T hk hd hu hret
  cases hA : isCol l 3 with
  | true =>
    obtain ⟨p1, tp1, w1, w2, w3, m1⟩ := side_col hl hA
    cases hC : isCol r 3 with
    | true =>
      obtain ⟨p2, tp2, u1, u2, u3, m2⟩ := side_col hr hC
      rw [cb0 (fun _ => free_of_col hC) (fun _ => free_of_col hA)] at hret
      (k_dflt k_extra "ktr_enter"; k_steps)
      all_goals (refine finN hret (by k_asm) (by k_asm) (by k_asm) (by k_extra "tb_rel") (by k_extra "tb_start") ?_; exact ⟨_, [], rfl, by k_extra "lcg_off", .nil⟩)
    | false =>
      cases hB : (r.num == some 3) with
      | true =>
        obtain ⟨u1, u2, u3, m2⟩ := side_not hr hC hB
        rw [cb0 (fun _ => by rw [bne, hB]; rfl) (fun _ => free_of_col hA)] at hret
        (k_dflt k_extra "ktr_enter"; k_steps)
        all_goals (refine finN hret (by k_asm) (by k_asm) (by k_asm) (by k_extra "tb_rel") (by k_extra "tb_start") ?_; exact ⟨_, [], rfl, by k_extra "lcg_off", .nil⟩)
      | false =>
        obtain ⟨u1, u2, u3, m2⟩ := side_not hr hC hB
        rw [cbL hA (by rw [bne, hB]; rfl)] at hret
        (k_dflt k_extra "ktr_enter"; k_steps)
        all_goals (refine finN hret (by k_asm) (by k_asm) (by k_asm) (by k_extra "tb_rel") (by k_extra "tb_start") ?_; exact ⟨_, _, rfl, by k_extra "lcg_off", DuesAt.mono (by with_reducible assumption) (by k_extra "ktu_off1L")⟩)
  | false =>
    cases hD : (l.num == some 3) with
    | true =>
      obtain ⟨w1, w2, w3, m1⟩ := side_not hl hA hD
      rw [cb0 (fun h => by rw [hA] at h; cases h) (fun _ => by rw [bne, hD]; rfl)] at hret
      cases hC : isCol r 3 with
      | true =>
        obtain ⟨p2, tp2, u1, u2, u3, m2⟩ := side_col hr hC
        (k_dflt k_extra "ktr_enter"; k_steps)
        all_goals (refine finN hret (by k_asm) (by k_asm) (by k_asm) (by k_extra "tb_rel") (by k_extra "tb_start") ?_; exact ⟨_, [], rfl, by k_extra "lcg_off", .nil⟩)
      | false =>
        obtain ⟨u1, u2, u3, m2⟩ := side_not hr hC rfl
        (k_dflt k_extra "ktr_enter"; k_steps)
        all_goals (refine finN hret (by k_asm) (by k_asm) (by k_asm) (by k_extra "tb_rel") (by k_extra "tb_start") ?_; exact ⟨_, [], rfl, by k_extra "lcg_off", .nil⟩)
    | false =>
      obtain ⟨w1, w2, w3, m1⟩ := side_not hl hA hD
      cases hC : isCol r 3 with
      | true =>
        obtain ⟨p2, tp2, u1, u2, u3, m2⟩ := side_col hr hC
        rw [cbR hC hA (by rw [bne, hD]; rfl)] at hret
        (k_dflt k_extra "ktr_enter"; k_steps)
        all_goals (refine finN hret (by k_asm) (by k_asm) (by k_asm) (by k_extra "tb_rel") (by k_extra "tb_start") ?_; exact ⟨_, _, rfl, by k_extra "lcg_off", by rw [List.nil_append]; exact DuesAt.mono (by with_reducible assumption) (by k_extra "ktu_off1L")⟩)
      | false =>
        obtain ⟨u1, u2, u3, m2⟩ := side_not hr hC rfl
        rw [cb0 (fun h => by rw [hA] at h; cases h) (fun h => by rw [hC] at h; cases h)] at hret
        (k_dflt k_extra "ktr_enter"; k_steps)
        all_goals (refine finN hret (by k_asm) (by k_asm) (by k_asm) (by k_extra "tb_rel") (by k_extra "tb_start") ?_; exact ⟨_, [], rfl, by k_extra "lcg_off", .nil⟩)
  done
  : SpecN 8 702 [.str op to, .ref tl, .ref tr] news (fun pre v => ∃ q us, v = .ref q ∧ (q, W.listOf us.toArray 0) ∈ pre ∧ DuesAt pre us (cmpBounds 3 op l r lx rx))) :))

end

theorem lawcmp_specu {prog9 : Program} {w9 : World} {p9 : Program} {loose9 : List Str} {mean9 : ExcName → Option Value} {mg9 mb9 : Str → Option Value} {dp9 un9 : Nat} {gd9 : Option (List Code)} {cn9 : Str} {cs9 : Scope} {a9 : Addr} {ccd9 : Value} {cl9 : List (Str × Addr)} {outer9 : List Env} {A₀9 : Around} {base9 h₀9 : Heap} {L9 : Addr} {m9 : Str → Option Value} {hh9 : Heap} {gg9 : Array GenState} {dd9 : Drawn} {tt9 : Nat} {oo9 : OsState} {Q9 E9 : Value → Shared → Prop} {A9 : Around} (tl tr lx rx : Addr) (op : Str) (to : Tok) (l r : Nd) (news : Led) (hA9 : A9 = ktrTop dp9 un9 gd9 cn9 cs9 L9 a9 ccd9 cl9 outer9) (B9 : Below A₀9 base9 outer9 h₀9) (F9 : Fr h₀9 L9 hh9 m9) (X9 : (hd.heap_39 w9.params).In h₀9) (N9 : News h₀9 L9 hh9 news) (T9 : Top p9 loose9 mean9 mg9 mb9 h₀9) (hk9 : cs9.kind = .function) (hl : SideA news 3 tl lx l) (hr : SideA news 3 tr rx r) (hop : IsOp op) (hd9 : dp9 + 8 < recursionLimit) (hu9 : un9 + 8 * 8 < cLine)
    (ret9 : ∀ pre, Fresh news pre → ∀ q us, ((q, W.listOf us.toArray 0) ∈ pre) → (DuesAt pre us (cmpBounds 3 op l r lx rx)) → ∀ h9 tk9, Fr h₀9 L9 h9 m9 → News h₀9 L9 h9 (pre ++ news) → Q9 (.ref q) ⟨h9, gg9, dd9, tk9, oo9⟩) :
    wpAny (model prog9 w9) A9 (call (.ref 702) [.str op to, .ref tl, .ref tr]) Q9 E9 ⟨hh9, gg9, dd9, tt9, oo9⟩ := by
  subst hA9
  refine Spec.useN B9 F9 X9 N9 T9 hk9 (lawcmp_spec tl tr lx rx op to l r news hl hr hop) hd9 hu9 fun v nw8 h8 tk8 F8 N8 P8 => ?_
  obtain ⟨pre, rfl, fr, q, us, rfl, c1, c2⟩ := P8
  exact ret9 pre fr q us c1 c2 h8 tk8 F8 N8
theorem rows_lawcmp_2 : True := by
  k_with "olawcmp" => skip
  k_with "call ref" => first | (k_here; (with_reducible show wpAny _ _ (call (Value.ref 702) _) _ _ _); (with_reducible refine lawcmp_specu _ _ _ _ _ _ _ _ _ (by k_dflt (exact rfl)) (by k_dflt (k_asm)) (by k_dflt (k_asm)) (by k_dflt (k_asm)) (by k_dflt (k_asm)) (by k_dflt (k_asm)) (by k_dflt (first | exact rfl | assumption)) (by k_dflt (first | with_reducible assumption | exact SideA.mono (by with_reducible assumption) (by k_extra "ktu_off1L"))) (by k_dflt (first | with_reducible assumption | exact SideA.mono (by with_reducible assumption) (by k_extra "ktu_off1L"))) (by k_dflt (with_reducible assumption)) (by k_dflt (k_extra "ktr_room")) (by k_dflt (k_extra "ktr_units")) ?_); intro pre9 fr9 q9 us9 m9 D9 h9 tk9 F9 N9; (try k_sweep); (try k_fold)) | fail "row"
  trivial
section
open PySem.Calls
variable {prog : Program} {w : World} {A : Around} {E : Value → Shared → Prop} {s : Shared} {h₀ : Heap} {L t a b : Addr} {m : Str → Option Value} {news : Led} {v0 v1 v2 v3 v4 : Value}
/-- the first two of five -/
theorem sliceApplied_two {sl : Addr} {u : Tok} {Q : Int × Int × Nat → Shared → Prop} (hs : s.heap.IsSliceOf sl .none (.int 2 u) .none) (h : Q (0, 1, 2) s) :
    wpAny (model prog w) A (Builtin.Slice.sliceApplied (.ref sl) (pure (5 : Int))) Q E s := by
  obtain ⟨os, hos, hcs, hds⟩ := id hs
  unfold Builtin.Slice.sliceApplied Builtin.Slice.sliceFields
  refine wpAny_bind (wpAny_bind (wpAny_field hos hds (x := .none) rfl (wpAny_bind (wpAny_field hos hds (x := .int 2 u) rfl (wpAny_bind (wpAny_field hos hds (x := .none) rfl (wpAny_pure ?_)))))))
  refine wpAny_bind (slicePart_none ?_)
  show wpAny _ _ (if ((1 : Int) == 0) = true then _ else _) _ _ s
  rw [if_neg (by decide)]
  refine wpAny_bind (slicePart_none (wpAny_bind (slicePart_int (wpAny_bind (wpAny_pure ?_)))))
  show wpAny _ _ (match Builtin.Slice.sliceAdjust none (some (2 : Int)) 1 (5 : Int) with | (lo, hi) => pure (lo, (1 : Int), Builtin.Slice.slicePlaces lo hi 1)) _ _ s
  have e1 : Builtin.Slice.sliceAdjust none (some (2 : Int)) 1 (5 : Int) = (0, 2) := by decide +kernel
  have e2 : Builtin.Slice.slicePlaces 0 2 1 = 2 := by decide +kernel
  rw [e1]
  show wpAny _ _ (pure ((0 : Int), (1 : Int), Builtin.Slice.slicePlaces 0 2 1)) _ _ s
  rw [e2]
  exact wpAny_pure h
theorem getItem_two {sl : Addr} {u : Tok} {Q : Value → Shared → Prop} (ht : IsTup s.heap t #[v0, v1, v2, v3, v4]) (hs : s.heap.IsSliceOf sl .none (.int 2 u) .none)
    (h : Q (.ref s.heap.objs.size) { s with heap := s.heap.push (tupO [v0, v1]) }) : wpAny (model prog w) A (getItem (.ref t) (.ref sl)) Q E s := by
  have hdrop : sizeOk (.seq ([v0, v1].toArray)) := by
    show 2 ≤ sizeLine
    rw [sizeLine_eq]
    omega
  obtain ⟨os, hos, hcs, hds⟩ := id hs
  have hTs : s.TypeIs (.ref sl) "slice" := ⟨os, hos, hcs⟩
  unfold getItem
  try with_reducible refine wpAny_holding ?_
  first | refine wpAny_bind (wpAny_pure ?_) | skip
  refine wpAny_bind (wpAny_sequenceKey ht.typeIs (by decide) ?_)
  refine wpAny_bind (wpAny_callSpecial?_slot (name := Str.ofString "__getitem__") ht.typeIs slot_tuple_getitem
    (wpAny_call_entry slot_tuple_getitem ht.typeIs entry_tuple_getitem ?_ (args_tuple_getitem _ _)))
  show wpAny _ _ (Builtin.Tuple.tupleItemsOf (.ref t) >>= _) _ _ s
  refine wpAny_bind (tupleItemsOf_ ht ?_)
  refine wpAny_bind (wpAny_typeOf hTs ?_)
  rw [if_pos (by decide)]
  refine wpAny_bind (sliceApplied_two hs ?_)
  show wpAny _ _ (if ((0 : Int) == 0 && (1 : Int) == 1 && (2 : Nat) == 5) = true then _ else _) _ _ s
  rw [if_neg (by decide)]
  first
    | exact wpAny_bind (m := Builtin.Tuple.tupleExact _) (wpAny_newObj_type (wpAny_pure ⟨_, rfl, wpAny_pure h⟩) hdrop)
    | exact wpAny_bind (m := Builtin.Tuple.tupleExact _) (wpAny_newObj_type (wpAny_bind (wpAny_pure (wpAny_pure ⟨_, rfl, wpAny_pure h⟩))) hdrop)
    | exact wpAny_bind (wpAny_bind (m := Builtin.Tuple.tupleExact _) (wpAny_newObj_type (wpAny_pure (wpAny_pure ⟨_, rfl, wpAny_pure h⟩)) hdrop))
    | exact wpAny_bind (wpAny_bind (m := Builtin.Tuple.tupleExact _) (wpAny_newObj_type (wpAny_pure ⟨_, rfl, wpAny_pure h⟩) hdrop))
theorem cut_two {value slice : PySem.Expr} {u : Tok} {Q : Value → Shared → Prop} (F : Fr h₀ L s.heap m) (N : News h₀ L s.heap news) (hm : (t, tupO [v0, v1, v2, v3, v4]) ∈ news)
    (h : ∀ D h', Fr h₀ L h' m → News h₀ L h' ((D, tupO [v0, v1]) :: news) → (∀ p ∈ news, p.1 < D) → Q (.ref D) { s with heap := h' })
    (hs : ∀ x, subscripted slice false (.ref t) (.ref x) = operate [.ref x, .ref t] (getItem (.ref t) (.ref x)) := by intro _; with_unfolding_all rfl)
    (hg : ∀ r, letTemporaryGo value (.ref t) r = pure () := by intro _; with_unfolding_all rfl) :
    wpAny (model prog w) A (subscriptTail value slice (.ref t) (.ref s.heap.objs.size)) Q E { s with heap := s.heap.push { cls := .type "slice", data := .fields #[.none, .int 2 u, .none] } } := by
  have ht : IsTup s.heap t #[v0, v1, v2, v3, v4] := News.isTup N hm
  have ht' : IsTup (s.heap.push { cls := .type "slice", data := .fields #[.none, .int 2 u, .none] }) t #[v0, v1, v2, v3, v4] := ht.keeps fun _ _ e => Heap.get?_push_of_some _ e
  refine subscriptTail_ops (s := { s with heap := s.heap.push { cls := .type "slice", data := .fields #[.none, .int 2 u, .none] } }) ht'.typeIs slot_tuple_getitem.lookup
    (getItem_two ht' (Heap.IsSliceOf.new ..) ?_) (hs _) hg
  have N1 := News.push (F.push { cls := .type "slice", data := .fields #[.none, .int 2 u, .none] }) (N.grown fun _ _ e => Heap.get?_push_of_some _ e) (tupO [v0, v1])
  rw [Heap.size_push] at N1
  show Q (.ref (s.heap.push _).objs.size) _
  rw [Heap.size_push]
  exact h _ _ ((F.push _).push _) N1 fun p hp => Nat.lt_succ_of_lt (Heap.lt_size (N p hp).1)
/-- the last two of five -/
theorem cut_last {value slice : PySem.Expr} {u : Tok} {Q : Value → Shared → Prop} (F : Fr h₀ L s.heap m) (N : News h₀ L s.heap news) (hm : (t, tupO [v0, v1, v2, v3, v4]) ∈ news)
    (h : ∀ D h', Fr h₀ L h' m → News h₀ L h' ((D, tupO [v3, v4]) :: news) → (∀ p ∈ news, p.1 < D) → Q (.ref D) { s with heap := h' })
    (hs : ∀ x, subscripted slice false (.ref t) (.ref x) = operate [.ref x, .ref t] (getItem (.ref t) (.ref x)) := by intro _; with_unfolding_all rfl)
    (hg : ∀ r, letTemporaryGo value (.ref t) r = pure () := by intro _; with_unfolding_all rfl) :
    wpAny (model prog w) A (subscriptTail value slice (.ref t) (.ref s.heap.objs.size)) Q E { s with heap := s.heap.push { cls := .type "slice", data := .fields #[.int 3 u, .none, .none] } } :=
  slice_tuple_from (a := 3) F N (News.isTup N hm) (by omega) (by simp) (fun h' F' N' => h _ h' F' N' fun p hp => Nat.lt_succ_of_lt (Heap.lt_size (N p hp).1)) (hs _) hg (by simp [sizeLine_eq])
theorem add_cuts {Q : Value → Shared → Prop} (F : Fr h₀ L s.heap m) (N : News h₀ L s.heap news) (ha : (a, tupO [v0, v1]) ∈ news) (hb : (b, tupO [v3, v4]) ∈ news)
    (h : ∀ D h', Fr h₀ L h' m → News h₀ L h' ((D, tupO [v0, v1, v3, v4]) :: news) → (∀ p ∈ news, p.1 < D) → Q (.ref D) { s with heap := h' }) : wpAny (model prog w) A (binaryOp .Add (.ref a) (.ref b)) Q E s :=
  kde_addT F N (News.isTup N ha) (News.isTup N hb) (by simp) (by simp) (by simp) rfl h
end

theorem rows_tupcut_1 : True := by
  k_with "last subscriptTail" => first | ((k_here; (with_reducible show wpAny _ _ (subscriptTail _ (PySem.Expr.Slice none _ none _) (Value.ref _) (Value.ref _)) _ _ _); k_dflt (refine' cut_two (by k_asm) (by k_asm) (by k_extra "lcg_off") ?_); intro D' h' F' N' l1; (try k_sweep))) | fail "row"
  k_with "subscriptTail Name Slice ref ref" => first | ((k_here; (with_reducible show wpAny _ _ (subscriptTail _ (PySem.Expr.Slice none _ none _) (Value.ref _) (Value.ref _)) _ _ _); k_dflt (refine' cut_two (by k_asm) (by k_asm) (by k_extra "lcg_off") ?_); intro D' h' F' N' l1; (try k_sweep))) | fail "row"
  k_with "subscriptTail Attribute Slice ref ref" => first | ((k_here; (with_reducible show wpAny _ _ (subscriptTail _ (PySem.Expr.Slice none _ none _) (Value.ref _) (Value.ref _)) _ _ _); k_dflt (refine' cut_two (by k_asm) (by k_asm) (by k_extra "lcg_off") ?_); intro D' h' F' N' l1; (try k_sweep))) | fail "row"
  k_with "last subscriptTail" => first | ((k_here; (with_reducible show wpAny _ _ (subscriptTail _ (PySem.Expr.Slice _ none none _) (Value.ref _) (Value.ref _)) _ _ _); k_dflt (refine' cut_last (by k_asm) (by k_asm) (by k_extra "lcg_off") ?_); intro D' h' F' N' l1; (try k_sweep))) | fail "row"
  k_with "subscriptTail Name Slice ref ref" => first | ((k_here; (with_reducible show wpAny _ _ (subscriptTail _ (PySem.Expr.Slice _ none none _) (Value.ref _) (Value.ref _)) _ _ _); k_dflt (refine' cut_last (by k_asm) (by k_asm) (by k_extra "lcg_off") ?_); intro D' h' F' N' l1; (try k_sweep))) | fail "row"
  k_with "subscriptTail Attribute Slice ref ref" => first | ((k_here; (with_reducible show wpAny _ _ (subscriptTail _ (PySem.Expr.Slice _ none none _) (Value.ref _) (Value.ref _)) _ _ _); k_dflt (refine' cut_last (by k_asm) (by k_asm) (by k_extra "lcg_off") ?_); intro D' h' F' N' l1; (try k_sweep))) | fail "row"
  k_with "binaryOp Add ref ref" => first | ((k_here; (with_reducible show wpAny _ _ (binaryOp _ (Value.ref _) (Value.ref _)) _ _ _); k_dflt (refine' add_cuts (by k_asm) (by k_asm) (by k_extra "lcg_off") (by k_extra "lcg_off") ?_); intro D' h' F' N' l1; (try k_sweep))) | fail "row"
  trivial
section
open PySem.Calls LCg LCt PySem.SeqAt
variable {prog : Program} {w : World} {A : Around} {E : Value → Shared → Prop} {s : Shared} {h₀ : Heap} {L a b : Addr} {m : Str → Option Value} {news : Led} {vs : List Value} {n k : Nat} {Q : Value → Shared → Prop}
/-- a list against the empty list -/
theorem eq_nil (N : News h₀ L s.heap news) (ha : (a, W.listOf vs.toArray n) ∈ news) (hb : (b, W.listOf #[] k) ∈ news) (hu : A.units < cLine) (h : Q (.bool vs.isEmpty) s) :
    wpAny (model prog w) A (compareOp .Eq (.ref a) (.ref b)) Q E s := by
  refine cmp_ofEq ?_
  have hl := News.isL N ha
  have hr := News.isL (vs := []) N hb
  cases vs with
  | nil => exact RcAt.lists (e := fun _ => true) hl hr rfl hu (fun j h1 => absurd h1 (Nat.not_lt_zero j)) prog w E Q h
  | cons x xs => exact RcAt.lists_lengths hl hr (by simp) hu prog w E Q h
theorem ne_nil (N : News h₀ L s.heap news) (ha : (a, W.listOf vs.toArray n) ∈ news) (hb : (b, W.listOf #[] k) ∈ news) (hu : A.units < cLine) (h : Q (.bool (!vs.isEmpty)) s) :
    wpAny (model prog w) A (compareOp .NotEq (.ref a) (.ref b)) Q E s := by
  refine cmp_ofNotEq ?_
  have hl := News.isL N ha
  have hr := News.isL (vs := []) N hb
  cases vs with
  | nil => exact RcNeAt.lists (e := fun _ => false) hl hr rfl hu (fun j h1 => absurd h1 (Nat.not_lt_zero j)) prog w E Q h
  | cons x xs => exact RcNeAt.lists_lengths hl hr (by simp) hu prog w E Q h
/-- a comprehension that keeps the items that a test passes: is the list empty? -/
theorem comp_filter {env : Env} {ct : PySem.Expr} {x : Str} {p4 : Pos} {scope : Scope} {cl : List (Str × Addr)} {S : Led → Prop} {P : Nat → Value → Prop} {Fin : List Value → Led → Prop}
    (n : Nat) (f : Nat → Bool) (hkind : scope.kind = .function) (hx : scope.names.lookup x = some .local) (hd : (x == ("__debug__" : Str)) = false)
    (turn : ∀ i v I oI C oC D m₂ h tk ys (E' : Value → Shared → Prop) (Q' : Bool → Shared → Prop), i < n → P i v → NsObj oC m₂ → m₂ x = some v → Fr h₀ L h m → News h₀ L h ((I, oI) :: (C, oC) :: (D, lst ys) :: news) → Off3 I C D news → ((@Ne Nat I C) ∧ (@Ne Nat I D) ∧ (@Ne Nat C D)) →
      (∀ h' tk', Fr h₀ L h' m → News h₀ L h' ((I, oI) :: (C, oC) :: (D, lst ys) :: news) → Q' (f i) { s with heap := h', toks := tk' }) →
      wpAny (model prog w) A (isTrue ct (compEnvC scope cl C env) (eval ct (compEnvC scope cl C env))) Q' E' { s with heap := h, toks := tk })
    (hS : S news) (stop : ∀ ys : List Value, (ys.isEmpty = (List.range n).all fun j => !f j) → Fin ys news) :
    ∀ k i ys, k + i = n → (ys.isEmpty = (List.range i).all fun j => !f j) → CompRestT prog w A h₀ L m env ct (.Name x p4) x scope cl s S P Fin k i ys news := by
  intro k
  induction k with
  | zero => intro i ys e h; obtain rfl : i = n := by omega
            exact CompRestT.zero (stop ys h)
  | succ k ih =>
    intro i ys e h
    refine CompRestT.succ ?_
    intro v I oI C oC D m₂ h' tk E' hv hC hxv F N off ne
    refine turn i v I oI C oC D m₂ h' tk ys E' _ (by omega) hv hC hxv F N off ne fun h₂ tk₂ F₂ N₂ => ?_
    have hk' : (compEnvC scope cl C env).scope.kind = .function := by simp [compEnvC, relabel, hkind]
    have hns : h₂.Ns C m₂ := hC.ns (N₂ (C, oC) (.tail _ (.head _))).1
    cases hf : f i with
    | true =>
      rw [if_pos rfl]
      refine ldVarK hns hxv ?_ hk' (lookup_relabel_local hx) hd
      refine CompEnd.intro F₂ N₂ news (fun p hp => hp) off hS (ih (i + 1) (ys ++ [v]) (by omega) ?_)
      rw [List.range_succ, List.all_append, List.all_cons, hf]
      simp
    | false =>
      rw [if_neg Bool.false_ne_true]
      refine CompEnd.intro F₂ N₂ news (fun p hp => hp) off hS (ih (i + 1) ys (by omega) ?_)
      rw [List.range_succ, List.all_append, List.all_cons, hf, h]
      simp
end

def IsLed (o : Option Str) : Prop := o = none ∨ o = some (Str.ofString "numeric") ∨ o = some (Str.ofString "text")
def BdOk (d : Bd) : Prop := IsOp d.op ∧ IsColl d.coll ∧ IsLed d.led ∧ ∃ y, d.val = .ref y
theorem op_in {x : Str} (h : IsOp x) : (x == Str.ofString "in") = false := by rcases h with rfl | rfl | rfl | rfl | rfl <;> decide +kernel
theorem handed_ov {o : Option Str} {t : Tok} : handedIn (ov o t) = true := by cases o <;> rfl
local macro_rules | `(tactic| k_handed) => `(tactic| with_reducible exact handed_ov)
def ledD : Option Str → PyData
  | none => .none
  | some x => .str x
section
open PySem.Calls PyProof.V PySem.Spec
variable {prog : Program} {w : World} {A : Around} {E : Value → Shared → Prop} {s : Shared} {h₀ : Heap} {L a b : Addr} {news : Led} {Q : Value → Shared → Prop} {p : Int} {op coll : Str} {led : Option Str} {t1 t2 t3 t4 u1 u2 u3 u4 : Tok}
theorem reads_ov {h : Heap} {o : Option Str} {t : Tok} : ∃ as, Reads h (ov o t) (ledD o) as := by cases o with
  | none => exact ⟨_, Reads.none⟩
  | some x => exact ⟨_, Reads.str x t⟩
theorem shaped4 (h1 : IsOp op ∨ op = Str.ofString "in") (h2 : IsColl coll) (h3 : IsLed led) : SeqAt.shaped (.tuple [.int p, .str op, ledD led, .str coll]) = true := by
  have o1 : PyData.strOk op = true := by rcases h1 with (rfl | rfl | rfl | rfl | rfl) | rfl <;> decide +kernel
  have o2 : PyData.strOk coll = true := by rcases h2 with rfl | rfl | rfl <;> decide +kernel
  rcases h3 with rfl | rfl | rfl
  · simp [SeqAt.shaped, PyData.canLay0, PyData.canLayAll0, PyData.depth, PyData.depthAll, ledD, o1, o2]
  · have o3 : PyData.strOk (Str.ofString "numeric") = true := by decide +kernel
    simp [SeqAt.shaped, PyData.canLay0, PyData.canLayAll0, PyData.depth, PyData.depthAll, ledD, o1, o2, o3]
  · have o3 : PyData.strOk (Str.ofString "text") = true := by decide +kernel
    simp [SeqAt.shaped, PyData.canLay0, PyData.canLayAll0, PyData.depth, PyData.depthAll, ledD, o1, o2, o3]
theorem ne_same (N : News h₀ L s.heap news) (ma : (a, tupO [.int p t1, .str op t2, ov led t3, .str coll t4]) ∈ news) (mb : (b, tupO [.int p u1, .str op u2, ov led u3, .str coll u4]) ∈ news)
    (h1 : IsOp op ∨ op = Str.ofString "in") (h2 : IsColl coll) (h3 : IsLed led) (hu : A.units + 64 < cLine) (h : Q (.bool false) s) : wpAny (model prog w) A (compareOp .NotEq (.ref a) (.ref b)) Q E s := by
  obtain ⟨x, hx⟩ := @reads_ov s.heap led t3
  obtain ⟨y, hy⟩ := @reads_ov s.heap led u3
  have e : PyData.eqv (.tuple [.int p, .str op, ledD led, .str coll]) (.tuple [.int p, .str op, ledD led, .str coll]) = true := by
    cases led <;> simp [PyData.eqv, PyData.eqvAll, ledD]
  refine ne_dataH (reads_tuple_at (N.get ma) rfl rfl (ReadsAll.cons (Reads.int _ _) (ReadsAll.cons (Reads.str _ _) (ReadsAll.cons hx (ReadsAll.cons (Reads.str _ _) ReadsAll.nil)))))
    (reads_tuple_at (N.get mb) rfl rfl (ReadsAll.cons (Reads.int _ _) (ReadsAll.cons (Reads.str _ _) (ReadsAll.cons hy (ReadsAll.cons (Reads.str _ _) ReadsAll.nil))))) (shaped4 h1 h2 h3) (shaped4 h1 h2 h3) hu ?_
  rw [e]
  exact h
theorem eq_in (hb : (op == Str.ofString "in") = false) (h : Q (.bool false) s) : wpAny (model prog w) A (compareOp .Eq (.str op t1) (.str (Str.ofString "in") t2)) Q E s := eq_str (by rw [hb]; exact h)
end
theorem bds_get {news : Led} {vs : List Value} {ds : List Bd} (h : BdsAt news vs ds) : vs.length = ds.length ∧ ∀ i (hi : i < ds.length), ∃ b, vs.getD i .none = .ref b ∧ BoundAt news b ds[i].place ds[i].op ds[i].val ds[i].led ds[i].coll := by
  induction h with
  | nil => exact ⟨rfl, fun i hi => absurd hi (Nat.not_lt_zero i)⟩
  | cons a _ ih =>
    refine ⟨by rw [List.length_cons, List.length_cons, ih.1], fun i hi => ?_⟩
    cases i with
    | zero => exact ⟨_, rfl, a⟩
    | succ i => exact ih.2 i (Nat.lt_of_succ_lt_succ hi)
theorem dues_get {news : Led} {vs : List Value} {ds : List Bd} (h : DuesAt news vs ds) : ∀ i (hi : i < ds.length), ∃ t, vs.getD i .none = .ref t ∧ DueAt news (.ref t) ds[i] := by
  induction h with
  | nil => exact fun i hi => absurd hi (Nat.not_lt_zero i)
  | cons a _ ih =>
    intro i hi
    cases i with
    | zero => cases a; exact ⟨_, rfl, .mk (by assumption) (by assumption)⟩
    | succ i => exact ih i (Nat.lt_of_succ_lt_succ hi)
theorem unr_sub {h₀ : Heap} {L I : Addr} {oI : Obj} {R : (Str → Option Value) → Led → Prop} {s₁ : Shared} {h' : Heap} {tk : Nat} {m' : Str → Option Value} {all rest : Led}
    (F : Fr h₀ L h' m') (N : News h₀ L h' all) (hs : ∀ p ∈ (I, oI) :: rest, p ∈ all) (off : ∀ p ∈ rest, p.1 ≠ I) (r : R m' rest) : UnrEndW h₀ L s₁ [(I, oI)] R { s₁ with heap := h', toks := tk } :=
  ⟨h', tk, m', rest, rfl, F, News.sub N hs, fun p hp q hq => by rw [List.mem_singleton.mp hq]; exact off p hp, r⟩
section
open PySem.Calls
variable {prog : Program} {w : World} {A : Around} {E : Value → Shared → Prop} {s : Shared} {h₀ : Heap} {L l : Addr} {news : Led} {vs : List Value} {n : Nat} {Q : Value → Shared → Prop}
theorem item_is {value slice : PySem.Expr} {i : Nat} {u : Tok} {v : Value} (N : News h₀ L s.heap news) (hm : (l, W.listOf vs.toArray n) ∈ news)
    (hlt : i < vs.length) (hsm : vs.length ≤ 12) (e : vs.getD i .none = v) (h : Q v s)
    (hs : subscripted slice false (.ref l) (.int (i : Int) u) = operate [.ref l, .int (i : Int) u] (getItem (.ref l) (.int (i : Int) u)) := by with_unfolding_all rfl) :
    wpAny (model prog w) A (subscriptTail value slice (.ref l) (.int (i : Int) u)) Q E s :=
  item_sym N hm (by omega) (by omega) hsm (by rw [Int.toNat_natCast, e]; exact h) hs
theorem item_is0 {value slice : PySem.Expr} {i : Nat} {u : Tok} {v : Value} (N : News h₀ L s.heap news) (hm : (l, W.listOf vs.toArray n) ∈ news)
    (hlt : i < vs.length) (hsm : vs.length ≤ 12) (e : vs.getD i .none = v) (h : Q v s)
    (hs : subscripted slice false (.ref l) (.int (0 + (i : Int)) u) = operate [.ref l, .int (0 + (i : Int)) u] (getItem (.ref l) (.int (0 + (i : Int)) u)) := by with_unfolding_all rfl) :
    wpAny (model prog w) A (subscriptTail value slice (.ref l) (.int (0 + (i : Int)) u)) Q E s := by
  refine item_sym N hm (by omega) (by omega) hsm ?_ hs
  rw [Int.zero_add, Int.toNat_natCast, e]
  exact h
theorem item_one {value slice : PySem.Expr} {k : Int} {u : Tok} {v : Value} (N : News h₀ L s.heap news) (hm : (l, W.listOf #[v] n) ∈ news) (hk : k = 0) (h : Q v s)
    (hs : subscripted slice false (.ref l) (.int k u) = operate [.ref l, .int k u] (getItem (.ref l) (.int k u)) := by with_unfolding_all rfl) :
    wpAny (model prog w) A (subscriptTail value slice (.ref l) (.int k u)) Q E s := by
  subst hk
  exact item_sym (vs := [v]) N hm (Int.le_refl 0) (by simp) (by simp) h hs
theorem len_is {k : Nat} (N : News h₀ L s.heap news) (hm : (l, W.listOf vs.toArray n) ∈ news) (e : vs.length = k) (hsm : k ≤ 12) (h : Q (.int k (s.toks + 1)) { s with toks := s.toks + 1 + 1 }) :
    wpAny (model prog w) A (call (.builtin "len") [.ref l]) Q E s := by
  subst e
  exact len_sym N hm hsm h
end
section
theorem rows_same_1 : True := by
  k_with "exec For Name Name cons nil" => (fail_if_success k_extra "osame"); first | ((k_here; (rename Fr _ _ _ _ => lF'); (with_unfolding_all refine' For_turns lF' ?_; k_whole))) | fail "row"
  k_with "exec For Name Tuple cons nil" => (fail_if_success k_extra "osame"); first | ((k_here; (rename Fr _ _ _ _ => lF'); (with_unfolding_all refine' For_turns lF' ?_; k_whole))) | fail "row"
  k_with "exec For Tuple Tuple cons nil" => (fail_if_success k_extra "osame"); first | ((k_here; (rename Fr _ _ _ _ => lF'); (with_unfolding_all refine' For_turns lF' ?_; k_whole))) | fail "row"
  k_with "exec For Name Call cons nil" => (fail_if_success k_extra "osame"); first | ((k_here; (rename Fr _ _ _ _ => lF'); (with_unfolding_all refine' For_turns lF' ?_; k_whole))) | fail "row"
  k_with "exec For Name Attribute cons nil" => (fail_if_success k_extra "osame"); first | ((k_here; (rename Fr _ _ _ _ => lF'); (with_unfolding_all refine' For_turns lF' ?_; k_whole))) | fail "row"
  k_with "pyIter str" => (fail_if_success k_extra "osame"); first | ((k_here; k_dflt (refine iter_signs (by rfl) (by decide +kernel) (by k_asm) (by k_asm) ?_); intro i' l1; (try k_lt l1))) | fail "row"
  k_with "pyIter ref" => (fail_if_success k_extra "osame"); first | ((k_here; (with_reducible show wpAny _ _ (pyIter (Value.ref _)) (fun it s₂ => TurnsAt _ _ _ _ _ _ _ _ _ it s₂) _ _); first | ((with_unfolding_all refine' iter_listTurns (by rfl) (by k_asm) (by k_asm) (by k_extra "lcg_off") (by rfl) (by rfl) ?_); intro i' l1; (try k_lt l1)) | ((with_unfolding_all refine' iter_tupTurns (by rfl) (by k_asm) (by k_asm) (by k_extra "lcg_off") (by rfl) (by rfl) ?_); intro i' l1; (try k_lt l1)))) | fail "row"
  k_with "compareOp NotEq ref ref" => (fail_if_success k_extra "osame"); first | ((k_here; (with_reducible show wpAny _ _ (compareOp CmpOp.NotEq (Value.ref _) (Value.ref _)) _ _ _); k_dflt (refine' ne_nil (vs := []) (by k_asm) (by k_extra "lcg_off") (by k_extra "lcg_off") (by k_extra "ktr_units") ?_; k_whole))) | fail "row"
  k_with "enterC" => (fail_if_success k_extra "osame"); first | (((with_reducible refine enterC (by k_dflt k_is) (by k_dflt k_is) (by k_dflt k_asm) (by k_dflt k_asm) (by k_dflt k_asm) (by k_dflt k_asm) (by k_dflt k_asm) (by k_dflt (first | exact rfl | assumption)) (by first | exact room0 (by with_reducible assumption) | k_dflt k_extra "ktr_room") (by k_dflt (exact BindsTo.of_eq rfl)) (by k_dflt kernel_rfl) (by k_dflt (decide +kernel)) (by k_dflt kernel_rfl) ?_); intro g' L' h' tk' cells' Q' hq' F' N' Y' B' X' T' l1; k_cells Y'; (try simp only [List.cons_append, List.nil_append] at N'); (refine fold_fr F' ?_); (clear F'); intro m8 F'; (refine fold_A ?_); intro A1)) | fail "row"
  k_with "compareOp NotEq ref ref" => (fail_if_success k_extra "osame"); first | ((k_here; (with_reducible show wpAny _ _ (compareOp CmpOp.NotEq (Value.ref _) (Value.ref _)) _ _ _); k_dflt (refine' ne_same (by k_asm) (by k_extra "lcg_off") (by k_extra "lcg_off") (by with_reducible assumption) (by with_reducible assumption) (by with_reducible assumption) (by k_extra "ktr_units") ?_; k_whole))) | fail "row"
  k_with "subscriptTail" => (fail_if_success k_extra "osame"); first | ((k_here; (with_reducible show wpAny _ _ (subscriptTail _ _ (Value.ref _) (Value.int _ _)) _ _ _); k_dflt (refine' item_is (by k_asm) (by k_extra "lcg_off") (by omega) (by omega) (by with_reducible assumption) ?_; k_whole))) | fail "row"
  k_with "subscriptTail Name" => (fail_if_success k_extra "osame"); first | ((k_here; (with_reducible show wpAny _ _ (subscriptTail _ _ (Value.ref _) (Value.int _ _)) _ _ _); k_dflt (refine' item_is (by k_asm) (by k_extra "lcg_off") (by omega) (by omega) (by with_reducible assumption) ?_; k_whole))) | fail "row"
  k_with "subscriptTail Subscript" => (fail_if_success k_extra "osame"); first | ((k_here; (with_reducible show wpAny _ _ (subscriptTail _ _ (Value.ref _) (Value.int _ _)) _ _ _); k_dflt (refine' item_is (by k_asm) (by k_extra "lcg_off") (by omega) (by omega) (by with_reducible assumption) ?_; k_whole))) | fail "row"
  k_with "subscriptTail Attribute" => (fail_if_success k_extra "osame"); first | ((k_here; (with_reducible show wpAny _ _ (subscriptTail _ _ (Value.ref _) (Value.int _ _)) _ _ _); k_dflt (refine' item_is (by k_asm) (by k_extra "lcg_off") (by omega) (by omega) (by with_reducible assumption) ?_; k_whole))) | fail "row"
  k_with "subscriptTail" => (fail_if_success k_extra "osame"); first | ((k_here; (with_reducible show wpAny _ _ (subscriptTail _ _ (Value.ref _) (Value.int (0 + _) _)) _ _ _); k_dflt (refine' item_one (by k_asm) (by k_extra "lcg_off") (by decide) ?_; k_whole))) | fail "row"
  k_with "subscriptTail Name" => (fail_if_success k_extra "osame"); first | ((k_here; (with_reducible show wpAny _ _ (subscriptTail _ _ (Value.ref _) (Value.int (0 + _) _)) _ _ _); k_dflt (refine' item_one (by k_asm) (by k_extra "lcg_off") (by decide) ?_; k_whole))) | fail "row"
  k_with "subscriptTail Subscript" => (fail_if_success k_extra "osame"); first | ((k_here; (with_reducible show wpAny _ _ (subscriptTail _ _ (Value.ref _) (Value.int (0 + _) _)) _ _ _); k_dflt (refine' item_one (by k_asm) (by k_extra "lcg_off") (by decide) ?_; k_whole))) | fail "row"
  k_with "subscriptTail Attribute" => (fail_if_success k_extra "osame"); first | ((k_here; (with_reducible show wpAny _ _ (subscriptTail _ _ (Value.ref _) (Value.int (0 + _) _)) _ _ _); k_dflt (refine' item_one (by k_asm) (by k_extra "lcg_off") (by decide) ?_; k_whole))) | fail "row"
  k_with "call builtin:len" => (fail_if_success k_extra "osame"); first | ((k_here; (with_reducible show wpAny _ _ (call (Value.builtin "len") [Value.ref _]) _ _ _); k_dflt (refine' len_is (by k_asm) (by k_extra "lcg_off") (by with_reducible assumption) (by omega) ?_; k_whole))) | fail "row"
  k_with "eval Name" => (fail_if_success k_extra "osame"); first | ((k_here; k_dflt (refine nameX_L (by k_asm) (by first | exact rfl | assumption) ?_))) | fail "row"
  k_with "pyIter ref" => (fail_if_success k_extra "osame"); first | ((k_here; (with_reducible show wpAny _ _ (pyIter (Value.ref _)) (fun it s₂ => TurnsAt _ _ _ _ _ _ _ _ _ it s₂) _ _); k_dflt (refine iter_range (by rfl) (by with_reducible assumption) (by omega) (by k_asm) (by k_asm) ?_); intro i' l1)) | fail "row"
  k_with "compareOp Eq str str" => (fail_if_success k_extra "osame"); first | ((k_here; (with_reducible show wpAny _ _ (compareOp CmpOp.Eq (Value.str _ _) (Value.str (Str.ofString "in") _)) _ _ _); k_dflt (refine' eq_in (by with_reducible assumption) ?_; k_whole))) | fail "row"
  k_with "UnrEndW" => (fail_if_success k_extra "osame"); first | ((k_here; refine unr_sub (by k_asm) (by k_asm) (by k_extra "ktu_off1L") (by k_extra "ktu_offL") ⟨_, _, _, _, rfl, by assumption, by assumption, by assumption, by assumption, by assumption⟩)) | fail "row"
  trivial
theorem same_spec (q q' : Addr) (vs us : List Value) (n n' : Nat) (ds : List Bd) (news : Led) (m1 : (q, W.listOf vs.toArray n) ∈ news) (m2 : (q', W.listOf us.toArray n') ∈ news) (hb : BdsAt news vs ds) (hD : DuesAt news us ds) (hl : ds.length ≤ 2) (hok : ∀ d ∈ ds, BdOk d) :
    SpecP 9 707 [.ref q, .ref q'] news (fun v => v = .bool true) := Carry.out (by exact Carry.mk : Carry ((by
  unfold SpecP Spec
  intro prog w p loose mean mg mb dp un gd cn cs a ccd cl outer A₀ base h₀ L m s Q E B F X N T hk hd hu hret
  obtain ⟨e1, gb⟩ := bds_get hb
  have gd' := dues_get hD
  have e2 := hD.len
  k_dflt k_extra "enterC"
  k_steps
  · exact absurd rfl (by assumption)
  · refine items_inv (α := Nat) (keep := []) (fun (i : Nat) => Itm.tok fun u => .int (i : Int) u) (fun i v => ∃ u, v = .int (i : Int) u) (fun _ _ _ e => e) (fun ps m' n' => ∃ oa ob x y, n' = (L' + 1 + 1, oa) :: (L' + 1, ob) :: news ∧ oa.data = .cell x ∧ ob.data = .cell y ∧ m' (Str.ofString "bounds") = some (.ref q) ∧ m' (Str.ofString "due") = some (.ref q') ∧ ∀ i ∈ ps, i < ds.length) (fun _ _ _ _ => trivial) ?_ ?_ _ _ _ ?_
    · rintro i ps m9 n9 h9 tk9 o9 v9 ⟨oa, ob, x9, y9, rfl, da, db, hm1, hm2, hlt⟩ ⟨u9, rfl⟩ hcl F9 N9
      have hi := hlt i (.head _)
      have hlt' : ∀ j ∈ ps, j < ds.length := fun j hj => hlt j (.tail _ hj)
      obtain ⟨b, eb, hb'⟩ := gb i hi
      obtain ⟨t, et, ht⟩ := gd' i hi
      obtain ⟨k1, k2, k3, y, k4⟩ := hok _ (List.getElem_mem hi)
      generalize ds[i] = d at hb' ht k1 k2 k3 k4
      obtain ⟨place, op, val, led, coll⟩ := d
      dsimp only at k1 k2 k3 k4 hb' ht
      subst k4
      have k0 := op_in k1
      replace k1 : IsOp op ∨ op = Str.ofString "in" := Or.inl k1
      cases hb'
      cases ht
      (try change wpAny _ _ _ _ _ _); (try k_fold)
      k_steps
    · rintro m9 n9 h9 tk9 ⟨oa, ob, x9, y9, rfl, da, db, hm1, hm2, hlt⟩ F9 N9
      k_steps
      all_goals (refine finP hret (by k_asm) (by k_asm) (by k_asm) (by k_extra "tb_rel") ?_; exact rfl)
    · exact ⟨_, _, _, _, rfl, by assumption, by assumption, rfl, rfl, fun i hi => List.mem_range.mp hi⟩
  done
  : SpecP 9 707 [.ref q, .ref q'] news (fun v => v = .bool true)) :))

end

theorem same_specu {prog9 : Program} {w9 : World} {p9 : Program} {loose9 : List Str} {mean9 : ExcName → Option Value} {mg9 mb9 : Str → Option Value} {dp9 un9 : Nat} {gd9 : Option (List Code)} {cn9 : Str} {cs9 : Scope} {a9 : Addr} {ccd9 : Value} {cl9 : List (Str × Addr)} {outer9 : List Env} {A₀9 : Around} {base9 h₀9 : Heap} {L9 : Addr} {m9 : Str → Option Value} {hh9 : Heap} {gg9 : Array GenState} {dd9 : Drawn} {tt9 : Nat} {oo9 : OsState} {Q9 E9 : Value → Shared → Prop} {A9 : Around} (q q' : Addr) (vs us : List Value) (n n' : Nat) (ds : List Bd) (news : Led) (hA9 : A9 = ktrTop dp9 un9 gd9 cn9 cs9 L9 a9 ccd9 cl9 outer9) (B9 : Below A₀9 base9 outer9 h₀9) (F9 : Fr h₀9 L9 hh9 m9) (X9 : (hd.heap_39 w9.params).In h₀9) (N9 : News h₀9 L9 hh9 news) (T9 : Top p9 loose9 mean9 mg9 mb9 h₀9) (hk9 : cs9.kind = .function) (m1 : (q, W.listOf vs.toArray n) ∈ news) (m2 : (q', W.listOf us.toArray n') ∈ news) (hb : BdsAt news vs ds) (hD : DuesAt news us ds) (hl : ds.length ≤ 2) (hok : ∀ d ∈ ds, BdOk d) (hd9 : dp9 + 9 < recursionLimit) (hu9 : un9 + 8 * 9 < cLine)
    (ret9 : ∀ h9 tk9, Fr h₀9 L9 h9 m9 → News h₀9 L9 h9 (news) → Q9 (.bool true) ⟨h9, gg9, dd9, tk9, oo9⟩) :
    wpAny (model prog9 w9) A9 (call (.ref 707) [.ref q, .ref q']) Q9 E9 ⟨hh9, gg9, dd9, tt9, oo9⟩ := by
  subst hA9
  refine Spec.useN B9 F9 X9 N9 T9 hk9 (same_spec q q' vs us n n' ds news m1 m2 hb hD hl hok) hd9 hu9 fun v nw8 h8 tk8 F8 N8 P8 => ?_
  obtain ⟨rfl, rfl⟩ := P8
  exact ret9  h8 tk8 F8 N8
theorem rows_same_2 : True := by
  k_with "osame" => skip
  k_with "call ref" => first | (k_here; (with_reducible show wpAny _ _ (call (Value.ref 707) _) _ _ _); (with_reducible refine same_specu _ _ _ _ _ _ _ _ (by k_dflt (exact rfl)) (by k_dflt (k_asm)) (by k_dflt (k_asm)) (by k_dflt (k_asm)) (by k_dflt (k_asm)) (by k_dflt (k_asm)) (by k_dflt (first | exact rfl | assumption)) (by k_dflt (k_extra "lcg_off")) (by k_dflt (k_extra "lcg_off")) (by k_dflt (k_extra "bds")) (by k_dflt (k_extra "dues")) (by k_dflt (k_extra "dlen")) (by k_dflt (k_extra "dok")) (by k_dflt (k_extra "ktr_room")) (by k_dflt (k_extra "ktr_units")) ?_); intro h9 tk9 F9 N9; (try k_sweep); (try k_fold)) | fail "row"
  trivial
local macro_rules | `(tactic| k_handed) => `(tactic| with_reducible exact handed_ov)
section
theorem rows_samein_1 : True := by
  k_with "exec For Name Name cons nil" => (fail_if_success k_extra "osamein"); first | ((k_here; (rename Fr _ _ _ _ => lF'); (with_unfolding_all refine' For_turns lF' ?_; k_whole))) | fail "row"
  k_with "exec For Name Tuple cons nil" => (fail_if_success k_extra "osamein"); first | ((k_here; (rename Fr _ _ _ _ => lF'); (with_unfolding_all refine' For_turns lF' ?_; k_whole))) | fail "row"
  k_with "exec For Tuple Tuple cons nil" => (fail_if_success k_extra "osamein"); first | ((k_here; (rename Fr _ _ _ _ => lF'); (with_unfolding_all refine' For_turns lF' ?_; k_whole))) | fail "row"
  k_with "exec For Name Call cons nil" => (fail_if_success k_extra "osamein"); first | ((k_here; (rename Fr _ _ _ _ => lF'); (with_unfolding_all refine' For_turns lF' ?_; k_whole))) | fail "row"
  k_with "exec For Name Attribute cons nil" => (fail_if_success k_extra "osamein"); first | ((k_here; (rename Fr _ _ _ _ => lF'); (with_unfolding_all refine' For_turns lF' ?_; k_whole))) | fail "row"
  k_with "pyIter str" => (fail_if_success k_extra "osamein"); first | ((k_here; k_dflt (refine iter_signs (by rfl) (by decide +kernel) (by k_asm) (by k_asm) ?_); intro i' l1; (try k_lt l1))) | fail "row"
  k_with "pyIter ref" => (fail_if_success k_extra "osamein"); first | ((k_here; (with_reducible show wpAny _ _ (pyIter (Value.ref _)) (fun it s₂ => TurnsAt _ _ _ _ _ _ _ _ _ it s₂) _ _); first | ((with_unfolding_all refine' iter_listTurns (by rfl) (by k_asm) (by k_asm) (by k_extra "lcg_off") (by rfl) (by rfl) ?_); intro i' l1; (try k_lt l1)) | ((with_unfolding_all refine' iter_tupTurns (by rfl) (by k_asm) (by k_asm) (by k_extra "lcg_off") (by rfl) (by rfl) ?_); intro i' l1; (try k_lt l1)))) | fail "row"
  k_with "compareOp NotEq ref ref" => (fail_if_success k_extra "osamein"); first | ((k_here; (with_reducible show wpAny _ _ (compareOp CmpOp.NotEq (Value.ref _) (Value.ref _)) _ _ _); k_dflt (refine' ne_nil (vs := []) (by k_asm) (by k_extra "lcg_off") (by k_extra "lcg_off") (by k_extra "ktr_units") ?_; k_whole))) | fail "row"
  k_with "enterC" => (fail_if_success k_extra "osamein"); first | (((with_reducible refine enterC (by k_dflt k_is) (by k_dflt k_is) (by k_dflt k_asm) (by k_dflt k_asm) (by k_dflt k_asm) (by k_dflt k_asm) (by k_dflt k_asm) (by k_dflt (first | exact rfl | assumption)) (by first | exact room0 (by with_reducible assumption) | k_dflt k_extra "ktr_room") (by k_dflt (exact BindsTo.of_eq rfl)) (by k_dflt kernel_rfl) (by k_dflt (decide +kernel)) (by k_dflt kernel_rfl) ?_); intro g' L' h' tk' cells' Q' hq' F' N' Y' B' X' T' l1; k_cells Y'; (try simp only [List.cons_append, List.nil_append] at N'); (refine fold_fr F' ?_); (clear F'); intro m8 F'; (refine fold_A ?_); intro A1)) | fail "row"
  k_with "compareOp NotEq ref ref" => (fail_if_success k_extra "osamein"); first | ((k_here; (with_reducible show wpAny _ _ (compareOp CmpOp.NotEq (Value.ref _) (Value.ref _)) _ _ _); k_dflt (refine' ne_same (by k_asm) (by k_extra "lcg_off") (by k_extra "lcg_off") (by with_reducible assumption) (by with_reducible assumption) (by with_reducible assumption) (by k_extra "ktr_units") ?_; k_whole))) | fail "row"
  k_with "subscriptTail" => (fail_if_success k_extra "osamein"); first | ((k_here; (with_reducible show wpAny _ _ (subscriptTail _ _ (Value.ref _) (Value.int _ _)) _ _ _); k_dflt (refine' item_is (by k_asm) (by k_extra "lcg_off") (by omega) (by omega) (by with_reducible assumption) ?_; k_whole))) | fail "row"
  k_with "subscriptTail Name" => (fail_if_success k_extra "osamein"); first | ((k_here; (with_reducible show wpAny _ _ (subscriptTail _ _ (Value.ref _) (Value.int _ _)) _ _ _); k_dflt (refine' item_is (by k_asm) (by k_extra "lcg_off") (by omega) (by omega) (by with_reducible assumption) ?_; k_whole))) | fail "row"
  k_with "subscriptTail Subscript" => (fail_if_success k_extra "osamein"); first | ((k_here; (with_reducible show wpAny _ _ (subscriptTail _ _ (Value.ref _) (Value.int _ _)) _ _ _); k_dflt (refine' item_is (by k_asm) (by k_extra "lcg_off") (by omega) (by omega) (by with_reducible assumption) ?_; k_whole))) | fail "row"
  k_with "subscriptTail Attribute" => (fail_if_success k_extra "osamein"); first | ((k_here; (with_reducible show wpAny _ _ (subscriptTail _ _ (Value.ref _) (Value.int _ _)) _ _ _); k_dflt (refine' item_is (by k_asm) (by k_extra "lcg_off") (by omega) (by omega) (by with_reducible assumption) ?_; k_whole))) | fail "row"
  k_with "subscriptTail" => (fail_if_success k_extra "osamein"); first | ((k_here; (with_reducible show wpAny _ _ (subscriptTail _ _ (Value.ref _) (Value.int (0 + _) _)) _ _ _); k_dflt (refine' item_one (by k_asm) (by k_extra "lcg_off") (by decide) ?_; k_whole))) | fail "row"
  k_with "subscriptTail Name" => (fail_if_success k_extra "osamein"); first | ((k_here; (with_reducible show wpAny _ _ (subscriptTail _ _ (Value.ref _) (Value.int (0 + _) _)) _ _ _); k_dflt (refine' item_one (by k_asm) (by k_extra "lcg_off") (by decide) ?_; k_whole))) | fail "row"
  k_with "subscriptTail Subscript" => (fail_if_success k_extra "osamein"); first | ((k_here; (with_reducible show wpAny _ _ (subscriptTail _ _ (Value.ref _) (Value.int (0 + _) _)) _ _ _); k_dflt (refine' item_one (by k_asm) (by k_extra "lcg_off") (by decide) ?_; k_whole))) | fail "row"
  k_with "subscriptTail Attribute" => (fail_if_success k_extra "osamein"); first | ((k_here; (with_reducible show wpAny _ _ (subscriptTail _ _ (Value.ref _) (Value.int (0 + _) _)) _ _ _); k_dflt (refine' item_one (by k_asm) (by k_extra "lcg_off") (by decide) ?_; k_whole))) | fail "row"
  k_with "call builtin:len" => (fail_if_success k_extra "osamein"); first | ((k_here; (with_reducible show wpAny _ _ (call (Value.builtin "len") [Value.ref _]) _ _ _); k_dflt (refine' len_is (by k_asm) (by k_extra "lcg_off") (by with_reducible assumption) (by omega) ?_; k_whole))) | fail "row"
  k_with "eval Name" => (fail_if_success k_extra "osamein"); first | ((k_here; k_dflt (refine nameX_L (by k_asm) (by first | exact rfl | assumption) ?_))) | fail "row"
  k_with "pyIter ref" => (fail_if_success k_extra "osamein"); first | ((k_here; (with_reducible show wpAny _ _ (pyIter (Value.ref _)) (fun it s₂ => TurnsAt _ _ _ _ _ _ _ _ _ it s₂) _ _); k_dflt (refine iter_range (by rfl) (by with_reducible assumption) (by omega) (by k_asm) (by k_asm) ?_); intro i' l1)) | fail "row"
  k_with "compareOp Eq str str" => (fail_if_success k_extra "osamein"); first | ((k_here; (with_reducible show wpAny _ _ (compareOp CmpOp.Eq (Value.str _ _) (Value.str (Str.ofString "in") _)) _ _ _); k_dflt (refine' eq_in (by with_reducible assumption) ?_; k_whole))) | fail "row"
  k_with "compareOp Eq str str" => (fail_if_success k_extra "osamein"); first | ((k_here; (with_reducible show wpAny _ _ (compareOp CmpOp.Eq (Value.str _ _) (Value.str (Str.ofString "in") _)) _ _ _); k_dflt (refine' eq_str ?_; k_whole))) | fail "row"
  k_with "subscriptTail" => (fail_if_success k_extra "osamein"); first | ((k_here; (with_reducible show wpAny _ _ (subscriptTail _ _ (Value.ref _) (Value.int (0 + _) _)) _ _ _); k_dflt (refine' item_is0 (by k_asm) (by k_extra "lcg_off") (by with_reducible assumption) (by with_reducible assumption) (by with_reducible assumption) ?_; k_whole))) | fail "row"
  k_with "subscriptTail Name" => (fail_if_success k_extra "osamein"); first | ((k_here; (with_reducible show wpAny _ _ (subscriptTail _ _ (Value.ref _) (Value.int (0 + _) _)) _ _ _); k_dflt (refine' item_is0 (by k_asm) (by k_extra "lcg_off") (by with_reducible assumption) (by with_reducible assumption) (by with_reducible assumption) ?_; k_whole))) | fail "row"
  k_with "subscriptTail Subscript" => (fail_if_success k_extra "osamein"); first | ((k_here; (with_reducible show wpAny _ _ (subscriptTail _ _ (Value.ref _) (Value.int (0 + _) _)) _ _ _); k_dflt (refine' item_is0 (by k_asm) (by k_extra "lcg_off") (by with_reducible assumption) (by with_reducible assumption) (by with_reducible assumption) ?_; k_whole))) | fail "row"
  k_with "subscriptTail Attribute" => (fail_if_success k_extra "osamein"); first | ((k_here; (with_reducible show wpAny _ _ (subscriptTail _ _ (Value.ref _) (Value.int (0 + _) _)) _ _ _); k_dflt (refine' item_is0 (by k_asm) (by k_extra "lcg_off") (by with_reducible assumption) (by with_reducible assumption) (by with_reducible assumption) ?_; k_whole))) | fail "row"
  k_with "CompSrcT" => (fail_if_success k_extra "osamein"); first | ((k_here; k_dflt (refine CompSrcT.range (n := us.length) (by rfl) (by k_asm) (by k_asm) (by with_reducible assumption) (small_one (by omega) (by omega) (by omega) (by omega)) (by rw [rangeSize_nat]; omega) (by rw [sizeLine_eq]; omega) ?_); intro g'; k_dflt (refine comp_none us.length (fun i v I oI C oC D m₂ h' tk' E9 Q9 hi9 hv9 hC' hx' F' N' off' ne' hQ9 => ?_) trivial ?_ _ 0 rfl); obtain ⟨t9, hv9⟩ := hv9; subst hv9; obtain ⟨a9, ea9⟩ := hu i hi9)) | fail "row"
  trivial
open LCt in
theorem same_in (q q' b t nl il : Addr) (n0 n1 n2 n3 : Nat) (place : Int) (led : Option Str) (coll : Str) (tp to tl tc : Tok) (us : List Value) (news : Led) (m1 : (q, W.listOf #[.ref b] n0) ∈ news) (m2 : (q', W.listOf #[.ref t] n1) ∈ news)
    (hb : BoundAt news b place (Str.ofString "in") (.ref il) led coll) (m3 : (t, tupO [.int place tp, .str (Str.ofString "in") to, .ref nl, ov led tl, .str coll tc]) ∈ news) (m4 : (nl, W.listOf us.toArray n2) ∈ news) (m5 : (il, W.listOf us.toArray n3) ∈ news)
    (hl : us.length ≤ 12) (hu : ∀ i, i < us.length → ∃ a, us.getD i .none = .ref a) (k2 : IsColl coll) (k3 : IsLed led) :
    SpecP 9 707 [.ref q, .ref q'] news (fun v => v = .bool true) := Carry.out (by exact Carry.mk : Carry ((by
  unfold SpecP Spec
  intro prog w p loose mean mg mb dp un gd cn cs a ccd cl outer A₀ base h₀ L m s Q E B F X N T hk hd hun hret
  have k1 : IsOp (Str.ofString "in") ∨ Str.ofString "in" = Str.ofString "in" := Or.inr rfl
  have eb : [Value.ref b].getD 0 .none = .ref b := rfl
  have et : [Value.ref t].getD 0 .none = .ref t := rfl
  have e1 : [Value.ref b].length = 1 := rfl
  have e2 : [Value.ref t].length = 1 := rfl
  have e3 : us.length = us.length := rfl
  cases hb
  k_dflt k_extra "enterC"
  k_steps
  · exact absurd rfl (by assumption)
  · exact hQ9 _ _ (by k_asm) (by k_asm)
  all_goals (refine finP hret (by k_asm) (by k_asm) (by k_asm) (by k_extra "tb_rel") ?_; exact rfl)
  done
  : SpecP 9 707 [.ref q, .ref q'] news (fun v => v = .bool true)) :))

end

theorem rows_samein_2 : True := by
  k_with "osamein" => skip
  trivial
/-- what one end of a BETWEEN gives -/
def sideB (c v : Nd) (op : Str) (x : Addr) : List Bd := if (v.num == some 3) = true then [] else colB c v op (.ref x) (cmpColl c v)
theorem btw_eq {nv lo hi : Nd} {lx hx : Addr} (h : isCol nv 3 = true) : btwBounds 3 false nv lo hi lx hx = ([] ++ sideB nv lo (Str.ofString ">=") lx) ++ sideB nv hi (Str.ofString "<=") hx := by
  cases nv with
  | name n p a c =>
    have h' : (n == 3) = true := h
    simp only [btwBounds, Bool.false_eq_true, if_false, h', if_true, sideB, colB, List.nil_append, bne]
    rcases Bool.eq_false_or_eq_true (lo.num == some 3) with h1 | h1 <;> rcases Bool.eq_false_or_eq_true (hi.num == some 3) with h2 | h2 <;> simp only [h1, h2, Bool.not_true, Bool.not_false, Bool.false_eq_true, if_false, if_true]
  | _ => cases h
theorem btw_neg {nv lo hi : Nd} {lx hx : Addr} : btwBounds 3 true nv lo hi lx hx = [] := by simp [btwBounds]
theorem btw_not {nv lo hi : Nd} {lx hx : Addr} {ng : Bool} (h : isCol nv 3 = false) : btwBounds 3 ng nv lo hi lx hx = [] := by
  cases ng <;> cases nv <;> simp_all [btwBounds, isCol]
theorem btw_neg0 {nv lo hi : Nd} {lx hx : Addr} {d : Int} (h : d = 0) : btwBounds 3 (d == 0) nv lo hi lx hx = [] := by subst h; exact btw_neg
theorem btw_eq0 {nv lo hi : Nd} {lx hx : Addr} {d : Int} (hd : ¬ d = 0) (h : isCol nv 3 = true) : btwBounds 3 (d == 0) nv lo hi lx hx = ([] ++ sideB nv lo (Str.ofString ">=") lx) ++ sideB nv hi (Str.ofString "<=") hx := by
  rw [show (d == 0) = false from by simpa using hd]
  exact btw_eq h
theorem place_none {nd : Nd} {num : Int} {t : Tok} : (!(sidePlace nd num t == Value.none)) = isCol nd num := by
  cases nd with
  | name n p a c =>
    simp only [sidePlace, isCol]
    cases h : (n == num) <;> rfl
  | _ => rfl
theorem oneBound_ok {aff : Str} {place : Int} {v : Nd} {op : Str} {x : Addr} {coll : Str} (h1 : IsOp op) (h2 : IsColl coll) : ∀ d ∈ oneBound aff place v op (.ref x) coll, BdOk d := by
  intro d hd
  unfold oneBound at hd
  cases e : (cmpAff aff v.aff).1 with
  | some c => rw [e] at hd; cases hd
  | none =>
    rw [e] at hd
    obtain rfl := List.mem_singleton.mp hd
    refine ⟨h1, h2, ?_, x, rfl⟩
    unfold IsLed
    simp only [cmpAff]
    (repeat' split) <;> simp
theorem cmpColl_ok {l r : Nd} (hl : ∀ c, l.col = some c → IsColl c) (hr : ∀ c, r.col = some c → IsColl c) (hel : ∀ c, l.exp = some c → IsColl c) (her : ∀ c, r.exp = some c → IsColl c) : IsColl (cmpColl l r) := by
  unfold cmpColl
  cases e1 : l.exp with
  | some c => exact hel c e1
  | none =>
    cases e2 : r.exp with
    | some c => exact her c e2
    | none =>
      cases e3 : l.col with
      | some c => exact hl c e3
      | none =>
        cases e4 : r.col with
        | some c => exact hr c e4
        | none => exact .inl rfl
theorem exp_ok {news : Led} {x : Addr} {nd : Nd} (h : NodeAt news x nd) : ∀ c, nd.exp = some c → IsColl c := by
  intro c e
  cases h with
  | coll _ _ _ hw =>
    cases e
    rcases hw with ⟨_, rfl⟩ | ⟨_, rfl⟩ | ⟨_, rfl⟩
    · exact .inr (.inl rfl)
    · exact .inr (.inr rfl)
    · exact .inl rfl
  | _ => cases e
theorem colB_ok {n1 n2 : Led} {tl tr y lx rx : Addr} {c v l r : Nd} {op : Str} (h1 : IsOp op) (hl : SideA n1 3 tl lx l) (hr : SideA n2 3 tr rx r) : ∀ d ∈ colB c v op (.ref y) (cmpColl l r), BdOk d := by
  have hc := cmpColl_ok hl.colOk hr.colOk (exp_ok hl.node) (exp_ok hr.node)
  cases c with
  | name n p a cc => exact oneBound_ok h1 hc
  | _ => intro d hd; cases hd
theorem colB_len {c v : Nd} {op : Str} {val : Value} {coll : Str} : (colB c v op val coll).length ≤ 1 := by
  cases c with
  | name n p a cc => simp only [colB, oneBound]; split <;> simp
  | _ => exact Nat.zero_le _
theorem sideB_len {c v : Nd} {op : Str} {x : Addr} : (sideB c v op x).length ≤ 1 := by
  unfold sideB
  split
  · exact Nat.zero_le _
  · exact colB_len
theorem sideB_ok {n1 n2 : Led} {t1 t2 x y : Addr} {c v : Nd} {op : Str} (h1 : IsOp op) (hc : SideA n1 3 t1 x c) (hv : SideA n2 3 t2 y v) : ∀ d ∈ sideB c v op y, BdOk d := by
  unfold sideB
  split
  · intro d hd; cases hd
  · exact colB_ok h1 hc hv
theorem btw_ok {n1 n2 n3 : Led} {t1 t2 t3 x y z : Addr} {nv lo hi : Nd} {ng : Bool} (hv : SideA n1 3 t1 x nv) (h1 : SideA n2 3 t2 y lo) (h2 : SideA n3 3 t3 z hi) : (btwBounds 3 ng nv lo hi y z).length ≤ 2 ∧ ∀ d ∈ btwBounds 3 ng nv lo hi y z, BdOk d := by
  cases hc : isCol nv 3 with
  | false => rw [btw_not hc]; exact ⟨Nat.zero_le _, fun d hd => by cases hd⟩
  | true =>
    cases ng with
    | true => rw [btw_neg]; exact ⟨Nat.zero_le _, fun d hd => by cases hd⟩
    | false =>
      rw [btw_eq hc]
      refine ⟨?_, fun d hd => ?_⟩
      · have a := @sideB_len nv lo (Str.ofString ">=") y
        have b := @sideB_len nv hi (Str.ofString "<=") z
        simp only [List.length_append, List.length_nil]
        omega
      · rcases List.mem_append.mp hd with hd | hd
        · exact sideB_ok (.inr (.inr (.inr (.inr rfl)))) hv h1 d hd
        · exact sideB_ok (.inr (.inr (.inl rfl))) hv h2 d hd
/-- behind an expression that gives a due list whichever way is gone -/
def JoinI (h₀ : Heap) (L : Addr) (m : Str → Option Value) (s : Shared) (news : Led) (ds : List Bd) (v : Value) (s' : Shared) : Prop :=
  ∃ q us pre h tk, v = .ref q ∧ s' = { s with heap := h, toks := tk } ∧ (q, W.listOf us.toArray 0) ∈ pre ∧ us.length ≤ 1 ∧ DuesAt pre us ds ∧ Fresh news pre ∧ Fr h₀ L h m ∧ News h₀ L h (pre ++ news)
section
variable {prog : Program} {w : World} {A : Around} {E : Value → Shared → Prop} {s : Shared} {h₀ : Heap} {L : Addr} {m : Str → Option Value} {news cur pre : Led} {env : Env} {e : PySem.Expr} {ds : List Bd} {Q : Value → Shared → Prop} {nd : Nd} {num : Int} {t : Tok}
theorem joinI (_F : Fr h₀ L s.heap m) (_N : News h₀ L s.heap news) (h1 : wpAny (model prog w) A (eval e env) (JoinI h₀ L m s news ds) E s)
    (h2 : ∀ q us pre h tk, (q, W.listOf us.toArray 0) ∈ pre → us.length ≤ 1 → DuesAt pre us ds → Fresh news pre → Fr h₀ L h m → News h₀ L h (pre ++ news) → Q (.ref q) { s with heap := h, toks := tk }) : wpAny (model prog w) A (eval e env) Q E s := by
  refine wpAny_mono h1 (fun v s' q => ?_) fun _ _ e => e
  obtain ⟨q, us, pre, h, tk, rfl, rfl, a, b, c, d, F, N⟩ := q
  exact h2 q us pre h tk a b c d F N
theorem joinI_end {h : Heap} {tk : Nat} {q : Addr} {us : List Value} (F : Fr h₀ L h m) (N : News h₀ L h cur) (O : OutN news cur pre) (hf : Fresh news pre) (hm : (q, W.listOf us.toArray 0) ∈ pre) (hl : us.length ≤ 1) (hD : DuesAt pre us ds) :
    JoinI h₀ L m s news ds (.ref q) { s with heap := h, toks := tk } := ⟨q, us, pre, h, tk, rfl, rfl, hm, hl, hD, hf, F, O.eq ▸ N⟩
theorem dues_t {c v : Nd} {op : Str} {x : Addr} (h : (v.num == some 3) = true) : DuesAt news [] (sideB c v op x) := by unfold sideB; rw [if_pos h]; exact .nil
theorem dues_f {us : List Value} {c v : Nd} {op : Str} {x : Addr} (h : (v.num == some 3) = false) (D : DuesAt news us (colB c v op (.ref x) (cmpColl c v))) : DuesAt news us (sideB c v op x) := by unfold sideB; rw [if_neg (by rw [h]; exact Bool.false_ne_true)]; exact D
theorem isNot_place (h : Q (.bool (isCol nd num)) s) : wpAny (model prog w) A (compareOp .IsNot (sidePlace nd num t) .none) Q E s := isNot_none (by rw [place_none]; exact h)
end
section
theorem rows_lawbtw_1 : True := by
  k_with "exec For Name Name cons nil" => (fail_if_success k_extra "olawbtw"); first | ((k_here; (rename Fr _ _ _ _ => lF'); (with_unfolding_all refine' For_turns lF' ?_; k_whole))) | fail "row"
  k_with "exec For Name Tuple cons nil" => (fail_if_success k_extra "olawbtw"); first | ((k_here; (rename Fr _ _ _ _ => lF'); (with_unfolding_all refine' For_turns lF' ?_; k_whole))) | fail "row"
  k_with "exec For Tuple Tuple cons nil" => (fail_if_success k_extra "olawbtw"); first | ((k_here; (rename Fr _ _ _ _ => lF'); (with_unfolding_all refine' For_turns lF' ?_; k_whole))) | fail "row"
  k_with "exec For Name Call cons nil" => (fail_if_success k_extra "olawbtw"); first | ((k_here; (rename Fr _ _ _ _ => lF'); (with_unfolding_all refine' For_turns lF' ?_; k_whole))) | fail "row"
  k_with "exec For Name Attribute cons nil" => (fail_if_success k_extra "olawbtw"); first | ((k_here; (rename Fr _ _ _ _ => lF'); (with_unfolding_all refine' For_turns lF' ?_; k_whole))) | fail "row"
  k_with "pyIter str" => (fail_if_success k_extra "olawbtw"); first | ((k_here; k_dflt (refine iter_signs (by rfl) (by decide +kernel) (by k_asm) (by k_asm) ?_); intro i' l1; (try k_lt l1))) | fail "row"
  k_with "pyIter ref" => (fail_if_success k_extra "olawbtw"); first | ((k_here; (with_reducible show wpAny _ _ (pyIter (Value.ref _)) (fun it s₂ => TurnsAt _ _ _ _ _ _ _ _ _ it s₂) _ _); first | ((with_unfolding_all refine' iter_listTurns (by rfl) (by k_asm) (by k_asm) (by k_extra "lcg_off") (by rfl) (by rfl) ?_); intro i' l1; (try k_lt l1)) | ((with_unfolding_all refine' iter_tupTurns (by rfl) (by k_asm) (by k_asm) (by k_extra "lcg_off") (by rfl) (by rfl) ?_); intro i' l1; (try k_lt l1)))) | fail "row"
  k_with "compareOp IsNot" => (fail_if_success k_extra "olawbtw"); first | ((k_here; (with_reducible show wpAny _ _ (compareOp CmpOp.IsNot (sidePlace _ _ _) Value.none) _ _ _); k_dflt (refine' isNot_place ?_; k_whole))) | fail "row"
  k_with "binaryOp Add ref ref" => (fail_if_success k_extra "olawbtw"); first | ((k_here; (with_reducible show wpAny _ _ (binaryOp _ (Value.ref _) (Value.ref _)) _ _ _); k_dflt (refine' add_sym (by k_asm) (by k_asm) (by k_extra "lcg_off") (by k_extra "lcg_off") (by (try simp only [List.length_nil, List.length_append]); omega) ?_; k_whole); intro D' h' F' N' l1; (try k_sweep))) | fail "row"
  k_with "call ref" => (fail_if_success k_extra "olawbtw"); first | (k_here; (with_reducible show wpAny _ _ (call (Value.ref 683) _) _ _ _); (with_reducible refine side_specu _ _ _ _ _ _ _ (by k_dflt (exact rfl)) (by k_dflt (k_asm)) (by k_dflt (k_asm)) (by k_dflt (k_asm)) (by k_dflt (k_asm)) (by k_dflt (repeat (first | exact Pick.head | apply Pick.tail | apply Pick.app))) (by k_dflt (k_asm)) (by k_dflt (first | exact rfl | assumption)) (by k_dflt (first | with_reducible assumption | exact SourceAt.mono (by with_reducible assumption) (by k_extra "ktu_off1L"))) (by k_dflt (first | with_reducible assumption | exact SourceAt.mono (by with_reducible assumption) (by k_extra "ktu_off1L"))) (by k_dflt (k_extra "ktu_offL")) (by k_dflt (k_extra "ktr_room")) (by k_dflt (k_extra "ktr_units")) ?_); intro σ9 pre9a fa9a fr9a t9a x9a nd9a S9a h9 tk9 F9 N9; have S8 := S9a; obtain ⟨m9, n9, ha9, hc9⟩ := S8; (try k_sweep); (try k_fold)) | fail "row"
  k_with "call ref" => (fail_if_success k_extra "olawbtw"); first | (k_here; have := S9a; (with_reducible show wpAny _ _ (call (Value.ref 683) _) _ _ _); (with_reducible refine side_specu _ _ _ _ _ _ _ (by k_dflt (exact rfl)) (by k_dflt (k_asm)) (by k_dflt (k_asm)) (by k_dflt (k_asm)) (by k_dflt (k_asm)) (by k_dflt (repeat (first | exact Pick.head | apply Pick.tail | apply Pick.app))) (by k_dflt (k_asm)) (by k_dflt (first | exact rfl | assumption)) (by k_dflt (first | with_reducible assumption | exact SourceAt.mono (by with_reducible assumption) (by k_extra "ktu_off1L"))) (by k_dflt (first | with_reducible assumption | exact SourceAt.mono (by with_reducible assumption) (by k_extra "ktu_off1L"))) (by k_dflt (k_extra "ktu_offL")) (by k_dflt (k_extra "ktr_room")) (by k_dflt (k_extra "ktr_units")) ?_); intro σ9 pre9b fa9b fr9b t9b x9b nd9b S9b h9 tk9 F9 N9; have S8 := S9b; obtain ⟨m9, n9, ha9, hc9⟩ := S8; (try k_sweep); (try k_fold)) | fail "row"
  k_with "call ref" => (fail_if_success k_extra "olawbtw"); first | (k_here; have := S9b; (with_reducible show wpAny _ _ (call (Value.ref 683) _) _ _ _); (with_reducible refine side_specu _ _ _ _ _ _ _ (by k_dflt (exact rfl)) (by k_dflt (k_asm)) (by k_dflt (k_asm)) (by k_dflt (k_asm)) (by k_dflt (k_asm)) (by k_dflt (repeat (first | exact Pick.head | apply Pick.tail | apply Pick.app))) (by k_dflt (k_asm)) (by k_dflt (first | exact rfl | assumption)) (by k_dflt (first | with_reducible assumption | exact SourceAt.mono (by with_reducible assumption) (by k_extra "ktu_off1L"))) (by k_dflt (first | with_reducible assumption | exact SourceAt.mono (by with_reducible assumption) (by k_extra "ktu_off1L"))) (by k_dflt (k_extra "ktu_offL")) (by k_dflt (k_extra "ktr_room")) (by k_dflt (k_extra "ktr_units")) ?_); intro σ9 pre9c fa9c fr9c t9c x9c nd9c S9c h9 tk9 F9 N9; have S8 := S9c; obtain ⟨m9, n9, ha9, hc9⟩ := S8; (try k_sweep); (try k_fold)) | fail "row"
  k_with "eval IfExp" => (fail_if_success k_extra "olawbtw"); first | ((k_here; (fail_if_success (with_reducible show wpAny _ _ _ (JoinI _ _ _ _ _ _) _ _)); k_dflt (refine joinI (ds := sideB nd9a nd9b (Str.ofString ">=") x9b) (by k_asm) (by k_asm) ?_ (fun q9b us9b pre9p h9 tk9 mq9b hz9b D9b fq9b F9 N9 => ?_)))) | fail "row"
  k_with "eval IfExp" => (fail_if_success k_extra "olawbtw"); first | ((k_here; (fail_if_success (with_reducible show wpAny _ _ _ (JoinI _ _ _ _ _ _) _ _)); (have := D9b); k_dflt (refine joinI (ds := sideB nd9a nd9c (Str.ofString "<=") x9c) (by k_asm) (by k_asm) ?_ (fun q9c us9c pre9q h9 tk9 mq9c hz9c D9c fq9c F9 N9 => ?_)))) | fail "row"
  k_with "JoinI" => (fail_if_success k_extra "olawbtw"); first | ((k_here; k_dflt (first | refine joinI_end (us := []) (by k_asm) (by k_asm) (by k_extra "tb_rel") (by k_extra "tb_start") (by k_extra "lcg_off") (Nat.zero_le _) (dues_t (by with_reducible assumption)) | refine joinI_end (by k_asm) (by k_asm) (by k_extra "tb_rel") (by k_extra "tb_start") (by k_extra "lcg_off") (by with_reducible assumption) (dues_f (by with_reducible assumption) (DuesAt.mono (by with_reducible assumption) (by k_extra "ktu_off1L")))))) | fail "row"
  k_with "bds" => (fail_if_success k_extra "olawbtw"); first | (first | with_reducible assumption | exact BdsAt.mono (by with_reducible assumption) (by k_extra "ktu_off1L")) | fail "row"
  k_with "dues" => (fail_if_success k_extra "olawbtw"); first | (first | (rw [btw_neg0 (by with_reducible assumption)]; exact DuesAt.nil) | (rw [btw_not (by with_reducible assumption)]; exact DuesAt.nil) | (rw [btw_eq0 (by with_reducible assumption) (by with_reducible assumption)]; exact DuesAt.app (DuesAt.app .nil (DuesAt.mono (by with_reducible assumption) (by k_extra "ktu_off1L"))) (DuesAt.mono (by with_reducible assumption) (by k_extra "ktu_off1L")))) | fail "row"
  k_with "dlen" => (fail_if_success k_extra "olawbtw"); first | ((exact (btw_ok S9a S9b S9c).1)) | fail "row"
  k_with "dok" => (fail_if_success k_extra "olawbtw"); first | ((exact (btw_ok S9a S9b S9c).2)) | fail "row"
  trivial
theorem lawbtw_spec (aS : Addr) (σ : Src) (own other : Addr) (co cr : Nat → Col) (rest : Led) (ho : SourceAt rest own 3 co) (hr : SourceAt rest other 8 cr) (hne : ∀ p ∈ rest, p.1 ≠ aS) :
    SpecS 24 714 [.ref aS, .ref own, .ref other] aS σ rest (fun pre v => v = .bool true) := Carry.out (by exact Carry.mk : Carry ((by
  unfold SpecS Spec
  intro prog w p loose mean mg mb dp un gd cn cs a ccd cl outer A₀ base h₀ L m s Q E B F X N T hk hd hu hret
  have ho' := ho
  cases ho' with | mk s1 s2 s3 s4 s5 =>
  k_dflt k_extra "ktr_enter"
  k_steps

  all_goals (refine finS hret (by k_asm) (by k_asm) (by k_asm) (by k_extra "tb_rel") (by k_extra "tb_start") (by k_extra "tb_start") rfl)
  done
  : SpecS 24 714 [.ref aS, .ref own, .ref other] aS σ rest (fun pre v => v = .bool true)) :))

end

theorem lawbtw_specu {prog9 : Program} {w9 : World} {p9 : Program} {loose9 : List Str} {mean9 : ExcName → Option Value} {mg9 mb9 : Str → Option Value} {dp9 un9 : Nat} {gd9 : Option (List Code)} {cn9 : Str} {cs9 : Scope} {a9 : Addr} {ccd9 : Value} {cl9 : List (Str × Addr)} {outer9 : List Env} {A₀9 : Around} {base9 h₀9 : Heap} {L9 : Addr} {m9 : Str → Option Value} {hh9 : Heap} {gg9 : Array GenState} {dd9 : Drawn} {tt9 : Nat} {oo9 : OsState} {Q9 E9 : Value → Shared → Prop} {A9 : Around} {cur9 : Led} (aS : Addr) (σ : Src) (own other : Addr) (co cr : Nat → Col) (rest : Led) (hA9 : A9 = ktrTop dp9 un9 gd9 cn9 cs9 L9 a9 ccd9 cl9 outer9) (B9 : Below A₀9 base9 outer9 h₀9) (F9 : Fr h₀9 L9 hh9 m9) (X9 : (hd.heap_39 w9.params).In h₀9) (N9 : News h₀9 L9 hh9 cur9) (K9 : Pick aS (srcO σ) cur9 (rest)) (T9 : Top p9 loose9 mean9 mg9 mb9 h₀9) (hk9 : cs9.kind = .function) (ho : SourceAt rest own 3 co) (hr : SourceAt rest other 8 cr) (hne : ∀ p ∈ rest, p.1 ≠ aS) (hd9 : dp9 + 24 < recursionLimit) (hu9 : un9 + 8 * 24 < cLine)
    (ret9 : ∀ σ', ∀ pre, FreshA aS pre → Fresh rest pre → ∀ h9 tk9, Fr h₀9 L9 h9 m9 → News h₀9 L9 h9 ((aS, srcO σ') :: (pre ++ rest)) → Q9 (.bool true) ⟨h9, gg9, dd9, tk9, oo9⟩) :
    wpAny (model prog9 w9) A9 (call (.ref 714) [.ref aS, .ref own, .ref other]) Q9 E9 ⟨hh9, gg9, dd9, tt9, oo9⟩ := by
  subst hA9
  refine Spec.useP B9 F9 X9 N9 K9 T9 hk9 (lawbtw_spec aS σ own other co cr rest ho hr hne) hd9 hu9 fun v nw8 h8 tk8 F8 N8 P8 => ?_
  obtain ⟨σ', pre, rfl, fa, fr, rfl⟩ := P8
  exact ret9 σ' pre fa fr h8 tk8 F8 N8
theorem rows_lawbtw_2 : True := by
  k_with "olawbtw" => skip
  k_with "call ref" => first | (k_here; (with_reducible show wpAny _ _ (call (Value.ref 714) _) _ _ _); (with_reducible refine lawbtw_specu _ _ _ _ _ _ _ (by k_dflt (exact rfl)) (by k_dflt (k_asm)) (by k_dflt (k_asm)) (by k_dflt (k_asm)) (by k_dflt (k_asm)) (by k_dflt (repeat (first | exact Pick.head | apply Pick.tail | apply Pick.app))) (by k_dflt (k_asm)) (by k_dflt (first | exact rfl | assumption)) (by k_dflt (first | with_reducible assumption | exact SourceAt.mono (by with_reducible assumption) (by k_extra "ktu_off1L"))) (by k_dflt (first | with_reducible assumption | exact SourceAt.mono (by with_reducible assumption) (by k_extra "ktu_off1L"))) (by k_dflt (k_extra "ktu_offL")) (by k_dflt (k_extra "ktr_room")) (by k_dflt (k_extra "ktr_units")) ?_); intro σ9 pre9 fa9 fr9 h9 tk9 F9 N9; (try k_sweep); (try k_fold)) | fail "row"
  trivial
/-- does list_bounds give its one bound? -/
def lbOn (ng : Bool) (v : Nd) (ps : List (Addr × Nd)) : Bool := !ng && (isCol v 3 && (!ps.isEmpty && allFree ps 3))
/-- what list_bounds gives -/
def LB (pre : Led) (q : Addr) (v : Nd) (ps : List (Addr × Nd)) : Bool → Prop
  | false => (q, W.listOf #[] 0) ∈ pre
  | true => ∃ b il n p a c, v = .name 3 p a c ∧ (q, W.listOf #[.ref b] 0) ∈ pre ∧ BoundAt pre b p (Str.ofString "in") (.ref il) (cmpAff a none).2 c ∧ (il, W.listOf (ps.map fun p => Value.ref p.1).toArray n) ∈ pre
theorem listj_spec (x dx vx il : Addr) (ng : Bool) (v : Nd) (h1 h2 h3 : Int) (t1 t2 t3 tn : Tok) (n : Nat) (ps : List (Addr × Nd)) (news : Led) (m1 : (x, instObj 220 dx) ∈ news) (m2 : (dx, dictOf [ent h1 "value" t1 (.ref vx), ent h2 "items" t2 (.ref il), ent h3 "negated" t3 (.bool ng)] 3) ∈ news)
    (m3 : (il, W.listOf (ps.map fun p => Value.ref p.1).toArray n) ∈ news) (hv : NodeAt news vx v) (hp : ∀ p ∈ ps, NodeAt news p.1 p.2) (hl : ps.length ≤ 12) (hc : ∀ c, v.col = some c → IsColl c) :
    SpecN 20 599 [.ref x, .int 3 tn] news (fun pre v' => ∃ q, v' = .ref q ∧ LB pre q v ps (lbOn ng v ps)) := by
  have zero : (ng = true ∨ isCol v 3 = false ∨ (ps.map fun p => Value.ref p.1) = []) → lbOn ng v ps = false → SpecN 20 599 [.ref x, .int 3 tn] news (fun pre v' => ∃ q, v' = .ref q ∧ LB pre q v ps (lbOn ng v ps)) := by
    intro h e
    rw [e]
    exact listb0_spec x dx vx il 3 ng h1 h2 h3 t1 t2 t3 tn n _ v news m1 m2 m3 hv h
  cases hA : ng with
  | true => exact hA ▸ zero (.inl hA) (by rw [hA]; rfl)
  | false =>
    cases hB : isCol v 3 with
    | false => exact hA ▸ zero (.inr (.inl hB)) (by rw [lbOn, hB, Bool.false_and, Bool.and_false])
    | true =>
      cases ps with
      | nil => exact hA ▸ zero (.inr (.inr rfl)) (by simp [lbOn])
      | cons p0 pr =>
        cases v with
        | name num place a c =>
          obtain rfl : num = 3 := by simpa [isCol] using hB
          cases hv with
          | name hv =>
            subst hA
            have q := listb_spec x dx vx il 3 place a c h1 h2 h3 t1 t2 t3 tn n (p0 :: pr) news m1 m2 m3 hv hp ⟨Nat.succ_pos _, hl⟩ (hc c rfl)
            have e : lbOn false (.name 3 place a c) (p0 :: pr) = allFree (p0 :: pr) 3 := by simp [lbOn, isCol]
            rw [e]
            unfold SpecN Spec at q ⊢
            intro prog w p loose mean mg mb dp un gd cn cs a ccd cl outer A₀ base h₀ L m s Q E B F X N T hk hd hu hret
            refine q prog w p loose mean mg mb dp un gd cn cs a ccd cl outer A₀ base h₀ L m s Q E B F X N T hk hd hu fun v nw h' tk' F' N' P => hret v nw h' tk' F' N' ?_
            obtain ⟨pre, e1, fr, P⟩ := P
            refine ⟨pre, e1, fr, ?_⟩
            cases hf : allFree (p0 :: pr) 3 with
            | true =>
              rw [if_pos hf] at P
              obtain ⟨q, b, il', e2, mq, hb, n', mi⟩ := P
              exact ⟨q, e2, b, il', n', _, _, _, rfl, mq, hb, mi⟩
            | false =>
              rw [if_neg (by rw [hf]; exact Bool.false_ne_true)] at P
              exact P
        | _ => cases hB
/-- the affinity that a list's items get -/
def ledOf (o : Option Str) : Option Str := match o with
  | some a => (cmpAff a none).2
  | none => none
/-- what the law reckons for a list -/
def DU (news : Led) (q nl : Addr) (v : Nd) : Bool → Prop
  | false => ∃ n, (q, W.listOf #[] n) ∈ news
  | true => ∃ t tp to tl tc n, isCol v 3 = true ∧ (q, W.listOf #[.ref t] n) ∈ news ∧ (t, tupO [sidePlace v 3 tp, .str (Str.ofString "in") to, .ref nl, ov (ledOf v.aff) tl, ov v.col tc]) ∈ news
theorem led_ok {a : Str} : IsLed (cmpAff a none).2 := by
  unfold IsLed
  simp only [cmpAff]
  (repeat' split) <;> simp
theorem samej_spec (q q' nl : Addr) (v : Nd) (ps : List (Addr × Nd)) (b : Bool) (n : Nat) (pre news : Led) (hL : LB pre q v ps b) (hs : ∀ p ∈ pre, p ∈ news) (hD : DU news q' nl v b) (m3 : (nl, W.listOf (ps.map fun p => Value.ref p.1).toArray n) ∈ news) (hl : ps.length ≤ 12) (hc : ∀ c, v.col = some c → IsColl c) :
    SpecP 9 707 [.ref q, .ref q'] news (fun v => v = .bool true) := by
  cases b with
  | false =>
    obtain ⟨n', hD⟩ := hD
    exact same_spec q q' [] [] 0 n' [] news (hs _ hL) hD .nil .nil (Nat.zero_le _) (fun d hd => by cases hd)
  | true =>
    obtain ⟨b, il, n1, p, a, c, rfl, mq, hb, mi⟩ := hL
    obtain ⟨t, tp, to, tl, tc, n2, _, mq', mt⟩ := hD
    exact same_in q q' b t nl il 0 n2 n n1 p _ c tp to tl tc _ news (hs _ mq) mq' (hb.mono hs) mt m3 (hs _ mi) (by rw [List.length_map]; exact hl)
      (fun i hi => ⟨(ps[i]'(by simpa using hi)).1, by simp [List.getD, List.getElem?_eq_getElem (show i < ps.length by simpa using hi)]⟩) (hc c rfl) led_ok

theorem listj_specu {prog9 : Program} {w9 : World} {p9 : Program} {loose9 : List Str} {mean9 : ExcName → Option Value} {mg9 mb9 : Str → Option Value} {dp9 un9 : Nat} {gd9 : Option (List Code)} {cn9 : Str} {cs9 : Scope} {a9 : Addr} {ccd9 : Value} {cl9 : List (Str × Addr)} {outer9 : List Env} {A₀9 : Around} {base9 h₀9 : Heap} {L9 : Addr} {m9 : Str → Option Value} {hh9 : Heap} {gg9 : Array GenState} {dd9 : Drawn} {tt9 : Nat} {oo9 : OsState} {Q9 E9 : Value → Shared → Prop} {A9 : Around} (x dx vx il : Addr) (ng : Bool) (v : Nd) (h1 h2 h3 : Int) (t1 t2 t3 tn : Tok) (n : Nat) (ps : List (Addr × Nd)) (news : Led) (hA9 : A9 = ktrTop dp9 un9 gd9 cn9 cs9 L9 a9 ccd9 cl9 outer9) (B9 : Below A₀9 base9 outer9 h₀9) (F9 : Fr h₀9 L9 hh9 m9) (X9 : (hd.heap_39 w9.params).In h₀9) (N9 : News h₀9 L9 hh9 news) (T9 : Top p9 loose9 mean9 mg9 mb9 h₀9) (hk9 : cs9.kind = .function) (m1 : (x, instObj 220 dx) ∈ news) (m2 : (dx, dictOf [ent h1 "value" t1 (.ref vx), ent h2 "items" t2 (.ref il), ent h3 "negated" t3 (.bool ng)] 3) ∈ news) (m3 : (il, W.listOf (ps.map fun p => Value.ref p.1).toArray n) ∈ news) (hv : NodeAt news vx v) (hp : ∀ p ∈ ps, NodeAt news p.1 p.2) (hl : ps.length ≤ 12) (hc : ∀ c, v.col = some c → IsColl c) (hd9 : dp9 + 20 < recursionLimit) (hu9 : un9 + 8 * 20 < cLine)
    (ret9 : ∀ pre, Fresh news pre → ∀ q, (LB pre q v ps (lbOn ng v ps)) → ∀ h9 tk9, Fr h₀9 L9 h9 m9 → News h₀9 L9 h9 (pre ++ news) → Q9 (.ref q) ⟨h9, gg9, dd9, tk9, oo9⟩) :
    wpAny (model prog9 w9) A9 (call (.ref 599) [.ref x, .int 3 tn]) Q9 E9 ⟨hh9, gg9, dd9, tt9, oo9⟩ := by
  subst hA9
  refine Spec.useN B9 F9 X9 N9 T9 hk9 (listj_spec x dx vx il ng v h1 h2 h3 t1 t2 t3 tn n ps news m1 m2 m3 hv hp hl hc) hd9 hu9 fun v' nw8 h8 tk8 F8 N8 P8 => ?_
  obtain ⟨pre, rfl, fr, q, rfl, c1⟩ := P8
  exact ret9 pre fr q c1 h8 tk8 F8 N8
theorem samej_specu {prog9 : Program} {w9 : World} {p9 : Program} {loose9 : List Str} {mean9 : ExcName → Option Value} {mg9 mb9 : Str → Option Value} {dp9 un9 : Nat} {gd9 : Option (List Code)} {cn9 : Str} {cs9 : Scope} {a9 : Addr} {ccd9 : Value} {cl9 : List (Str × Addr)} {outer9 : List Env} {A₀9 : Around} {base9 h₀9 : Heap} {L9 : Addr} {m9 : Str → Option Value} {hh9 : Heap} {gg9 : Array GenState} {dd9 : Drawn} {tt9 : Nat} {oo9 : OsState} {Q9 E9 : Value → Shared → Prop} {A9 : Around} (q q' nl : Addr) (v : Nd) (ps : List (Addr × Nd)) (b : Bool) (n : Nat) (pre news : Led) (hA9 : A9 = ktrTop dp9 un9 gd9 cn9 cs9 L9 a9 ccd9 cl9 outer9) (B9 : Below A₀9 base9 outer9 h₀9) (F9 : Fr h₀9 L9 hh9 m9) (X9 : (hd.heap_39 w9.params).In h₀9) (N9 : News h₀9 L9 hh9 news) (T9 : Top p9 loose9 mean9 mg9 mb9 h₀9) (hk9 : cs9.kind = .function) (hL : LB pre q v ps b) (hs : ∀ p ∈ pre, p ∈ news) (hD : DU news q' nl v b) (m3 : (nl, W.listOf (ps.map fun p => Value.ref p.1).toArray n) ∈ news) (hl : ps.length ≤ 12) (hc : ∀ c, v.col = some c → IsColl c) (hd9 : dp9 + 9 < recursionLimit) (hu9 : un9 + 8 * 9 < cLine)
    (ret9 : ∀ h9 tk9, Fr h₀9 L9 h9 m9 → News h₀9 L9 h9 (news) → Q9 (.bool true) ⟨h9, gg9, dd9, tk9, oo9⟩) :
    wpAny (model prog9 w9) A9 (call (.ref 707) [.ref q, .ref q']) Q9 E9 ⟨hh9, gg9, dd9, tt9, oo9⟩ := by
  subst hA9
  refine Spec.useN B9 F9 X9 N9 T9 hk9 (samej_spec q q' nl v ps b n pre news hL hs hD m3 hl hc) hd9 hu9 fun v nw8 h8 tk8 F8 N8 P8 => ?_
  obtain ⟨rfl, rfl⟩ := P8
  exact ret9  h8 tk8 F8 N8
theorem rows_listj_1 : True := by
  k_with "call ref" => first | (k_here; (with_reducible show wpAny _ _ (call (Value.ref 599) _) _ _ _); (with_reducible refine listj_specu _ _ _ _ _ _ _ _ _ _ _ _ _ _ _ _ (by k_dflt (exact rfl)) (by k_dflt (k_asm)) (by k_dflt (k_asm)) (by k_dflt (k_asm)) (by k_dflt (k_asm)) (by k_dflt (k_asm)) (by k_dflt (first | exact rfl | assumption)) (by k_dflt (k_extra "lcg_off")) (by k_dflt (k_extra "lcg_off")) (by k_dflt (k_extra "lcg_off")) (by k_dflt (first | with_reducible assumption | exact NodeAt.mono (by with_reducible assumption) (by k_extra "ktu_off1L"))) (by k_dflt (k_extra "nodes")) (by k_dflt (with_reducible assumption)) (by k_dflt (with_reducible assumption)) (by k_dflt (k_extra "ktr_room")) (by k_dflt (k_extra "ktr_units")) ?_); intro pre9 fr9 q9 LB9 h9 tk9 F9 N9; (try k_sweep); (try k_fold)) | fail "row"
  k_with "call ref" => first | (k_here; (with_reducible show wpAny _ _ (call (Value.ref 707) _) _ _ _); (with_reducible refine samej_specu _ _ _ _ _ _ _ _ _ (by k_dflt (exact rfl)) (by k_dflt (k_asm)) (by k_dflt (k_asm)) (by k_dflt (k_asm)) (by k_dflt (k_asm)) (by k_dflt (k_asm)) (by k_dflt (first | exact rfl | assumption)) (by k_dflt (with_reducible assumption)) (by k_dflt (k_extra "ktu_off1L")) (by k_dflt (k_extra "du")) (by k_dflt (k_extra "lcg_off")) (by k_dflt (with_reducible assumption)) (by k_dflt (with_reducible assumption)) (by k_dflt (k_extra "ktr_room")) (by k_dflt (k_extra "ktr_units")) ?_); intro h9 tk9 F9 N9; (try k_sweep); (try k_fold)) | fail "row"
  trivial
theorem rows_lawlist_1 : True := by
  k_with "i2" => skip
  trivial
/-- between the turns of the comprehension that draws the items -/
def ItemsI (aS : Addr) (base : Led) (i : Nat) (ys : List Value) (news : Led) : Prop :=
  ∃ σ pre, ∃ its : List (Addr × Addr × Nd), news = (aS, srcO σ) :: (pre ++ base) ∧ ys = its.map (fun p => Value.ref p.1) ∧ its.length = i ∧ (∀ p ∈ its, SideA pre 3 p.1 p.2.1 p.2.2) ∧ FreshA aS pre ∧ Fresh base pre
theorem itemsI_nil {aS : Addr} {base : Led} {σ : Src} : ItemsI aS base 0 [] ((aS, srcO σ) :: base) := ⟨σ, [], [], rfl, rfl, rfl, (fun _ h => nomatch h), freshA_nil, fresh_nil⟩
theorem mem_app_r {l r : Led} : ∀ p ∈ r, p ∈ l ++ r := fun _ h => List.mem_append_right _ h
theorem itemsI_snoc {aS t x : Addr} {base pre p9 : Led} {σ : Src} {its : List (Addr × Addr × Nd)} {nd : Nd} (h : ∀ p ∈ its, SideA pre 3 p.1 p.2.1 p.2.2) (hS : SideA p9 3 t x nd) (f1 : FreshA aS pre) (f2 : Fresh base pre) (f3 : FreshA aS p9) (f4 : Fresh base p9) :
    ItemsI aS base (its.length + 1) (its.map (fun p => Value.ref p.1) ++ [.ref t]) ((aS, srcO σ) :: (p9 ++ (pre ++ base))) := by
  refine ⟨σ, p9 ++ pre, its ++ [(t, x, nd)], by rw [List.append_assoc], by rw [List.map_append]; rfl, by rw [List.length_append]; rfl, fun p hp => ?_, freshA_app f3 f1, fresh_app f4 f2⟩
  rcases List.mem_append.mp hp with hp | hp
  · exact (h p hp).mono mem_app_r
  · obtain rfl := List.mem_singleton.mp hp
    exact hS.mono fun _ h => List.mem_append_left _ h
/-- between the turns of the comprehension of the nodes -/
def NodesI (its : List (Addr × Addr × Nd)) (base : Led) (i : Nat) (ys : List Value) (news : Led) : Prop :=
  news = base ∧ ys = (its.take i).map (fun p => Value.ref p.2.1)
theorem its_get {its : List (Addr × Addr × Nd)} {i : Nat} {v : Value} (h : (its.map (fun p => Value.ref p.1)).toArray[i]? = some v) : ∃ p, its[i]? = some p ∧ v = .ref p.1 := by
  rw [List.getElem?_toArray, List.getElem?_map] at h
  cases e : its[i]? with
  | none => rw [e] at h; cases h
  | some p => rw [e] at h; cases h; exact ⟨p, rfl, rfl⟩
theorem nodes_snoc {its : List (Addr × Addr × Nd)} {i : Nat} {p : Addr × Addr × Nd} (h : its[i]? = some p) : (its.take i).map (fun p => Value.ref p.2.1) ++ [.ref p.2.1] = (its.take (i + 1)).map (fun p => Value.ref p.2.1) := by
  rw [List.take_succ, h, List.map_append]; rfl
/-- the nodes of the items -/
def nodesOf (its : List (Addr × Addr × Nd)) : List (Addr × Nd) := its.map fun p => p.2
theorem nodes_all {its : List (Addr × Addr × Nd)} {n : Nat} (h : its.length = n) : (its.take n).map (fun p => Value.ref p.2.1) = (nodesOf its).map fun p => Value.ref p.1 := by
  rw [← h, List.take_length, nodesOf, List.map_map]; rfl
def freeAt (its : List (Addr × Addr × Nd)) (i : Nat) : Bool := match its[i]? with
  | some p => p.2.2.num == some 3
  | none => false
theorem free_all {its : List (Addr × Addr × Nd)} : ((List.range its.length).all fun j => !freeAt its j) = allFree (nodesOf its) 3 := by
  induction its with
  | nil => rfl
  | cons p its ih =>
    rw [List.length_cons, List.range_succ_eq_map, List.all_cons, List.all_map]
    show (_ && (List.range its.length).all (fun j => !freeAt its j)) = _
    rw [ih]
    rfl
/-- behind the if that sets what is due -/
def JoinD (h₀ : Heap) (L : Addr) (m : Str → Option Value) (s : Shared) (news : Led) (R : Led → Addr → Prop) (Q : Flow → Shared → Prop) : Flow → Shared → Prop
  | .next, s' => ∃ q pre m' h tk, s' = { s with heap := h, toks := tk } ∧ (∀ x, x ≠ Str.ofString "due" → x ≠ Str.ofString "led" → m' x = m x) ∧ m' (Str.ofString "due") = some (.ref q) ∧ R (pre ++ news) q ∧ Fresh news pre ∧ Fr h₀ L h m' ∧ News h₀ L h (pre ++ news)
  | fl, s' => Q fl s'
section
open PySem.Calls PyProof.V
variable {prog : Program} {w : World} {A : Around} {E : Value → Shared → Prop} {s : Shared} {h₀ : Heap} {L a d : Addr} {m : Str → Option Value} {news cur pre : Led} {QF : Flow → Shared → Prop} {st : Stmt} {env : Env} {R : Led → Addr → Prop} {Q : Value → Shared → Prop}
theorem joinD (_F : Fr h₀ L s.heap m) (_N : News h₀ L s.heap news) (h1 : wpAny (model prog w) A (exec st env) (JoinD h₀ L m s news R QF) E s)
    (h2 : ∀ q pre m' h tk, (∀ x, x ≠ Str.ofString "due" → x ≠ Str.ofString "led" → m' x = m x) → m' (Str.ofString "due") = some (.ref q) → R (pre ++ news) q → Fresh news pre → Fr h₀ L h m' → News h₀ L h (pre ++ news) → QF .next { s with heap := h, toks := tk }) : wpAny (model prog w) A (exec st env) QF E s := by
  refine wpAny_mono h1 (fun fl s' q => ?_) fun _ _ e => e
  cases fl with
  | next => obtain ⟨q, pre, m, h, tk, rfl, a, b, c, d, F, N⟩ := q; exact h2 q pre m h tk a b c d F N
  | _ => exact q
theorem joinD_end {m' : Str → Option Value} {h : Heap} {tk : Nat} {q : Addr} (F : Fr h₀ L h m') (N : News h₀ L h cur) (O : OutN news cur pre) (hf : Fresh news pre) (hP : ∀ x, x ≠ Str.ofString "due" → x ≠ Str.ofString "led" → m' x = m x) (hm : m' (Str.ofString "due") = some (.ref q)) (hR : R cur q) : JoinD h₀ L m s news R QF .next { s with heap := h, toks := tk } :=
  ⟨q, pre, m', h, tk, rfl, hP, hm, O.eq ▸ hR, hf, F, O.eq ▸ N⟩
/-- the dict of the affinities -/
theorem led_item {value slice : PySem.Expr} {o : Option Str} {t : Tok} (T : StrTab prog w s.heap d [(.str (Str.ofString "integer"), .str (Str.ofString "numeric")), (.str (Str.ofString "numeric"), .str (Str.ofString "numeric")), (.str (Str.ofString "text"), .str (Str.ofString "text")), (.str (Str.ofString "blob"), .none)])
    (ho : ∃ a, o = some a ∧ IsAff a) (h : ∀ u, Q (ov (ledOf o) u) { s with toks := s.toks + 1 })
    (hs : ∀ x t, subscripted slice false (.ref d) (.str x t) = operate [.ref d, .str x t] (getItem (.ref d) (.str x t))) (hg : ∀ r, letTemporaryGo value (.ref d) r = pure ()) : wpAny (model prog w) A (subscriptTail value slice (.ref d) (ov o t)) Q E s := by
  obtain ⟨a, rfl, ha⟩ := ho
  have e1 : ledOf (some (Str.ofString "integer")) = some (Str.ofString "numeric") := by decide +kernel
  have e2 : ledOf (some (Str.ofString "numeric")) = some (Str.ofString "numeric") := by decide +kernel
  have e3 : ledOf (some (Str.ofString "text")) = some (Str.ofString "text") := by decide +kernel
  have e4 : ledOf (some (Str.ofString "blob")) = none := by decide +kernel
  rcases ha with rfl | rfl | rfl | rfl
  · refine item_strTab T (dv := .str (Str.ofString "numeric")) (by with_unfolding_all rfl) (fun v hv => ?_) (hs _ _) hg
    obtain ⟨u, rfl⟩ := Flat.str_inv hv
    rw [e1] at h; exact h u
  · refine item_strTab T (dv := .str (Str.ofString "numeric")) (by with_unfolding_all rfl) (fun v hv => ?_) (hs _ _) hg
    obtain ⟨u, rfl⟩ := Flat.str_inv hv
    rw [e2] at h; exact h u
  · refine item_strTab T (dv := .str (Str.ofString "text")) (by with_unfolding_all rfl) (fun v hv => ?_) (hs _ _) hg
    obtain ⟨u, rfl⟩ := Flat.str_inv hv
    rw [e3] at h; exact h u
  · refine item_strTab T (dv := .none) (by with_unfolding_all rfl) (fun v hv => ?_) (hs _ _) hg
    obtain rfl := Flat.none_inv hv
    rw [e4] at h; exact h 0
theorem handed_side {nd : Nd} {num : Int} {t : Tok} : handedIn (sidePlace nd num t) = true := by
  cases nd with
  | name n p a c => simp only [sidePlace]; split <;> rfl
  | _ => rfl
end
theorem aff_of {nd : Nd} (h : isCol nd 3 = true) (ha : ∀ a, nd.aff = some a → IsAff a) : ∃ a, nd.aff = some a ∧ IsAff a := by
  cases nd with
  | name n p a c => exact ⟨a, rfl, ha a rfl⟩
  | _ => cases h
theorem nodes_at {its : List (Addr × Addr × Nd)} {pre cur : Led} (h : ∀ p ∈ its, SideA pre 3 p.1 p.2.1 p.2.2) (hs : ∀ p ∈ pre, p ∈ cur) : ∀ p ∈ nodesOf its, NodeAt cur p.1 p.2 := fun p hp => by
  obtain ⟨q, hq, rfl⟩ := List.mem_map.mp hp
  exact (h q hq).node.mono hs
theorem DU.mono {n1 n2 : Led} {q nl : Addr} {v : Nd} {b : Bool} (h : DU n1 q nl v b) (hs : ∀ p ∈ n1, p ∈ n2) : DU n2 q nl v b := by
  cases b with
  | false => obtain ⟨n, h⟩ := h; exact ⟨n, hs _ h⟩
  | true => obtain ⟨t, tp, to, tl, tc, n, a, b, c⟩ := h; exact ⟨t, tp, to, tl, tc, n, a, hs _ b, hs _ c⟩
theorem du_no {nw : Led} {q nl : Addr} {v : Nd} {b : Bool} {n : Nat} (h : b = false) (hm : (q, W.listOf #[] n) ∈ nw) : DU nw q nl v b := by subst h; exact ⟨n, hm⟩
theorem du_yes {nw : Led} {q nl t : Addr} {v : Nd} {b : Bool} {n : Nat} {tp to tl tc : Tok} (h : b = true) (hc : isCol v 3 = true) (hm : (q, W.listOf #[.ref t] n) ∈ nw) (ht : (t, tupO [sidePlace v 3 tp, .str (Str.ofString "in") to, .ref nl, ov (ledOf v.aff) tl, ov v.col tc]) ∈ nw) : DU nw q nl v b := by subst h; exact ⟨t, tp, to, tl, tc, n, hc, hm, ht⟩
theorem lb_neg {d : Int} {v : Nd} {ps : List (Addr × Nd)} (h : d = 0) : lbOn (d == 0) v ps = false := by subst h; rfl
theorem lb_not {d : Int} {v : Nd} {ps : List (Addr × Nd)} (h : isCol v 3 = false) : lbOn (d == 0) v ps = false := by rw [lbOn, h, Bool.false_and, Bool.and_false]
theorem lb_nil {d : Int} {v : Nd} {its : List (Addr × Addr × Nd)} (h : (its.map fun p => Value.ref p.1).isEmpty = true) : lbOn (d == 0) v (nodesOf its) = false := by
  cases its with
  | nil => simp [lbOn, nodesOf]
  | cons p r => cases h
theorem lb_free {d : Int} {v : Nd} {ps : List (Addr × Nd)} {ys : List Value} (e : ys.isEmpty = allFree ps 3) (h : ys.isEmpty = false) : lbOn (d == 0) v ps = false := by
  rw [e] at h; rw [lbOn, h, Bool.and_false, Bool.and_false, Bool.and_false]
theorem lb_all {d : Int} {v : Nd} {its : List (Addr × Addr × Nd)} {ys : List Value} (hd : ¬ d = 0) (hc : isCol v 3 = true) (hi : (its.map fun p => Value.ref p.1).isEmpty = false) (e : ys.isEmpty = allFree (nodesOf its) 3) (h : ys.isEmpty = true) : lbOn (d == 0) v (nodesOf its) = true := by
  rw [e] at h
  have h0 : (d == 0) = false := by simpa using hd
  have h1 : (nodesOf its).isEmpty = false := by
    cases its with
    | nil => cases hi
    | cons p r => rfl
  rw [lbOn, h0, hc, h1, h]; rfl
section
local macro_rules | `(tactic| k_handed) => `(tactic| with_reducible first | exact handed_ov | exact handed_side)
theorem rows_lawlist_2 : True := by
  k_with "enterC" => (fail_if_success k_extra "olawlist"); first | (((with_reducible refine enterC (by k_dflt k_is) (by k_dflt k_is) (by k_dflt k_asm) (by k_dflt k_asm) (by k_dflt k_asm) (by k_dflt k_asm) (by k_dflt k_asm) (by k_dflt (first | exact rfl | assumption)) (by first | exact room0 (by with_reducible assumption) | k_dflt k_extra "ktr_room") (by k_dflt (exact BindsTo.of_eq rfl)) (by k_dflt kernel_rfl) (by k_dflt (decide +kernel)) (by k_dflt kernel_rfl) ?_); intro g' L' h' tk' cells' Q' hq' F' N' Y' B' X' T' l1; k_cells Y'; (try simp only [List.cons_append, List.nil_append] at N'); (refine fold_fr F' ?_); (clear F'); intro m8 F'; (refine fold_A ?_); intro A1)) | fail "row"
  k_with "call ref" => (fail_if_success k_extra "olawlist"); first | (k_here; (with_reducible show wpAny _ _ (call (Value.ref 655) _) _ _ _); (with_reducible refine take_specu _ _ _ _ _ (by k_dflt (exact rfl)) (by k_dflt (k_asm)) (by k_dflt (k_asm)) (by k_dflt (k_asm)) (by k_dflt (k_asm)) (by k_dflt (repeat (first | exact Pick.head | apply Pick.tail | apply Pick.app))) (by k_dflt (k_asm)) (by k_dflt (first | exact rfl | assumption)) (by k_dflt (omega)) (by k_dflt (k_extra "ktu_offL")) (by k_dflt (k_extra "ktr_room")) (by k_dflt (k_extra "ktr_units")) ?_); intro d9n td9n σ9 lo9n hi9n h9 tk9 F9 N9; (try k_sweep); (try k_fold)) | fail "row"
  k_with "call ref" => (fail_if_success k_extra "olawlist"); first | (k_here; have := lo9n; (with_reducible show wpAny _ _ (call (Value.ref 655) _) _ _ _); (with_reducible refine take_specu _ _ _ _ _ (by k_dflt (exact rfl)) (by k_dflt (k_asm)) (by k_dflt (k_asm)) (by k_dflt (k_asm)) (by k_dflt (k_asm)) (by k_dflt (repeat (first | exact Pick.head | apply Pick.tail | apply Pick.app))) (by k_dflt (k_asm)) (by k_dflt (first | exact rfl | assumption)) (by k_dflt (omega)) (by k_dflt (k_extra "ktu_offL")) (by k_dflt (k_extra "ktr_room")) (by k_dflt (k_extra "ktr_units")) ?_); intro d9r td9r σ9 lo9r hi9r h9 tk9 F9 N9; (try k_sweep); (try k_fold)) | fail "row"
  k_with "call ref" => (fail_if_success k_extra "olawlist"); first | (k_here; (with_reducible show wpAny _ _ (call (Value.ref 683) _) _ _ _); (with_reducible refine side_specu _ _ _ _ _ _ _ (by k_dflt (exact rfl)) (by k_dflt (k_asm)) (by k_dflt (k_asm)) (by k_dflt (k_asm)) (by k_dflt (k_asm)) (by k_dflt (repeat (first | exact Pick.head | apply Pick.tail | apply Pick.app))) (by k_dflt (k_asm)) (by k_dflt (first | exact rfl | assumption)) (by k_dflt (first | with_reducible assumption | exact SourceAt.mono (by with_reducible assumption) (by k_extra "ktu_off1L"))) (by k_dflt (first | with_reducible assumption | exact SourceAt.mono (by with_reducible assumption) (by k_extra "ktu_off1L"))) (by k_dflt (k_extra "ktu_offL")) (by k_dflt (k_extra "ktr_room")) (by k_dflt (k_extra "ktr_units")) ?_); intro σ9 pre9a fa9a fr9a t9a x9a nd9a S9a h9 tk9 F9 N9; have S8 := S9a; obtain ⟨m9, n9, ha9, hc9⟩ := S8; (try k_sweep); (try k_fold)) | fail "row"
  k_with "call ref" => (fail_if_success k_extra "olawlist"); first | (k_here; have := S9a; (with_reducible show wpAny _ _ (call (Value.ref 683) _) _ _ _); (with_reducible refine side_specu _ _ _ _ _ _ _ (by k_dflt (exact rfl)) (by k_dflt (k_asm)) (by k_dflt (k_asm)) (by k_dflt (k_asm)) (by k_dflt (k_asm)) (by k_dflt (repeat (first | exact Pick.head | apply Pick.tail | apply Pick.app))) (by k_dflt (k_asm)) (by k_dflt (first | exact rfl | assumption)) (by k_dflt (first | with_reducible assumption | exact SourceAt.mono (by with_reducible assumption) (by k_extra "ktu_off1L"))) (by k_dflt (first | with_reducible assumption | exact SourceAt.mono (by with_reducible assumption) (by k_extra "ktu_off1L"))) (by k_dflt (k_extra "ktu_offL")) (by k_dflt (k_extra "ktr_room")) (by k_dflt (k_extra "ktr_units")) ?_); intro σ9 pre9b fa9b fr9b t9b x9b nd9b S9b h9 tk9 F9 N9; (try k_sweep); (try k_fold)) | fail "row"
  k_with "eval Name" => (fail_if_success k_extra "olawlist"); first | ((k_here; k_dflt (refine nameX_L (by k_asm) (by first | exact rfl | exact (hm9 _ (by decide) (by decide)).trans rfl | exact hd9) ?_))) | fail "row"
  k_with "compareOp IsNot" => (fail_if_success k_extra "olawlist"); first | ((k_here; (with_reducible show wpAny _ _ (compareOp CmpOp.IsNot (sidePlace _ _ _) Value.none) _ _ _); k_dflt (refine' isNot_place ?_; k_whole))) | fail "row"
  k_with "compareOp Eq ref ref" => (fail_if_success k_extra "olawlist"); first | ((k_here; (with_reducible show wpAny _ _ (compareOp CmpOp.Eq (Value.ref _) (Value.ref _)) _ _ _); k_dflt (refine' eq_nil (by k_asm) (by k_extra "lcg_off") (by k_extra "lcg_off") (by k_extra "ktr_units") ?_; k_whole))) | fail "row"
  k_with "compareOp NotEq ref ref" => (fail_if_success k_extra "olawlist"); first | ((k_here; (with_reducible show wpAny _ _ (compareOp CmpOp.NotEq (Value.ref _) (Value.ref _)) _ _ _); k_dflt (refine' ne_nil (by k_asm) (by k_extra "lcg_off") (by k_extra "lcg_off") (by k_extra "ktr_units") ?_; k_whole))) | fail "row"
  k_with "subscriptTail" => (fail_if_success k_extra "olawlist"); first | ((k_here; (with_reducible show wpAny _ _ (subscriptTail _ _ (Value.ref _) (ov _ _)) _ _ _); k_dflt (refine' led_item (by k_tabat) (aff_of (by with_reducible assumption) (by with_reducible assumption)) ?_ (by intro _ _; with_unfolding_all rfl) (by intro _; with_unfolding_all rfl); k_whole); intro u9)) | fail "row"
  k_with "subscriptTail Name" => (fail_if_success k_extra "olawlist"); first | ((k_here; (with_reducible show wpAny _ _ (subscriptTail _ _ (Value.ref _) (ov _ _)) _ _ _); k_dflt (refine' led_item (by k_tabat) (aff_of (by with_reducible assumption) (by with_reducible assumption)) ?_ (by intro _ _; with_unfolding_all rfl) (by intro _; with_unfolding_all rfl); k_whole); intro u9)) | fail "row"
  k_with "subscriptTail Subscript" => (fail_if_success k_extra "olawlist"); first | ((k_here; (with_reducible show wpAny _ _ (subscriptTail _ _ (Value.ref _) (ov _ _)) _ _ _); k_dflt (refine' led_item (by k_tabat) (aff_of (by with_reducible assumption) (by with_reducible assumption)) ?_ (by intro _ _; with_unfolding_all rfl) (by intro _; with_unfolding_all rfl); k_whole); intro u9)) | fail "row"
  k_with "subscriptTail Attribute" => (fail_if_success k_extra "olawlist"); first | ((k_here; (with_reducible show wpAny _ _ (subscriptTail _ _ (Value.ref _) (ov _ _)) _ _ _); k_dflt (refine' led_item (by k_tabat) (aff_of (by with_reducible assumption) (by with_reducible assumption)) ?_ (by intro _ _; with_unfolding_all rfl) (by intro _; with_unfolding_all rfl); k_whole); intro u9)) | fail "row"
  k_with "exec Assign cons ListComp" => (fail_if_success k_extra "olawlist"); first | ((k_here; k_dflt (refine LCg.Assign_ListComp_U (F₀ := by k_asm) (by rfl) (by with_unfolding_all rfl) (by with_unfolding_all rfl) (by decide) (by rfl) (by decide) (by rfl) (by rfl) (by rfl) ?_))) | fail "row"
  k_with "eval ListComp" => (fail_if_success k_extra "olawlist"); first | ((k_here; (with_reducible show wpAny _ _ (eval (PySem.Expr.ListComp _ [⟨_, _, [], _⟩] _ _) _) _ _ _); k_dflt (refine LCg.ListComp_U (by k_asm) (by rfl) (by decide) (by rfl) (by decide) (by rfl) ?_))) | fail "row"
  k_with "eval ListComp" => (fail_if_success k_extra "olawlist"); first | ((k_here; (with_reducible show wpAny _ _ (eval (PySem.Expr.ListComp _ [⟨_, _, [_], _⟩] _ _) _) _ _ _); k_dflt (refine LCt.ListComp_T (by k_asm) (by rfl) (by decide) (by rfl) (by decide) (by rfl) ?_))) | fail "row"
  k_with "CompSrc" => (fail_if_success k_extra "olawlist"); first | ((k_here; k_dflt (refine LCg.CompSrc.ledger (by rfl) (by k_asm) (by k_asm) (by k_extra "lcg_off") (by rw [List.size_toArray, List.length_map, sizeLine_eq]; omega) ?_); intro g'; k_dflt (refine comp_inv its8.length (NodesI its8 _) (fun i ys news v I' oI' C' oC' D' m' h' tk' E9 hi9 hI9 hv9 hC' hx' F' N' off' ne' => ?_) (fun ys news hI9 => ?_) _ 0 [] _ (by rw [List.size_toArray, List.length_map]; rfl) ⟨rfl, rfl⟩); k_dflt (focus (obtain ⟨e1, e2⟩ := hI9; subst e1 e2; obtain ⟨⟨t7, x7, nd7⟩, hp7, e3⟩ := its_get hv9; subst e3; (have S7 := hS8 _ (List.mem_of_getElem? hp7)); obtain ⟨m7, n7, ha7, hc7⟩ := S7; (have o1' := off3_1 off'); (have o2' := off3_2 off'); (have o3' := off3_3 off'); (try dsimp only))); (rotate_left; k_dflt (focus (obtain ⟨e1, e2⟩ := hI9; subst e1; (rw [nodes_all rfl] at e2); subst e2; (unfold LCg.FinE); intro D9n h' tk' F' N' o1'; (have o1'' := off1_mem o1'); clear o1'; (try dsimp only))); rotate_right))) | fail "row"
  k_with "CompSrc" => (fail_if_success k_extra "olawlist"); first | ((k_here; k_dflt (refine LCg.CompSrc.range (n := (d9r - 0).toNat) (by rfl) (by k_asm) (News.pick (a := aS) (by k_asm) (by repeat (first | exact Pick.head | apply Pick.tail | apply Pick.app))) (by with_reducible assumption) (small_one (by omega) (by omega) (by omega) (by omega)) (rangeSize_nat _ _) (by rw [sizeLine_eq]; omega) ?_); intro g'; k_dflt (refine comp_inv (d9r - 0).toNat (ItemsI aS _) (fun i ys news v I' oI' C' oC' D' m' h' tk' E9 hi9 hI9 hv9 hC' hx' F' N' off' ne' => ?_) (fun ys news hI9 => ?_) _ 0 [] _ rfl itemsI_nil); k_dflt (focus (obtain ⟨σ8, pre8, its8, e1, e2, e3, hS8, fA8, fB8⟩ := hI9; subst e1 e2 e3; obtain ⟨t9, hv9⟩ := hv9; subst hv9; (have o1' := off3_1 off'); (have o2' := off3_2 off'); (have o3' := off3_3 off'); (try dsimp only))); (rotate_left; k_dflt (focus (obtain ⟨σ8, pre8, its8, e1, e2, e3, hS8, fA8, fB8⟩ := hI9; (have hl8 : its8.length ≤ 12 := by omega); (have hl7 : (nodesOf its8).length ≤ 12 := by rw [nodesOf, List.length_map]; exact hl8); subst e1 e2; (try dsimp only))); rotate_right))) | fail "row"
  k_with "CompSrcT" => (fail_if_success k_extra "olawlist"); first | ((k_here; k_dflt (refine LCt.CompSrcT.ledger (by rfl) (by k_asm) (by k_asm) (by k_extra "lcg_off") (by rw [List.size_toArray, List.length_map, sizeLine_eq]; omega) ?_); intro g'; k_dflt (refine comp_filter its8.length (freeAt its8) (by rfl) (by rfl) (by decide) (fun i v I' oI' C' oC' D' m' h' tk' ys E9 Q9 hi9 hv9 hC' hx' F' N' off' ne' hQ9 => ?_) ?_ (fun ys hys => ?_) _ 0 [] (by rw [List.size_toArray, List.length_map]; rfl) rfl); k_dflt (focus (obtain ⟨⟨t7, x7, nd7⟩, hp7, e3⟩ := its_get hv9; subst e3; (have S7 := hS8 _ (List.mem_of_getElem? hp7)); obtain ⟨m7, n7, ha7, hc7⟩ := S7; (have hfr : freeAt its8 i = (nd7.num == some 3) := by simp [freeAt, hp7]); (rw [hfr] at hQ9); (have o1' := off3_1 off'); (have o2' := off3_2 off'); (have o3' := off3_3 off'); (try dsimp only))); (rotate_left; k_dflt (focus (exact .inr ⟨_, by k_extra "lcg_off", rfl, _, rfl⟩)); k_dflt (focus (rw [free_all] at hys)); rotate_right))) | fail "row"
  k_with "exec If" => (fail_if_success k_extra "olawlist"); first | ((k_here; (fail_if_success (with_reducible show wpAny _ _ _ (JoinD _ _ _ _ _ _ _) _ _)); k_dflt (refine joinD (R := fun nw q => DU nw q D9n nd9a (lbOn (d9n == 0) nd9a (nodesOf its8))) (by k_asm) (by k_asm) ?_ (fun q9d pre9d m9d h9 tk9 hm9 hd9 D9d fr9d F9 N9 => ?_)))) | fail "row"
  k_with "lb0" => (fail_if_success k_extra "olawlist"); first | (first | exact lb_neg (by with_reducible assumption) | exact lb_not (by with_reducible assumption) | exact lb_nil (by with_reducible assumption) | exact lb_free (by with_reducible assumption) (by with_reducible assumption)) | fail "row"
  k_with "JoinD" => (fail_if_success k_extra "olawlist"); first | ((k_here; k_dflt (first | refine joinD_end (by k_asm) (by k_asm) (by k_extra "tb_rel") (by k_extra "tb_start") (fun _ _ _ => rfl) (by exact rfl) (du_no (by k_extra "lb0") (by k_extra "lcg_off")) | refine joinD_end (by k_asm) (by k_asm) (by k_extra "tb_rel") (by k_extra "tb_start") (fun x h1 h2 => by simp only [h1, h2, if_false]) (by exact rfl) (du_yes (lb_all (by with_reducible assumption) (by with_reducible assumption) (by with_reducible assumption) (by with_reducible assumption) (by with_reducible assumption)) (by with_reducible assumption) (by k_extra "lcg_off") (by k_extra "lcg_off"))))) | fail "row"
  k_with "nodes" => (fail_if_success k_extra "olawlist"); first | (exact nodes_at (by with_reducible assumption) (by k_extra "ktu_off1L")) | fail "row"
  k_with "du" => (fail_if_success k_extra "olawlist"); first | (exact DU.mono (by with_reducible assumption) (by k_extra "ktu_off1L")) | fail "row"
  trivial
theorem lawlist_spec (aS : Addr) (σ : Src) (own other : Addr) (co cr : Nat → Col) (rest : Led) (ho : SourceAt rest own 3 co) (hr : SourceAt rest other 8 cr) (hne : ∀ p ∈ rest, p.1 ≠ aS) :
    SpecS 24 719 [.ref aS, .ref own, .ref other] aS σ rest (fun pre v => v = .bool true) := Carry.out (by exact Carry.mk : Carry ((by
  unfold SpecS Spec
  intro prog w p loose mean mg mb dp un gd cn cs a ccd cl outer A₀ base h₀ L m s Q E B F X N T hk hd hu hret
  have ho' := ho
  cases ho' with | mk s1 s2 s3 s4 s5 =>
  k_dflt k_extra "enterC"
  k_steps
  · exact itemsI_snoc hS8 S9b fA8 fB8 fa9b (Fresh.sub fr9b (by k_extra "ktu_off1L"))
  · exact ⟨rfl, nodes_snoc hp7⟩
  · exact hQ9 _ _ (by k_asm) (by k_asm)

  all_goals (refine finS hret (by k_asm) (by k_asm) (by k_asm) (by k_extra "tb_rel") (by k_extra "tb_start") (by k_extra "tb_start") rfl)
  done
  : SpecS 24 719 [.ref aS, .ref own, .ref other] aS σ rest (fun pre v => v = .bool true)) :))

end

theorem lawlist_specu {prog9 : Program} {w9 : World} {p9 : Program} {loose9 : List Str} {mean9 : ExcName → Option Value} {mg9 mb9 : Str → Option Value} {dp9 un9 : Nat} {gd9 : Option (List Code)} {cn9 : Str} {cs9 : Scope} {a9 : Addr} {ccd9 : Value} {cl9 : List (Str × Addr)} {outer9 : List Env} {A₀9 : Around} {base9 h₀9 : Heap} {L9 : Addr} {m9 : Str → Option Value} {hh9 : Heap} {gg9 : Array GenState} {dd9 : Drawn} {tt9 : Nat} {oo9 : OsState} {Q9 E9 : Value → Shared → Prop} {A9 : Around} {cur9 : Led} (aS : Addr) (σ : Src) (own other : Addr) (co cr : Nat → Col) (rest : Led) (hA9 : A9 = ktrTop dp9 un9 gd9 cn9 cs9 L9 a9 ccd9 cl9 outer9) (B9 : Below A₀9 base9 outer9 h₀9) (F9 : Fr h₀9 L9 hh9 m9) (X9 : (hd.heap_39 w9.params).In h₀9) (N9 : News h₀9 L9 hh9 cur9) (K9 : Pick aS (srcO σ) cur9 (rest)) (T9 : Top p9 loose9 mean9 mg9 mb9 h₀9) (hk9 : cs9.kind = .function) (ho : SourceAt rest own 3 co) (hr : SourceAt rest other 8 cr) (hne : ∀ p ∈ rest, p.1 ≠ aS) (hd9 : dp9 + 24 < recursionLimit) (hu9 : un9 + 8 * 24 < cLine)
    (ret9 : ∀ σ', ∀ pre, FreshA aS pre → Fresh rest pre → ∀ h9 tk9, Fr h₀9 L9 h9 m9 → News h₀9 L9 h9 ((aS, srcO σ') :: (pre ++ rest)) → Q9 (.bool true) ⟨h9, gg9, dd9, tk9, oo9⟩) :
    wpAny (model prog9 w9) A9 (call (.ref 719) [.ref aS, .ref own, .ref other]) Q9 E9 ⟨hh9, gg9, dd9, tt9, oo9⟩ := by
  subst hA9
  refine Spec.useP B9 F9 X9 N9 K9 T9 hk9 (lawlist_spec aS σ own other co cr rest ho hr hne) hd9 hu9 fun v nw8 h8 tk8 F8 N8 P8 => ?_
  obtain ⟨σ', pre, rfl, fa, fr, rfl⟩ := P8
  exact ret9 σ' pre fa fr h8 tk8 F8 N8
theorem rows_lawlist_3 : True := by
  k_with "olawlist" => skip
  k_with "call ref" => first | (k_here; (with_reducible show wpAny _ _ (call (Value.ref 719) _) _ _ _); (with_reducible refine lawlist_specu _ _ _ _ _ _ _ (by k_dflt (exact rfl)) (by k_dflt (k_asm)) (by k_dflt (k_asm)) (by k_dflt (k_asm)) (by k_dflt (k_asm)) (by k_dflt (repeat (first | exact Pick.head | apply Pick.tail | apply Pick.app))) (by k_dflt (k_asm)) (by k_dflt (first | exact rfl | assumption)) (by k_dflt (first | with_reducible assumption | exact SourceAt.mono (by with_reducible assumption) (by k_extra "ktu_off1L"))) (by k_dflt (first | with_reducible assumption | exact SourceAt.mono (by with_reducible assumption) (by k_extra "ktu_off1L"))) (by k_dflt (k_extra "ktu_offL")) (by k_dflt (k_extra "ktr_room")) (by k_dflt (k_extra "ktr_units")) ?_); intro σ9 pre9 fa9 fr9 h9 tk9 F9 N9; (try k_sweep); (try k_fold)) | fail "row"
  k_with "execs cons" => (fail_if_success k_extra "i3"); first | ((k_here; (with_reducible show wpAny _ _ (execs (Stmt.If _ _ [] _ :: _) _) _ _ _); with_reducible refine if_cons ?_)) | fail "row"
  trivial
theorem cmp_dues {l r : Nd} {op : Str} {lx rx tl tr : Addr} {n1 n2 : Led} (hop : IsOp op) (hl : SideA n1 3 tl lx l) (hr : SideA n2 3 tr rx r) : (cmpBounds 3 op l r lx rx).length ≤ 2 ∧ ∀ d ∈ cmpBounds 3 op l r lx rx, BdOk d := by
  have nil : (([] : List Bd).length ≤ 2 ∧ ∀ d ∈ ([] : List Bd), BdOk d) := ⟨Nat.zero_le _, fun d hd => by cases hd⟩
  have hc := cmpColl_ok hl.colOk hr.colOk (exp_ok hl.node) (exp_ok hr.node)
  cases hA : isCol l 3 with
  | true =>
    cases hB : (r.num != some 3) with
    | true => rw [cbL hA hB]; exact ⟨Nat.le_succ_of_le colB_len, colB_ok hop hl hr⟩
    | false => rw [cb0 (fun _ => hB) (fun _ => free_of_col hA)]; exact nil
  | false =>
    cases hC : isCol r 3 with
    | false => rw [cb0 (fun h => by rw [hA] at h; cases h) (fun h => by rw [hC] at h; cases h)]; exact nil
    | true =>
      cases hD : (l.num != some 3) with
      | false => rw [cb0 (fun h => by rw [hA] at h; cases h) (fun _ => hD)]; exact nil
      | true =>
        rw [cbR hC hA hD]
        refine ⟨Nat.le_succ_of_le colB_len, colB_ok ?_ hl hr⟩
        rcases hop with rfl | rfl | rfl | rfl | rfl
        · exact .inl (by decide +kernel)
        · exact .inr (.inr (.inr (.inl (by decide +kernel))))
        · exact .inr (.inr (.inr (.inr (by decide +kernel))))
        · exact .inr (.inl (by decide +kernel))
        · exact .inr (.inr (.inl (by decide +kernel)))
section
theorem rows_lawright_1 : True := by
  k_with "call ref" => (fail_if_success k_extra "olawright"); first | (k_here; (with_reducible show wpAny _ _ (call (Value.ref 683) _) _ _ _); (with_reducible refine side_specu _ _ _ _ _ _ _ (by k_dflt (exact rfl)) (by k_dflt (k_asm)) (by k_dflt (k_asm)) (by k_dflt (k_asm)) (by k_dflt (k_asm)) (by k_dflt (repeat (first | exact Pick.head | apply Pick.tail | apply Pick.app))) (by k_dflt (k_asm)) (by k_dflt (first | exact rfl | assumption)) (by k_dflt (first | with_reducible assumption | exact SourceAt.mono (by with_reducible assumption) (by k_extra "ktu_off1L"))) (by k_dflt (first | with_reducible assumption | exact SourceAt.mono (by with_reducible assumption) (by k_extra "ktu_off1L"))) (by k_dflt (k_extra "ktu_offL")) (by k_dflt (k_extra "ktr_room")) (by k_dflt (k_extra "ktr_units")) ?_); intro σ9 pre9a fa9a fr9a t9a x9a nd9a S9a h9 tk9 F9 N9; have S8 := S9a; obtain ⟨m9, n9, ha9, hc9⟩ := S8; (try k_sweep); (try k_fold)) | fail "row"
  k_with "call ref" => (fail_if_success k_extra "olawright"); first | (k_here; have := S9a; (with_reducible show wpAny _ _ (call (Value.ref 683) _) _ _ _); (with_reducible refine side_specu _ _ _ _ _ _ _ (by k_dflt (exact rfl)) (by k_dflt (k_asm)) (by k_dflt (k_asm)) (by k_dflt (k_asm)) (by k_dflt (k_asm)) (by k_dflt (repeat (first | exact Pick.head | apply Pick.tail | apply Pick.app))) (by k_dflt (k_asm)) (by k_dflt (first | exact rfl | assumption)) (by k_dflt (first | with_reducible assumption | exact SourceAt.mono (by with_reducible assumption) (by k_extra "ktu_off1L"))) (by k_dflt (first | with_reducible assumption | exact SourceAt.mono (by with_reducible assumption) (by k_extra "ktu_off1L"))) (by k_dflt (k_extra "ktu_offL")) (by k_dflt (k_extra "ktr_room")) (by k_dflt (k_extra "ktr_units")) ?_); intro σ9 pre9b fa9b fr9b t9b x9b nd9b S9b h9 tk9 F9 N9; have S8 := S9b; obtain ⟨m9, n9, ha9, hc9⟩ := S8; (try k_sweep); (try k_fold)) | fail "row"
  k_with "call ref" => (fail_if_success k_extra "olawright"); first | (k_here; have := S9b; (with_reducible show wpAny _ _ (call (Value.ref 683) _) _ _ _); (with_reducible refine side_specu _ _ _ _ _ _ _ (by k_dflt (exact rfl)) (by k_dflt (k_asm)) (by k_dflt (k_asm)) (by k_dflt (k_asm)) (by k_dflt (k_asm)) (by k_dflt (repeat (first | exact Pick.head | apply Pick.tail | apply Pick.app))) (by k_dflt (k_asm)) (by k_dflt (first | exact rfl | assumption)) (by k_dflt (first | with_reducible assumption | exact SourceAt.mono (by with_reducible assumption) (by k_extra "ktu_off1L"))) (by k_dflt (first | with_reducible assumption | exact SourceAt.mono (by with_reducible assumption) (by k_extra "ktu_off1L"))) (by k_dflt (k_extra "ktu_offL")) (by k_dflt (k_extra "ktr_room")) (by k_dflt (k_extra "ktr_units")) ?_); intro σ9 pre9c fa9c fr9c t9c x9c nd9c S9c h9 tk9 F9 N9; have S8 := S9c; obtain ⟨m9, n9, ha9, hc9⟩ := S8; (try k_sweep); (try k_fold)) | fail "row"
  k_with "bds" => (fail_if_success k_extra "olawright"); first | (first | with_reducible assumption | exact BdsAt.mono (by with_reducible assumption) (by k_extra "ktu_off1L")) | fail "row"
  k_with "dues" => (fail_if_success k_extra "olawright"); first | (first | with_reducible assumption | exact DuesAt.mono (by with_reducible assumption) (by k_extra "ktu_off1L")) | fail "row"
  k_with "dlen" => (fail_if_success k_extra "olawright"); first | ((exact (cmp_dues (by with_reducible assumption) S9a S9b).1)) | fail "row"
  k_with "dok" => (fail_if_success k_extra "olawright"); first | ((exact (cmp_dues (by with_reducible assumption) S9a S9b).2)) | fail "row"
  k_with "call ref" => (fail_if_success k_extra "olawright"); first | (k_here; (with_reducible show wpAny _ _ (call (Value.ref 669) _) _ _ _); (with_reducible refine source_specu _ _ _ _ _ (by k_dflt (exact rfl)) (by k_dflt (k_asm)) (by k_dflt (k_asm)) (by k_dflt (k_asm)) (by k_dflt (k_asm)) (by k_dflt (repeat (first | exact Pick.head | apply Pick.tail | apply Pick.app))) (by k_dflt (k_asm)) (by k_dflt (first | exact rfl | assumption)) (by k_dflt (first | exact Or.inl rfl | exact Or.inr rfl)) (by k_dflt (k_extra "ktu_offL")) (by k_dflt (k_extra "ktr_room")) (by k_dflt (k_extra "ktr_units")) ?_); intro σ9 pre9s fa9s fr9s x9s col9s S9s h9 tk9 F9 N9; have hs9 := S9s; obtain ⟨s91, s92, s93, s94, s95⟩ := hs9; (try k_sweep); (try k_fold)) | fail "row"
  trivial
theorem lawright_spec (aS : Addr) (σ : Src) (rest : Led) (hne : ∀ p ∈ rest, p.1 ≠ aS) : SpecS 30 726 [.ref aS] aS σ rest (fun pre v => v = .bool true) := Carry.out (by exact Carry.mk : Carry ((by
  unfold SpecS Spec
  intro prog w p loose mean mg mb dp un gd cn cs a ccd cl outer A₀ base h₀ L m s Q E B F X N T hk hd hu hret
  k_dflt k_extra "ktr_enter"
  k_steps

  all_goals (refine finS hret (by k_asm) (by k_asm) (by k_asm) (by k_extra "tb_rel") (by k_extra "tb_start") (by k_extra "tb_start") rfl)
  done
  : SpecS 30 726 [.ref aS] aS σ rest (fun pre v => v = .bool true)) :))

end

theorem lawright_specu {prog9 : Program} {w9 : World} {p9 : Program} {loose9 : List Str} {mean9 : ExcName → Option Value} {mg9 mb9 : Str → Option Value} {dp9 un9 : Nat} {gd9 : Option (List Code)} {cn9 : Str} {cs9 : Scope} {a9 : Addr} {ccd9 : Value} {cl9 : List (Str × Addr)} {outer9 : List Env} {A₀9 : Around} {base9 h₀9 : Heap} {L9 : Addr} {m9 : Str → Option Value} {hh9 : Heap} {gg9 : Array GenState} {dd9 : Drawn} {tt9 : Nat} {oo9 : OsState} {Q9 E9 : Value → Shared → Prop} {A9 : Around} {cur9 : Led} (aS : Addr) (σ : Src) (rest : Led) (hA9 : A9 = ktrTop dp9 un9 gd9 cn9 cs9 L9 a9 ccd9 cl9 outer9) (B9 : Below A₀9 base9 outer9 h₀9) (F9 : Fr h₀9 L9 hh9 m9) (X9 : (hd.heap_39 w9.params).In h₀9) (N9 : News h₀9 L9 hh9 cur9) (K9 : Pick aS (srcO σ) cur9 (rest)) (T9 : Top p9 loose9 mean9 mg9 mb9 h₀9) (hk9 : cs9.kind = .function) (hne : ∀ p ∈ rest, p.1 ≠ aS) (hd9 : dp9 + 30 < recursionLimit) (hu9 : un9 + 8 * 30 < cLine)
    (ret9 : ∀ σ', ∀ pre, FreshA aS pre → Fresh rest pre → ∀ h9 tk9, Fr h₀9 L9 h9 m9 → News h₀9 L9 h9 ((aS, srcO σ') :: (pre ++ rest)) → Q9 (.bool true) ⟨h9, gg9, dd9, tk9, oo9⟩) :
    wpAny (model prog9 w9) A9 (call (.ref 726) [.ref aS]) Q9 E9 ⟨hh9, gg9, dd9, tt9, oo9⟩ := by
  subst hA9
  refine Spec.useP B9 F9 X9 N9 K9 T9 hk9 (lawright_spec aS σ rest hne) hd9 hu9 fun v nw8 h8 tk8 F8 N8 P8 => ?_
  obtain ⟨σ', pre, rfl, fa, fr, rfl⟩ := P8
  exact ret9 σ' pre fa fr h8 tk8 F8 N8
theorem rows_lawright_2 : True := by
  k_with "olawright" => skip
  k_with "call ref" => first | (k_here; (with_reducible show wpAny _ _ (call (Value.ref 726) _) _ _ _); (with_reducible refine lawright_specu _ _ _ (by k_dflt (exact rfl)) (by k_dflt (k_asm)) (by k_dflt (k_asm)) (by k_dflt (k_asm)) (by k_dflt (k_asm)) (by k_dflt (repeat (first | exact Pick.head | apply Pick.tail | apply Pick.app))) (by k_dflt (k_asm)) (by k_dflt (first | exact rfl | assumption)) (by k_dflt (k_extra "ktu_offL")) (by k_dflt (k_extra "ktr_room")) (by k_dflt (k_extra "ktr_units")) ?_); intro σ9 pre9 fa9 fr9 h9 tk9 F9 N9; (try k_sweep); (try k_fold)) | fail "row"
  trivial
section
open PySem.Calls
variable {prog : Program} {w : World} {A : Around} {E : Value → Shared → Prop} {s : Shared} {h₀ : Heap} {L : Addr} {m : Str → Option Value} {news : Led} {a b : Int} {t u : Tok} {Q : Value → Shared → Prop}
theorem max_int (hh : A.handled = none) (F : Fr h₀ L s.heap m) (N : News h₀ L s.heap news) (h : ∀ n t' h' tk, (n = a ∨ n = b) → a ≤ n → b ≤ n → Fr h₀ L h' m → News h₀ L h' news → Q (.int n t') { s with heap := h', toks := tk }) :
    wpAny (model prog w) A (call (.builtin "max") [.int a t, .int b u]) Q E s :=
  PySem.Flt.max_two_split hh (.int _ _) (.int _ _) rfl F N (fun k h' tk F' N' => by have k' : a < b := of_decide_eq_true k; exact h _ _ _ _ (.inr rfl) (by omega) (by omega) F' N') (fun k h' tk F' N' => by have k' : ¬ a < b := of_decide_eq_false k; exact h _ _ _ _ (.inl rfl) (by omega) (by omega) F' N')
theorem min_int (hh : A.handled = none) (F : Fr h₀ L s.heap m) (N : News h₀ L s.heap news) (h : ∀ n t' h' tk, (n = a ∨ n = b) → n ≤ a → n ≤ b → Fr h₀ L h' m → News h₀ L h' news → Q (.int n t') { s with heap := h', toks := tk }) :
    wpAny (model prog w) A (call (.builtin "min") [.int a t, .int b u]) Q E s :=
  PySem.Flt.min_two_split hh (.int _ _) (.int _ _) rfl F N (fun k h' tk F' N' => by have k' : b < a := of_decide_eq_true k; exact h _ _ _ _ (.inr rfl) (by omega) (by omega) F' N') (fun k h' tk F' N' => by have k' : ¬ b < a := of_decide_eq_false k; exact h _ _ _ _ (.inl rfl) (by omega) (by omega) F' N')
end
section
theorem rows_pool_1 : True := by
  k_with "call builtin:max" => (fail_if_success k_extra "opool"); first | ((k_here; (with_reducible show wpAny _ _ (call (Value.builtin "max") [Value.int _ _, Value.int _ _]) _ _ _); k_dflt (refine max_int (by rfl) (by k_asm) (by k_asm) ?_); intro n9 t9 h9 tk9 hn9 hm9 hl9 F9 N9)) | fail "row"
  k_with "enterP" => (fail_if_success k_extra "opool"); first | (((with_reducible refine enterT (by k_dflt k_is) (by k_dflt k_is) (by k_dflt k_asm) (by k_dflt k_asm) (by k_dflt k_asm) (by k_dflt k_asm) (by k_dflt k_asm) (by k_dflt (first | exact rfl | assumption)) (by first | exact room0 (by with_reducible assumption) | k_dflt k_extra "ktr_room") (by k_dflt kernel_rfl) (by k_dflt kernel_rfl) ?_); intro g' L' h' tk' Q' hq' F' N' B' X' T'; (try dsimp only at F'); (try k_lift B'); (refine fold_fr F' ?_); (clear F'); intro m8 F'; (refine fold_A ?_); intro A1)) | fail "row"
  trivial
theorem pool_u {prog9 : Program} {w9 : World} {p9 : Program} {loose9 : List Str} {mean9 : ExcName → Option Value} {mg9 mb9 : Str → Option Value} {dp9 un9 : Nat} {gd9 : Option (List Code)} {cn9 : Str} {cs9 : Scope} {a9 : Addr} {ccd9 : Value} {cl9 : List (Str × Addr)} {outer9 : List Env} {A₀9 : Around} {base9 h₀9 : Heap} {L9 : Addr} {m9 : Str → Option Value} {s9 : Shared} {Q9 E9 : Value → Shared → Prop} (sc : Addr) (k : Nat) (tk : Tok) (vs : List Value) (ns : List Int) (news : Led) (B9 : Below A₀9 base9 outer9 h₀9) (F9 : Fr h₀9 L9 s9.heap m9) (X9 : (hd.heap_39 w9.params).In h₀9) (N9 : News h₀9 L9 s9.heap news) (T9 : Top p9 loose9 mean9 mg9 mb9 h₀9) (hk9 : cs9.kind = .function)
    (hl : base9.IsList sc vs.toArray) (hi : IntsAre vs ns) (hlen : ns.length ≤ 63) (hk : k ≤ 64) (hd9 : dp9 + 3 < recursionLimit) (hu9 : un9 + 24 < cLine)
    (ret9 : ∀ q x y tx ty n h9 tk9, (∀ p ∈ news, p.1 ≠ q) → Fr h₀9 L9 h9 m9 → News h₀9 L9 h9 ((q, W.listOf #[.int x tx, .int y ty] n) :: news) → Q9 (.ref q) { s9 with heap := h9, toks := tk9 }) :
    wpAny (model prog9 w9) (ktrTop dp9 un9 gd9 cn9 cs9 L9 a9 ccd9 cl9 outer9) (call (.ref 648) [.ref sc, .int k tk]) Q9 E9 s9 := Carry.out (by exact Carry.mk : Carry ((by
  k_dflt k_extra "enterP"
  k_steps
  all_goals exact endV (by k_asm) (by k_asm) (by k_asm) (fun _ _ F9 N9 => ret9 _ _ _ _ _ _ _ _ (by k_extra "ktu_offL") F9 (News.sub N9 (by k_extra "ktu_off1L")))
  done
  : wpAny (model prog9 w9) (ktrTop dp9 un9 gd9 cn9 cs9 L9 a9 ccd9 cl9 outer9) (call (.ref 648) [.ref sc, .int k tk]) Q9 E9 s9) :))

end

theorem rows_pool_2 : True := by
  k_with "opool" => skip
  trivial
theorem rows_top_1 : True := by
  k_with "f2" => skip
  trivial
theorem cmp0 {lx rx : Addr} : cmpBounds 3 (Str.ofString "<") .lit (.name 3 0 (Str.ofString "integer") (Str.ofString "rtrim")) lx rx = [⟨0, Str.ofString ">", .ref lx, some (Str.ofString "numeric"), Str.ofString "rtrim"⟩] := by
  have e1 : turnOp (Str.ofString "<") = Str.ofString ">" := by decide +kernel
  have e2 : isNum (Str.ofString "integer") = true := by decide +kernel
  simp [cmpBounds, Nd.num, oneBound, cmpAff, Nd.aff, e1, e2, cmpColl, orC, Nd.exp, Nd.col]
def bd0 (x : Addr) : Bd := ⟨0, Str.ofString ">", .ref x, some (Str.ofString "numeric"), Str.ofString "rtrim"⟩
theorem bd0_ok {x : Addr} : BdOk (bd0 x) := ⟨.inr (.inr (.inr (.inl rfl))), .inr (.inr rfl), .inr (.inl rfl), x, rfl⟩
theorem cmpbounds0_spec (x dx lx rx : Addr) (h1 h2 h3 : Int) (t1 t2 t3 to tn : Tok) (news : Led) (m1 : (x, instObj 168 dx) ∈ news) (m2 : (dx, dictOf [ent h1 "op" t1 (.str (Str.ofString "<") to), ent h2 "left" t2 (.ref lx), ent h3 "right" t3 (.ref rx)] 3) ∈ news)
    (hl : LitAt news lx) (hr : NameAt news rx 3 0 (Str.ofString "integer") (Str.ofString "rtrim")) :
    SpecN 20 587 [.ref x, .int 3 tn] news (fun pre v => ∃ q vs n, v = .ref q ∧ (q, W.listOf vs.toArray n) ∈ pre ∧ BdsAt pre vs [bd0 lx]) := by
  have q := cmpbounds_spec x dx lx rx 3 (Str.ofString "<") h1 h2 h3 t1 t2 t3 to tn .lit _ news m1 m2 (.lit hl) (.name hr) (.inr (.inl rfl)) (fun c hc => by cases hc) (fun c hc => by cases hc; exact .inr (.inr rfl))
  rw [cmp0] at q
  exact q
theorem same0_spec (q q' t l x : Addr) (vs : List Value) (n n' n2 : Nat) (tp to tl tc : Tok) (news : Led) (m1 : (q, W.listOf vs.toArray n) ∈ news) (hb : BdsAt news vs [bd0 x])
    (m2 : (q', W.listOf #[.ref t] n') ∈ news) (m3 : (t, tupO [.int 0 tp, .str (Str.ofString ">") to, .ref l, .str (Str.ofString "numeric") tl, .str (Str.ofString "rtrim") tc]) ∈ news) (m4 : (l, W.listOf #[.ref x] n2) ∈ news) :
    SpecP 9 707 [.ref q, .ref q'] news (fun v => v = .bool true) :=
  same_spec q q' vs [.ref t] n n' [bd0 x] news m1 m2 hb (.cons (DueAt.mk (led := some (Str.ofString "numeric")) m3 m4) .nil) (Nat.le_of_ble_eq_true rfl) (fun d hd => by rw [List.mem_singleton.mp hd]; exact bd0_ok)
theorem same0_specu {prog9 : Program} {w9 : World} {p9 : Program} {loose9 : List Str} {mean9 : ExcName → Option Value} {mg9 mb9 : Str → Option Value} {dp9 un9 : Nat} {gd9 : Option (List Code)} {cn9 : Str} {cs9 : Scope} {a9 : Addr} {ccd9 : Value} {cl9 : List (Str × Addr)} {outer9 : List Env} {A₀9 : Around} {base9 h₀9 : Heap} {L9 : Addr} {m9 : Str → Option Value} {hh9 : Heap} {gg9 : Array GenState} {dd9 : Drawn} {tt9 : Nat} {oo9 : OsState} {Q9 E9 : Value → Shared → Prop} {A9 : Around} (q q' t l x : Addr) (vs : List Value) (n n' n2 : Nat) (tp to tl tc : Tok) (news : Led) (hA9 : A9 = ktrTop dp9 un9 gd9 cn9 cs9 L9 a9 ccd9 cl9 outer9) (B9 : Below A₀9 base9 outer9 h₀9) (F9 : Fr h₀9 L9 hh9 m9) (X9 : (hd.heap_39 w9.params).In h₀9) (N9 : News h₀9 L9 hh9 news) (T9 : Top p9 loose9 mean9 mg9 mb9 h₀9) (hk9 : cs9.kind = .function) (m1 : (q, W.listOf vs.toArray n) ∈ news) (hb : BdsAt news vs [bd0 x]) (m2 : (q', W.listOf #[.ref t] n') ∈ news) (m3 : (t, tupO [.int 0 tp, .str (Str.ofString ">") to, .ref l, .str (Str.ofString "numeric") tl, .str (Str.ofString "rtrim") tc]) ∈ news) (m4 : (l, W.listOf #[.ref x] n2) ∈ news) (hd9 : dp9 + 9 < recursionLimit) (hu9 : un9 + 8 * 9 < cLine)
    (ret9 : ∀ h9 tk9, Fr h₀9 L9 h9 m9 → News h₀9 L9 h9 (news) → Q9 (.bool true) ⟨h9, gg9, dd9, tk9, oo9⟩) :
    wpAny (model prog9 w9) A9 (call (.ref 707) [.ref q, .ref q']) Q9 E9 ⟨hh9, gg9, dd9, tt9, oo9⟩ := by
  subst hA9
  refine Spec.useN B9 F9 X9 N9 T9 hk9 (same0_spec q q' t l x vs n n' n2 tp to tl tc news m1 hb m2 m3 m4) hd9 hu9 fun v nw8 h8 tk8 F8 N8 P8 => ?_
  obtain ⟨rfl, rfl⟩ := P8
  exact ret9  h8 tk8 F8 N8

theorem cmpbounds0_specu {prog9 : Program} {w9 : World} {p9 : Program} {loose9 : List Str} {mean9 : ExcName → Option Value} {mg9 mb9 : Str → Option Value} {dp9 un9 : Nat} {gd9 : Option (List Code)} {cn9 : Str} {cs9 : Scope} {a9 : Addr} {ccd9 : Value} {cl9 : List (Str × Addr)} {outer9 : List Env} {A₀9 : Around} {base9 h₀9 : Heap} {L9 : Addr} {m9 : Str → Option Value} {hh9 : Heap} {gg9 : Array GenState} {dd9 : Drawn} {tt9 : Nat} {oo9 : OsState} {Q9 E9 : Value → Shared → Prop} {A9 : Around} (x dx lx rx : Addr) (h1 h2 h3 : Int) (t1 t2 t3 to tn : Tok) (news : Led) (hA9 : A9 = ktrTop dp9 un9 gd9 cn9 cs9 L9 a9 ccd9 cl9 outer9) (B9 : Below A₀9 base9 outer9 h₀9) (F9 : Fr h₀9 L9 hh9 m9) (X9 : (hd.heap_39 w9.params).In h₀9) (N9 : News h₀9 L9 hh9 news) (T9 : Top p9 loose9 mean9 mg9 mb9 h₀9) (hk9 : cs9.kind = .function) (m1 : (x, instObj 168 dx) ∈ news) (m2 : (dx, dictOf [ent h1 "op" t1 (.str (Str.ofString "<") to), ent h2 "left" t2 (.ref lx), ent h3 "right" t3 (.ref rx)] 3) ∈ news) (hl : LitAt news lx) (hr : NameAt news rx 3 0 (Str.ofString "integer") (Str.ofString "rtrim")) (hd9 : dp9 + 20 < recursionLimit) (hu9 : un9 + 8 * 20 < cLine)
    (ret9 : ∀ pre, Fresh news pre → ∀ q vs n, ((q, W.listOf vs.toArray n) ∈ pre) → (BdsAt pre vs [bd0 lx]) → ∀ h9 tk9, Fr h₀9 L9 h9 m9 → News h₀9 L9 h9 (pre ++ news) → Q9 (.ref q) ⟨h9, gg9, dd9, tk9, oo9⟩) :
    wpAny (model prog9 w9) A9 (call (.ref 587) [.ref x, .int 3 tn]) Q9 E9 ⟨hh9, gg9, dd9, tt9, oo9⟩ := by
  subst hA9
  refine Spec.useN B9 F9 X9 N9 T9 hk9 (cmpbounds0_spec x dx lx rx h1 h2 h3 t1 t2 t3 to tn news m1 m2 hl hr) hd9 hu9 fun v nw8 h8 tk8 F8 N8 P8 => ?_
  obtain ⟨pre, rfl, fr, q, vs, n, rfl, c1, c2⟩ := P8
  exact ret9 pre fr q vs n c1 c2 h8 tk8 F8 N8

theorem rows_top_2 : True := by
  k_with "call ref" => (fail_if_success k_extra "otop"); first | (k_here; (with_reducible show wpAny _ _ (call (Value.ref 707) _) _ _ _); (with_reducible refine same0_specu _ _ _ _ _ _ _ _ _ _ _ _ _ _ (by k_dflt (exact rfl)) (by k_dflt (k_asm)) (by k_dflt (k_asm)) (by k_dflt (k_asm)) (by k_dflt (k_asm)) (by k_dflt (k_asm)) (by k_dflt (first | exact rfl | assumption)) (by k_dflt (k_extra "lcg_off")) (by k_dflt (exact BdsAt.mono (by with_reducible assumption) (by k_extra "ktu_off1L"))) (by k_dflt (k_extra "lcg_off")) (by k_dflt (k_extra "lcg_off")) (by k_dflt (k_extra "lcg_off")) (by k_dflt (k_extra "ktr_room")) (by k_dflt (k_extra "ktr_units")) ?_); intro h9 tk9 F9 N9; (try k_sweep); (try k_fold)) | fail "row"
  k_with "call ref" => (fail_if_success k_extra "otop"); first | (k_here; (with_reducible show wpAny _ _ (call (Value.ref 587) _) _ _ _); (with_reducible refine cmpbounds0_specu _ _ _ _ _ _ _ _ _ _ _ _ _ (by k_dflt (exact rfl)) (by k_dflt (k_asm)) (by k_dflt (k_asm)) (by k_dflt (k_asm)) (by k_dflt (k_asm)) (by k_dflt (k_asm)) (by k_dflt (first | exact rfl | assumption)) (by k_dflt (k_extra "lcg_off")) (by k_dflt (k_extra "lcg_off")) (by k_dflt (exact .mk (by k_extra "lcg_off") (by k_extra "lcg_off"))) (by k_dflt (exact .mk (by k_extra "lcg_off") (by k_extra "lcg_off"))) (by k_dflt (k_extra "ktr_room")) (by k_dflt (k_extra "ktr_units")) ?_); intro pre9 fr9 q9 vs9 n9 m9 B9 h9 tk9 F9 N9; (try k_sweep); (try k_fold)) | fail "row"
  k_with "call ref" => (fail_if_success k_extra "otop"); first | (k_here; (with_reducible show wpAny _ _ (call (Value.ref 726) _) _ _ _); (with_reducible refine lawright_specu _ ⟨_, _, _, _, _⟩ _ (by k_dflt (exact rfl)) (by k_dflt (k_asm)) (by k_dflt (k_asm)) (by k_dflt (k_asm)) (by k_dflt (k_asm)) (by k_dflt (repeat (first | exact Pick.head | apply Pick.tail | apply Pick.app))) (by k_dflt (k_asm)) (by k_dflt (first | exact rfl | assumption)) (by k_dflt (k_extra "ktu_offL")) (by k_dflt (k_extra "ktr_room")) (by k_dflt (k_extra "ktr_units")) ?_); intro σ9 pre9 fa9 fr9 h9 tk9 F9 N9; (try k_sweep); (try k_fold)) | fail "row"
  k_with "call ref" => (fail_if_success k_extra "otop"); first | ((k_here; (with_reducible show wpAny _ _ (call (Value.ref 648) _) _ _ _); k_dflt (refine' pool_u _ _ _ _ _ _ (by k_asm) (by k_asm) (by k_asm) (by k_asm) (by k_asm) (by first | exact rfl | assumption) (by assumption) (by assumption) (by omega) (by omega) (by k_extra "ktr_room") (by k_extra "ktr_units") ?_); intro q9p x9p y9p tx9p ty9p n9p h9 tk9 off9p F9 N9; (try k_sweep))) | fail "row"
  k_with "call builtin:min" => (fail_if_success k_extra "otop"); first | ((k_here; (with_reducible show wpAny _ _ (call (Value.builtin "min") [Value.int _ _, Value.int _ _]) _ _ _); k_dflt (refine min_int (by rfl) (by k_asm) (by k_asm) ?_); intro n9m t9m h9 tk9 hn9m hm9m hl9m F9 N9; (try k_sweep))) | fail "row"
  k_with "call builtin:max" => (fail_if_success k_extra "otop"); first | ((k_here; (with_reducible show wpAny _ _ (call (Value.builtin "max") [Value.int _ _, Value.int _ _]) _ _ _); k_dflt (refine max_int (by rfl) (by k_asm) (by k_asm) ?_); intro n9x t9x h9 tk9 hn9x hm9x hl9x F9 N9; (obtain ⟨k9x, hk9x⟩ := Int.eq_ofNat_of_zero_le (show (0 : Int) ≤ n9x by omega)); (have hk9y : k9x ≤ 64 := by omega); subst hk9x; (try k_sweep))) | fail "row"
  k_with "pyIter ref" => (fail_if_success k_extra "otop"); first | ((k_here; (with_reducible show wpAny _ _ (pyIter (Value.ref _)) (fun it s₂ => TurnsAt _ _ _ _ _ _ _ _ _ it s₂) _ _); k_dflt (refine iter_range (by rfl) (by with_reducible assumption) (by with_reducible assumption) (by k_asm) (by k_asm) ?_); intro i' l1)) | fail "row"
  k_with "exec For Name Call cons nil" => (fail_if_success k_extra "otop"); first | ((k_here; (rename Fr _ _ _ _ => lF'); (with_unfolding_all refine' For_turns lF' ?_; k_whole))) | fail "row"
  k_with "eval Name" => (fail_if_success k_extra "otop"); first | ((k_here; k_dflt (refine nameX_L (by k_asm) (by first | exact rfl | exact hm9s) ?_))) | fail "row"
  k_with "subscriptTail" => (fail_if_success k_extra "otop"); first | ((k_here; (with_reducible show wpAny _ _ (subscriptTail _ _ (Value.ref _) (Value.int _ _)) _ _ _); (with_unfolding_all refine' item_litK (by is_list) (by decide) (by decide) (by rfl) ?_ (by with_unfolding_all rfl); k_whole))) | fail "row"
  k_with "subscriptTail Name" => (fail_if_success k_extra "otop"); first | ((k_here; (with_reducible show wpAny _ _ (subscriptTail _ _ (Value.ref _) (Value.int _ _)) _ _ _); (with_unfolding_all refine' item_litK (by is_list) (by decide) (by decide) (by rfl) ?_ (by with_unfolding_all rfl); k_whole))) | fail "row"
  k_with "subscriptTail Subscript" => (fail_if_success k_extra "otop"); first | ((k_here; (with_reducible show wpAny _ _ (subscriptTail _ _ (Value.ref _) (Value.int _ _)) _ _ _); (with_unfolding_all refine' item_litK (by is_list) (by decide) (by decide) (by rfl) ?_ (by with_unfolding_all rfl); k_whole))) | fail "row"
  k_with "subscriptTail Attribute" => (fail_if_success k_extra "otop"); first | ((k_here; (with_reducible show wpAny _ _ (subscriptTail _ _ (Value.ref _) (Value.int _ _)) _ _ _); (with_unfolding_all refine' item_litK (by is_list) (by decide) (by decide) (by rfl) ?_ (by with_unfolding_all rfl); k_whole))) | fail "row"
  k_with "UnrEndW" => (fail_if_success k_extra "otop"); first | ((k_here; k_dflt (refine unr_s (rest := []) (by k_asm) (by k_asm) (by k_extra "ktu_off1L") (List.forall_mem_nil _) ⟨by assumption, by assumption⟩))) | fail "row"
  trivial
theorem post_true (ns : List Int) : (PySem.Challenge.rw_xm0762_01.row).claim.post [ofPy (PyData.list (ns.map PyData.int))] (.bool true) [ofPy (PyData.list (ns.map PyData.int))] = true := by with_unfolding_all rfl
theorem raises_none (ns : List Int) : ∀ ct ∈ PySem.Challenge.rw_xm0762_01.row.raises, ct.2.holds PySem.Challenge.rw_xm0762_01.row.records { args := [ofPy (PyData.list (ns.map PyData.int))] } = false := by wrow_none_raised
theorem top_holds : PySem.Challenge.rw_xm0762_01.Holds := Carry.out (by exact Carry.mk : Carry ((hd (by
  k_go0
  all_goals (change wpAny _ _ _ _ _ _)
  all_goals (try k_fold)
  k_steps
  refine items_inv (α := Nat) (keep := []) (fun (i : Nat) => Itm.tok fun u => .int (i : Int) u) (fun i v => ∃ u, v = .int (i : Int) u) (fun _ _ _ e => e) (fun ps m' n' => m' (Str.ofString "script") = _ ∧ ∀ i ∈ ps, i ≤ 64) (fun _ _ _ _ => trivial) ?_ ?_ _ _ _ ⟨rfl, fun i hi => by have := List.mem_range.mp hi; omega⟩
  · rintro i ps m9 n9 h9 tk9 o9 v9 ⟨hm9s, hlt⟩ ⟨u9, rfl⟩ hcl F9 N9
    have hi := hlt i (.head _)
    have hlt' : ∀ j ∈ ps, j ≤ 64 := fun j hj => hlt j (.tail _ hj)
    k_steps
  · rintro m9 n9 h9 tk9 ⟨hm9s, hlt⟩ F9 N9
    repeat (first | walk1 | (dsimp only; walk1))
    dsimp only
    k_unfold
    (try dsimp only)
    exact goodW_bool F9 (by with_reducible assumption) (raisesW_false (raises_none _)) (post_true _))
  : PySem.Challenge.rw_xm0762_01.Holds) :))

theorem rows_top_3 : True := by
  k_with "otop" => skip
  k_with "execs cons" => (fail_if_success k_extra "f3"); ((k_here; (with_reducible show wpAny _ _ _ _ _ (Shared.mk _ _ _ (_ + _) _)); (refine fold_tk (G := fun t => wpAny _ _ _ _ _ (Shared.mk _ _ _ t _)) ?_); intro tk8))
  k_with "execs cons" => (fail_if_success k_extra "f3"); ((k_here; (rename Fr _ _ _ _ => F8); (fail_if_success (fail_if_success ((try dsimp only at F8); dsimp only [two_ite] at F8))); (refine fold_fr F8 ?_); (clear F8); intro m8 F8))
  k_with "execs cons" => (fail_if_success k_extra "f3"); ((k_here; (rename News _ _ _ _ => N8); (fail_if_success (fail_if_success ((try dsimp only at N8); dsimp only [two_cons, two_app] at N8))); (refine fold_led N8 ?_); (clear N8); intro led8 N8))
  trivial
end Mine
theorem PySem.Challenge.cw_xm0762_01_holds : PySem.Challenge.rw_xm0762_01.Holds :=
  Mine.top_holds
