import PyProof.Rows.All
import Wide.All
import OpenK.AllK
import Wide.FinOn
import PySem.Challenge.RW_ok0177_01
open PySem PySem.W PyProof.Rows PySem.Calls PySem.Spec
set_option Elab.async false
set_option maxRecDepth 100000
set_option maxHeartbeats 8000000
set_option linter.all false
section
open PySem.W.S
name_quick tw8642067239939848140 for findZ by findZ_eq
name_quick tw13145125596335152023 for findZ by findZ_eq
name_quick tw16494616584097029746 for findZ by findZ_eq
name_quick tw15560500314895047343 for findZ by findZ_eq
name_quick tw3093977132361051618 for findZ by findZ_eq
name_quick tw16644606511662114574 for findZ by findZ_eq
name_quick tw4011157648589011858 for findZ by findZ_eq
name_quick tw17057272898397164401 for findZ by findZ_eq
name_quick tw607167704815816724 for findZ by findZ_eq
name_quick tw3424931102881643321 for findZ by findZ_eq
name_quick tw6434138532213402376 for findZ by findZ_eq
name_quick tw17325535178939296128 for findZ by findZ_eq
name_quick tw5923252988546675246 for findZ by findZ_eq
name_quick tw8424611434330503625 for findZ by findZ_eq
name_quick tw11838138170533393997 for findZ by findZ_eq
name_quick tw15900120412870309639 for findZ by findZ_eq
name_quick tw9467589175468403638 for findZ by findZ_eq
name_quick tw16326889199254633757 for findZ by findZ_eq
name_quick tw724751600484774222 for findZ by findZ_eq
name_quick tw5189142188285759775 for findZ by findZ_eq
name_quick tw921073385446354868 for findZ by findZ_eq
name_quick tw7250012664060256230 for findZ by findZ_eq
name_quick tw10938465397075749097 for findZ by findZ_eq
name_quick tw1379578315556383370 for findZ by findZ_eq
name_quick tw11939915149646268982 for findZ by findZ_eq
name_quick tw2571919107429820419 for findZ by findZ_eq
name_quick tw9951705424602377420 for findZ by findZ_eq
name_quick tw16127339712140622707 for findZ by findZ_eq
name_quick tw16697116713213952808 for findZ by findZ_eq
name_quick tw716658179208862652 for findZ by findZ_eq
name_quick tw16846860572762119324 for findZ by findZ_eq
name_quick tw16406328271908756883 for findZ by findZ_eq
name_quick tw11994158751524154303 for findZ by findZ_eq
name_quick tw13759679279233594173 for findZ by findZ_eq
name_quick tw9575731206691268911 for findZ by findZ_eq
name_quick tw8620020772036689432 for findZ by findZ_eq
name_quick tw17532440430192770315 for findZ by findZ_eq
name_quick tw3118938333895590913 for findZ by findZ_eq
name_quick tw13725850141900786883 for findZ by findZ_eq
name_quick tw10030586065758793078 for findZ by findZ_eq
name_quick tw7365555872484859036 for findZ by findZ_eq
name_quick tw13016732220969518872 for findZ by findZ_eq
name_quick tw6380047634161181297 for findZ by findZ_eq
name_quick tw10996506086634736982 for findZ by findZ_eq
name_quick tw14714103240675001986 for findZ by findZ_eq
name_quick tw6448080314894763839 for findZ by findZ_eq
name_quick tw5853609219237828028 for findZ by findZ_eq
name_quick tw4824431525194463578 for findZ by findZ_eq
name_quick tw4434333111790514575 for findZ by findZ_eq
name_quick tw12456492676567594705 for findZ by findZ_eq
name_quick tw6722154040420286063 for findZ by findZ_eq
name_quick tw6832808476680081064 for findZ by findZ_eq
name_quick tw14778209649434054790 for findZ by findZ_eq
name_quick tw1536587703002861866 for findZ by findZ_eq
name_quick tw8703263022893421829 for findZ by findZ_eq
name_quick tw1355338860687761863 for findZ by findZ_eq
name_quick tw392140993173905013 for findZ by findZ_eq
name_quick tw5396446701170858492 for findZ by findZ_eq
name_quick tw11036193050239951465 for findZ by findZ_eq
name_quick tw16413264400604254196 for findZ by findZ_eq
name_quick tw16339471991904476338 for findZ by findZ_eq
name_quick tw10758392820592806131 for findZ by findZ_eq
name_quick tw17475289236778735526 for findZ by findZ_eq
name_quick tw17863021456227041891 for findZ by findZ_eq
name_quick tw16350708796919097252 for findZ by findZ_eq
name_quick tw7094674258960923220 for findZ by findZ_eq
name_quick tw5228443966233409354 for findZ by findZ_eq
name_quick tw13902233598862641821 for findZ by findZ_eq
name_quick tw4109823476700235019 for findZ by findZ_eq
name_quick tw17280976486791472633 for findZ by findZ_eq
name_quick tw1102190903223815498 for findZ by findZ_eq
name_quick tw17476080006546285661 for findZ by findZ_eq
name_quick tw2948108419219029167 for findZ by findZ_eq
name_quick tw13678640442995254988 for findZ by findZ_eq
name_quick tw4275521005467322725 for findZ by findZ_eq
name_quick tw2736616831223182526 for findZ by findZ_eq
name_quick tw6624491594363574236 for findZ by findZ_eq
name_quick tw3267979357774110234 for findZ by findZ_eq
name_quick tw18260038339965228139 for findZ by findZ_eq
name_quick tw13607416678640721797 for findZ by findZ_eq
name_quick tw1544652992362985085 for findZ by findZ_eq
name_quick tw1537898542681612871 for findZ by findZ_eq
name_quick tw9759809726879904816 for findZ by findZ_eq
name_quick tw18340240734955500558 for findZ by findZ_eq
name_quick tw1139862187096482527 for findZ by findZ_eq
name_quick tw4224760802259116069 for findZ by findZ_eq
name_quick tw10887116778572429059 for findZ by findZ_eq
name_quick tw14386061602966655976 for findZ by findZ_eq
name_quick tw9376109419431680627 for findZ by findZ_eq
name_quick tw15894407043143930727 for findZ by findZ_eq
name_quick tw4549333791460862111 for findZ by findZ_eq
name_quick tw17988542015724977305 for findZ by findZ_eq
name_quick tw4407734736301137906 for findZ by findZ_eq
name_quick tw11519604305632133818 for findZ by findZ_eq
name_quick tw503676674663206642 for findZ by findZ_eq
name_quick tw2370425770031549630 for findZ by findZ_eq
name_quick tw14909702598903578594 for findZ by findZ_eq
name_quick tw17172517015917474193 for findZ by findZ_eq
name_quick tw15902184279288820625 for findZ by findZ_eq
name_quick tw10500077913531017323 for findZ by findZ_eq
name_quick tw6952355047532471503 for findZ by findZ_eq
name_quick tw8537084889766193716 for findZ by findZ_eq
name_quick tw1184552218554016812 for findZ by findZ_eq
name_quick tw11495947367809530248 for findZ by findZ_eq
name_quick tw1291980286583624508 for findZ by findZ_eq
name_quick tw8119918657739134586 for findZ by findZ_eq
name_quick tw3952652319720093869 for findZ by findZ_eq
name_quick tw17341736924252097559 for findZ by findZ_eq
name_quick tw8459811325457737761 for findZ by findZ_eq
name_quick tw4090926877573551719 for findZ by findZ_eq
name_quick tw10939839348159177617 for findZ by findZ_eq
name_quick tw6929956602132211858 for findZ by findZ_eq
name_quick tw219737044198020058 for findZ by findZ_eq
name_quick tw17842620306162639686 for findZ by findZ_eq
name_quick tw16049961110935095269 for findZ by findZ_eq
name_quick tw1414301608579184545 for findZ by findZ_eq
name_quick tw5925582254088234700 for findZ by findZ_eq
name_quick tw3325841961599345399 for findZ by findZ_eq
name_quick tw1267870562809915468 for findZ by findZ_eq
name_quick tw17001327861769816259 for findZ by findZ_eq
name_quick tw7504490480230193789 for findZ by findZ_eq
name_quick tw16916688483869632129 for findZ by findZ_eq
name_quick tw5721027456603625697 for findZ by findZ_eq
name_quick tw11270796479367742343 for findZ by findZ_eq
name_quick tw2504098582860672743 for findZ by findZ_eq
name_quick tw14305139224198610471 for findZ by findZ_eq
name_quick tw8134100103159753870 for findZ by findZ_eq
name_quick tw13036272033356848781 for findZ by findZ_eq
name_quick tw14971970265804392439 for findZ by findZ_eq
name_quick tw325292655437039998 for findZ by findZ_eq
name_quick tw6426273055680023932 for findZ by findZ_eq
name_quick tw6132934438814934913 for findZ by findZ_eq
name_quick tw3953757239420563355 for findZ by findZ_eq
name_quick tw2378363196638174374 for findZ by findZ_eq
name_quick tw17429684086410527887 for findZ by findZ_eq
name_quick tw17434858337260393937 for findZ by findZ_eq
name_quick tw7392212959928792091 for findZ by findZ_eq
name_quick tw14874922208557711187 for findZ by findZ_eq
name_quick tw17899373020297197333 for findZ by findZ_eq
name_quick tw16180483070735683940 for findZ by findZ_eq
name_quick tw6179359751918216688 for findZ by findZ_eq
name_quick tw7499937903120025604 for findZ by findZ_eq
name_quick tw11317593695737139937 for findZ by findZ_eq
name_quick tw3880421473898291048 for findZ by findZ_eq
name_quick tw18101931140130867144 for findZ by findZ_eq
name_quick tw2611137233208623240 for findZ by findZ_eq
name_quick tw13512673800721320934 for findZ by findZ_eq
name_quick tw12945968074294007009 for findZ by findZ_eq
name_quick tw9529234661008812162 for findZ by findZ_eq
name_quick tw8708707556590381134 for findZ by findZ_eq
name_quick tw16817318245366136608 for findZ by findZ_eq
name_quick tw13987355940573415152 for findZ by findZ_eq
name_quick tw9948023125614773506 for findZ by findZ_eq
name_quick tw16349804527192203551 for findZ by findZ_eq
name_quick tw5529568453561195837 for findZ by findZ_eq
name_quick tw3355348695024010778 for findZ by findZ_eq
name_quick tw15808557625122938864 for findZ by findZ_eq
name_quick tw16180582048198870337 for findZ by findZ_eq
name_quick tw16241802466949684156 for findZ by findZ_eq
name_quick tw13951257522405164796 for findZ by findZ_eq
name_quick tw15041003319150489328 for findZ by findZ_eq
name_quick tw10885399304501877467 for findZ by findZ_eq
name_quick tw2868976222437259018 for findZ by findZ_eq
name_quick tw17183712847048597117 for findZ by findZ_eq
name_quick tw3365093317950918147 for findZ by findZ_eq
name_quick tw5758256569797452207 for findZ by findZ_eq
name_quick tw13169248704851481478 for findZ by findZ_eq
name_quick tw3577408171920636059 for findZ by findZ_eq
name_quick tw3427515755752030745 for findZ by findZ_eq
name_quick tw13833065179229638619 for findZ by findZ_eq
name_quick tw2364824441312284604 for findZ by findZ_eq
name_quick tw10308316962582663543 for findZ by findZ_eq
name_quick tw12329403913580668285 for findZ by findZ_eq
name_quick tw2408619945344806742 for findZ by findZ_eq
name_quick tw9413167413068371254 for findZ by findZ_eq
name_quick tw1962928258387122110 for findZ by findZ_eq
name_quick tw16439824349840649037 for findZ by findZ_eq
name_quick tw1419416864934026935 for findZ by findZ_eq
name_quick tw11740888236361828772 for findZ by findZ_eq
name_quick tw16039550372008468697 for findZ by findZ_eq
name_quick tw17814930658547583709 for findZ by findZ_eq
name_quick tw15542503528162795033 for findZ by findZ_eq
name_quick tw10138199336372458610 for findZ by findZ_eq
name_quick tw8603108125212654177 for findZ by findZ_eq
name_quick tw12734952128020822468 for findZ by findZ_eq
name_quick tw2958062672499776758 for findZ by findZ_eq
name_quick tw9821368406582625841 for findZ by findZ_eq
name_quick tw15376083050721069600 for findZ by findZ_eq
name_quick tw18400894037694968098 for findZ by findZ_eq
name_quick tw7783732958741208154 for findZ by findZ_eq
name_quick tw2627984346626558326 for findZ by findZ_eq
name_quick tw13809362725867891129 for findZ by findZ_eq
name_quick tw17069979004554194336 for findZ by findZ_eq
name_quick tw17706762159258044697 for findZ by findZ_eq
name_quick tw3764465048917985505 for findZ by findZ_eq
name_quick tw7573151900890175926 for findZ by findZ_eq
name_quick tw1702518465993881591 for findZ by findZ_eq
name_quick tw5357591511691535388 for findZ by findZ_eq
name_quick tw7987952416473584550 for findZ by findZ_eq
name_quick tw13314330512976039754 for findZ by findZ_eq
name_quick tw15079194523842364033 for findZ by findZ_eq
name_quick tw2078703811421203504 for findZ by findZ_eq
name_quick tw10227693086864044499 for findZ by findZ_eq
name_quick tw6817277305950994716 for findZ by findZ_eq
name_quick tw9281714027785469542 for findZ by findZ_eq
name_quick tw16437185098154296904 for findZ by findZ_eq
name_quick tw8881496252177385917 for findZ by findZ_eq
name_quick tw6909570525239066004 for findZ by findZ_eq
name_quick tw10487160056961263569 for findZ by findZ_eq
name_quick tw4318056027017086478 for findZ by findZ_eq
name_quick tw13335737130258781183 for findZ by findZ_eq
name_quick tw17000458434675057986 for findZ by findZ_eq
name_quick tw8172093975534723114 for findZ by findZ_eq
name_quick tw2711585505577850959 for findZ by findZ_eq
name_quick tw14323765505736481980 for findZ by findZ_eq
name_quick tw12973657651903071711 for findZ by findZ_eq
name_quick tw15980859228951719591 for findZ by findZ_eq
name_quick tw13615603153576403970 for findZ by findZ_eq
name_quick tw11625766737575182897 for findZ by findZ_eq
name_quick tw441327347791068078 for findZ by findZ_eq
name_quick tw6813294653679155843 for findZ by findZ_eq
name_quick tw8693227569615203950 for findZ by findZ_eq
name_quick tw9800571698397750058 for findZ by findZ_eq
name_quick tw11891824955294080559 for findZ by findZ_eq
name_quick tw8579058602437062094 for findZ by findZ_eq
name_quick tw3362959441861295915 for findZ by findZ_eq
name_quick tw14896874001708588922 for findZ by findZ_eq
name_quick tw2949557819572172630 for findZ by findZ_eq
name_quick tw14351144972589748530 for findZ by findZ_eq
name_quick tw3972328310683599613 for findZ by findZ_eq
name_quick tw17554001833073541016 for findZ by findZ_eq
name_quick tw17943406268862710625 for findZ by findZ_eq
name_quick tw667198328695590252 for findZ by findZ_eq
name_quick tw6019396324639902685 for findZ by findZ_eq
name_quick tw11277413387252134812 for findZ by findZ_eq
name_quick tw4775785305629353868 for findZ by findZ_eq
name_quick tw14537914154153760125 for findZ by findZ_eq
name_quick tw6144853644547557980 for findZ by findZ_eq
name_quick tw14981143343336467331 for findZ by findZ_eq
name_quick tw8656719876789144132 for findZ by findZ_eq
name_quick tw10919533547850550483 for findZ by findZ_eq
name_quick tw14108194823987119177 for findZ by findZ_eq
name_quick tw136631920214876835 for findZ by findZ_eq
name_quick tw912392155897948271 for findZ by findZ_eq
name_quick tw13252181687094117063 for findZ by findZ_eq
name_quick tw13746126617404028095 for findZ by findZ_eq
name_quick tw196644378293983589 for findZ by findZ_eq
name_quick tw15204781007991603358 for findZ by findZ_eq
name_quick tw15112985482279097393 for findZ by findZ_eq
name_quick tw13160144027095335755 for findZ by findZ_eq
name_quick tw3865406201487662470 for findZ by findZ_eq
name_quick tw1145845241644347369 for findZ by findZ_eq
name_quick tw7581352650102555174 for findZ by findZ_eq
name_quick tw8017206721242287953 for findZ by findZ_eq
name_quick tw3470799630455053000 for findZ by findZ_eq
name_quick tw2759451637364818457 for findZ by findZ_eq
name_quick tw15195428891847259777 for findZ by findZ_eq
name_quick tw608726401823008365 for findZ by findZ_eq
name_quick tw4936483359421988267 for findZ by findZ_eq
name_quick tw13002492023102617099 for findZ by findZ_eq
name_quick tw1749818173716722547 for findZ by findZ_eq
name_quick tw5701610774189311196 for findZ by findZ_eq
name_quick tw3891137856419664920 for findZ by findZ_eq
name_quick tw7496433998918960881 for findZ by findZ_eq
name_quick tw2283851925072248500 for findZ by findZ_eq
name_quick tw13915792640404377917 for findZ by findZ_eq
name_quick tw13254397897704925713 for findZ by findZ_eq
name_quick tw12726346659333912481 for findZ by findZ_eq
name_quick tw3740020263889925745 for findZ by findZ_eq
name_quick tw10057510723706494237 for findZ by findZ_eq
name_quick tw3695515675974049574 for findZ by findZ_eq
name_quick tw3442601649717412197 for findZ by findZ_eq
name_quick tw1156252341971683116 for findZ by findZ_eq
name_quick tw4613930686462287906 for findZ by findZ_eq
name_quick tw3436264866546951355 for findZ by findZ_eq
name_quick tw4075660801711882420 for findZ by findZ_eq
name_quick tw14544052848187043789 for findZ by findZ_eq
name_quick tw5565278806992967083 for findZ by findZ_eq
name_quick tw6967401301877209104 for findZ by findZ_eq
name_quick tw12177649209318274912 for findZ by findZ_eq
name_quick tw17803129079492736432 for findZ by findZ_eq
name_quick tw17520869792638436183 for findZ by findZ_eq
name_quick tw11796506867022685745 for findZ by findZ_eq
name_quick tw9504726810853072989 for findZ by findZ_eq
name_quick tw13471461260053382970 for findZ by findZ_eq
name_quick tw10073347824450446311 for findZ by findZ_eq
name_quick tw8686407601681055034 for findZ by findZ_eq
name_quick tw7788680626742099145 for findZ by findZ_eq
name_quick tw17274371674624000324 for findZ by findZ_eq
name_quick tw1503297043503765363 for findZ by findZ_eq
name_quick tw43969757491396457 for findZ by findZ_eq
name_quick tw535072334866317008 for findZ by findZ_eq
name_quick tw5386766301290243201 for findZ by findZ_eq
name_quick tw11445135464325071761 for findZ by findZ_eq
name_quick tw5268983451555188008 for findZ by findZ_eq
name_quick tw16176465441171805009 for findZ by findZ_eq
name_quick tw3152983702415266003 for findZ by findZ_eq
name_quick tw13776390136698705113 for findZ by findZ_eq
name_quick tw2422670821966735624 for findZ by findZ_eq
name_quick tw7286323032743288035 for findZ by findZ_eq
name_quick tw6214688769961185500 for findZ by findZ_eq
name_quick tw282004115355043989 for findZ by findZ_eq
name_quick tw2862820112641550484 for findZ by findZ_eq
name_quick tw932993149863042379 for findZ by findZ_eq
name_quick tw16531745337717519161 for findZ by findZ_eq
name_quick tw7232422423428716515 for findZ by findZ_eq
name_quick tw1829445100760108279 for findZ by findZ_eq
name_quick tw12450158673883907302 for findZ by findZ_eq
name_quick tw14766643958189025262 for findZ by findZ_eq
name_quick tw3768068617246420682 for findZ by findZ_eq
name_quick tw17024950926791866790 for findZ by findZ_eq
name_quick tw4858009861420398278 for findZ by findZ_eq
name_quick tw10028428298569065181 for findZ by findZ_eq
name_quick tw17730448691065144110 for findZ by findZ_eq
name_quick tw16593013826814733010 for findZ by findZ_eq
name_quick tw12268644228514654432 for findZ by findZ_eq
name_quick tw2334299552400917057 for findZ by findZ_eq
name_quick tw3504847659760329788 for findZ by findZ_eq
name_quick tw13580328829973926956 for findZ by findZ_eq
name_quick tw6213141578215901147 for findZ by findZ_eq
name_quick tw10015664371746657536 for findZ by findZ_eq
name_quick tw10528696920762540405 for findZ by findZ_eq
name_quick tw3142773779024712118 for findZ by findZ_eq
name_quick tw4042386549635913901 for findZ by findZ_eq
name_quick tw12635297910168745909 for findZ by findZ_eq
name_quick tw900395245841561262 for findZ by findZ_eq
name_quick tw16752143609539240740 for findZ by findZ_eq
name_quick tw9979284746773624096 for findZ by findZ_eq
name_quick tw8595292554425487202 for findZ by findZ_eq
name_quick tw18350330562280901221 for findZ by findZ_eq
name_quick tw973662469405803806 for findZ by findZ_eq
name_quick tw16869277618539721502 for findZ by findZ_eq
name_quick tw13241461904039861399 for findZ by findZ_eq
name_quick tw682011567655089306 for findZ by findZ_eq
name_quick tw14126943448341045398 for findZ by findZ_eq
name_quick tw16741492637210864865 for findZ by findZ_eq
name_quick tw14224011070414065920 for findZ by findZ_eq
name_quick tw9763268239775435451 for findZ by findZ_eq
name_quick tw7229665172594901996 for findZ by findZ_eq
name_quick tw5450187663091677483 for findZ by findZ_eq
name_quick tw15480198773659482676 for findZ by findZ_eq
name_quick tw4800724452203346748 for findZ by findZ_eq
name_quick tw13317431791736044220 for findZ by findZ_eq
name_quick tw13900631225919944168 for findZ by findZ_eq
name_quick tw7670514497116975361 for findZ by findZ_eq
name_quick tw17537794083376710389 for findZ by findZ_eq
name_quick tw17071476683966804577 for findZ by findZ_eq
name_quick tw11108263761283441063 for findZ by findZ_eq
name_quick tw3264259588550801142 for findZ by findZ_eq
name_quick tw12731603968600162155 for findZ by findZ_eq
name_quick tw3820604794100220378 for findZ by findZ_eq
name_quick tw11892598404827812706 for findZ by findZ_eq
name_quick tw9862997608875712007 for findZ by findZ_eq
name_quick tw5882768191206486792 for findZ by findZ_eq
name_quick tw9407582987413476825 for findZ by findZ_eq
name_quick tw18416463498863911781 for findZ by findZ_eq
name_quick tw2902314222560053993 for findZ by findZ_eq
name_quick tw8860024209350480642 for findZ by findZ_eq
name_quick tw17853915177807527196 for findZ by findZ_eq
name_quick tw14043711374191979534 for findZ by findZ_eq
name_quick tw11518781747449614426 for findZ by findZ_eq
name_quick tw2905824091091238844 for findZ by findZ_eq
name_quick tw12022618010286034681 for findZ by findZ_eq
name_quick tw2011108890870493169 for findZ by findZ_eq
name_quick tw15034313371233782410 for findZ by findZ_eq
name_quick tw662354867322794072 for findZ by findZ_eq
name_quick tw10352308551163946355 for findZ by findZ_eq
name_quick tw11863081143760314161 for findZ by findZ_eq
name_quick tw1735497430108182060 for findZ by findZ_eq
name_quick tw8727135674562949291 for findZ by findZ_eq
name_quick tw17164873540382356111 for findZ by findZ_eq
name_quick tw16643706677886111943 for findZ by findZ_eq
name_quick tw5200128776193632040 for findZ by findZ_eq
name_quick tw1753847178640102434 for findZ by findZ_eq
name_quick tw5854881644878751223 for findZ by findZ_eq
name_quick tw13377344109577151345 for findZ by findZ_eq
name_quick tw6789855027759293466 for findZ by findZ_eq
name_quick tw12182807814244774211 for findZ by findZ_eq
name_quick tw5732905514179830355 for findZ by findZ_eq
name_quick tw9577309144901391297 for findZ by findZ_eq
name_quick tw15736541856241217950 for findZ by findZ_eq
name_quick tw3560238982266916124 for findZ by findZ_eq
name_quick tw6679490504615227074 for findZ by findZ_eq
name_quick tw18056578402003937789 for findZ by findZ_eq
name_quick tw8488268690174267210 for findZ by findZ_eq
name_quick tw6792406925840432001 for findZ by findZ_eq
name_quick tw10042830170769951172 for findZ by findZ_eq
name_quick tw7503421922109321716 for findZ by findZ_eq
name_quick tw11987121387079638072 for findZ by findZ_eq
name_quick tw6580340599500149305 for findZ by findZ_eq
name_quick tw8376441433122354887 for findZ by findZ_eq
name_quick tw16374537267813192141 for findZ by findZ_eq
name_quick tw8253183596043897158 for findZ by findZ_eq
name_quick tw14530364306720264245 for findZ by findZ_eq
name_quick tw1041845030581493396 for findZ by findZ_eq
name_quick tw5076957145309523181 for findZ by findZ_eq
name_quick tw14097648870716263351 for findZ by findZ_eq
name_quick tw17913803186225011329 for findZ by findZ_eq
name_quick tw13123762751457820565 for findZ by findZ_eq
name_quick tw11186114360453789277 for findZ by findZ_eq
name_quick tw1574873078441994576 for findZ by findZ_eq
name_quick tw951843321253372498 for findZ by findZ_eq
name_quick tw11310463157757771331 for findZ by findZ_eq
name_quick tw17828083071136270317 for findZ by findZ_eq
name_quick tw1620339239838986703 for findZ by findZ_eq
name_quick tw563124612126607214 for findZ by findZ_eq
name_quick tw7081425507203772304 for findZ by findZ_eq
name_quick tw13581749221687468397 for findZ by findZ_eq
name_quick tw1772237422875290029 for findZ by findZ_eq
name_quick tw189603312586018693 for findZ by findZ_eq
name_quick tw5068434257544371817 for findZ by findZ_eq
name_quick tw11452132507678324671 for findZ by findZ_eq
name_quick tw12635813782599140982 for findZ by findZ_eq
name_quick tw6662432510661729299 for findZ by findZ_eq
name_quick tw14553827428707814869 for findZ by findZ_eq
name_quick tw15215539614974913122 for findZ by findZ_eq
name_quick tw4748654258956052638 for findZ by findZ_eq
name_quick tw5697894365363955025 for findZ by findZ_eq
name_quick tw16296994325663420285 for findZ by findZ_eq
name_quick tw4278798014809849964 for findZ by findZ_eq
name_quick tw15423634916342008072 for findZ by findZ_eq
name_quick tw10250732866820691176 for findZ by findZ_eq
name_quick tw2193789692954389824 for findZ by findZ_eq
name_quick tw12945451867199242903 for findZ by findZ_eq
name_quick tw6891000109920058784 for findZ by findZ_eq
name_quick tw4039474712603431140 for findZ by findZ_eq
name_quick tw16018607276475445134 for findZ by findZ_eq
name_quick tw757081541053455785 for findZ by findZ_eq
name_quick tw5706481520468235054 for findZ by findZ_eq
name_quick tw13526986893379352335 for findZ by findZ_eq
name_quick tw15490439104401381959 for findZ by findZ_eq
name_quick tw17552769576498331613 for findZ by findZ_eq
name_quick tw4921902886906138986 for findZ by findZ_eq
name_quick tw2134368852220247820 for findZ by findZ_eq
name_quick tw11964429278604863157 for findZ by findZ_eq
name_quick tw1615719349143574890 for findZ by findZ_eq
name_quick tw618205885557783147 for findZ by findZ_eq
name_quick tw4681523508651956083 for findZ by findZ_eq
name_quick tw17300597898927385350 for findZ by findZ_eq
name_quick tw7892128664451923741 for findZ by findZ_eq
name_quick tw6250672158363226905 for findZ by findZ_eq
name_quick tw10719484529398299949 for findZ by findZ_eq
name_quick tw4966893808263662355 for findZ by findZ_eq
name_quick tw7276740287692124622 for findZ by findZ_eq
name_quick tw6205483292176774078 for findZ by findZ_eq
name_quick tw8430678208038309684 for findZ by findZ_eq
name_quick tw17888162413812561239 for findZ by findZ_eq
name_quick tw3094477031063562474 for findZ by findZ_eq
name_quick tw3976722010076183465 for findZ by findZ_eq
name_quick tw8902219603052485911 for findZ by findZ_eq
name_quick tw14973007898608030118 for findZ by findZ_eq
name_quick tw11130039905162102590 for findZ by findZ_eq
name_quick tw16643379632663270332 for findZ by findZ_eq
name_quick tw6380782515089751550 for findZ by findZ_eq
name_quick tw10819683100428557426 for findZ by findZ_eq
name_quick tw11166942722945506595 for findZ by findZ_eq
name_quick tw2951486255847992690 for findZ by findZ_eq
name_quick tw13789449189825218787 for findZ by findZ_eq
name_quick tw18188234029961486008 for findZ by findZ_eq
name_quick tw15560853006256673968 for findZ by findZ_eq
name_quick tw9136488742655976645 for findZ by findZ_eq
name_quick tw8796240567053077481 for findZ by findZ_eq
name_quick tw16328912562034613984 for findZ by findZ_eq
name_quick tw15450981722951097364 for findZ by findZ_eq
name_quick tw17804436615005485693 for findZ by findZ_eq
name_quick tw12359285113459375979 for findZ by findZ_eq
name_quick tw13871001218405608335 for findZ by findZ_eq
name_quick tw17954736447514056666 for findZ by findZ_eq
name_quick tw11922603306681860132 for findZ by findZ_eq
name_quick tw4552823106982906706 for findZ by findZ_eq
name_quick tw15168306246750427876 for findZ by findZ_eq
name_quick tw9720828393056574044 for findZ by findZ_eq
name_quick tw14979626087600564940 for findZ by findZ_eq
name_quick tw4091194055036891139 for findZ by findZ_eq
name_quick tw3856783459128436802 for findZ by findZ_eq
name_quick tw16432479971616331241 for findZ by findZ_eq
name_quick tw774047393022817027 for findZ by findZ_eq
name_quick tw8610040677353227653 for findZ by findZ_eq
name_quick tw15773981995205291829 for findZ by findZ_eq
name_quick tw6291368078380397288 for findZ by findZ_eq
name_quick tw14285029430470858289 for findZ by findZ_eq
name_quick tw17352973434858128600 for findZ by findZ_eq
name_quick tw930746551332336609 for findZ by findZ_eq
name_quick tw8989982439271903415 for findZ by findZ_eq
name_quick tw9691624938235723451 for findZ by findZ_eq
name_quick tw17968720173961103018 for findZ by findZ_eq
name_quick tw18220123701641295943 for findZ by findZ_eq
name_quick tw7323676302269181137 for findZ by findZ_eq
name_quick tw1638017585896720355 for findZ by findZ_eq
name_quick tw6148621092414575339 for findZ by findZ_eq
name_quick tw17954471519018878134 for findZ by findZ_eq
name_quick tw1204117194425446250 for findZ by findZ_eq
name_quick tw15199281503961881116 for findZ by findZ_eq
name_quick tw7397068168572129948 for findZ by findZ_eq
name_quick tw12488000419048109807 for findZ by findZ_eq
name_quick tw6714822604882049554 for findZ by findZ_eq
name_quick tw1402947280878808549 for findZ by findZ_eq
name_quick tw11161088081135249708 for findZ by findZ_eq
name_quick tw8359286648393180516 for findZ by findZ_eq
name_quick tw8032284361305108907 for findZ by findZ_eq
name_quick tw14210447440969649564 for findZ by findZ_eq
name_quick tw1401972060568974870 for findZ by findZ_eq
name_quick tw11825729669827539873 for findZ by findZ_eq
name_quick tw11566699232636054958 for findZ by findZ_eq
name_quick tw16947794391021106201 for findZ by findZ_eq
name_quick tw16966814322356759819 for findZ by findZ_eq
name_quick tw17774800907425398282 for findZ by findZ_eq
name_quick tw1869930749605803152 for findZ by findZ_eq
name_quick tw6711915476519705758 for findZ by findZ_eq
name_quick tw2039238271031011813 for findZ by findZ_eq
name_quick tw3636048126100218174 for findZ by findZ_eq
name_quick tw17026713947507217902 for findZ by findZ_eq
name_quick tw17975652961387846372 for findZ by findZ_eq
name_quick tw7269565832213808900 for findZ by findZ_eq
name_quick tw4172830789200971933 for findZ by findZ_eq
name_quick tw4558998842232669794 for findZ by findZ_eq
name_quick tw12832477231654346042 for findZ by findZ_eq
name_quick tw16865151637890581275 for findZ by findZ_eq
name_quick tw12172078356533094185 for findZ by findZ_eq
name_quick tw9305782018832362445 for findZ by findZ_eq
name_quick tw16223305294053301992 for findZ by findZ_eq
name_quick tw7275051467321613617 for findZ by findZ_eq
name_quick tw12989987162080215863 for findZ by findZ_eq
name_quick tw13559156169165276386 for findZ by findZ_eq
name_quick tw10029231156530900338 for findZ by findZ_eq
name_quick tw14420389602138693270 for findZ by findZ_eq
name_quick tw9537544019596298400 for findZ by findZ_eq
name_quick tw8075568018651887793 for findZ by findZ_eq
name_quick tw17672482021469178181 for findZ by findZ_eq
name_quick tw7469732015759309437 for findZ by findZ_eq
name_quick tw12821735335276811757 for findZ by findZ_eq
name_quick tw9673203406766833760 for findZ by findZ_eq
name_quick tw17015423121036801654 for findZ by findZ_eq
name_quick tw13236226663087606529 for findZ by findZ_eq
name_quick tw7035115661146626270 for findZ by findZ_eq
name_quick tw12659028871203227004 for findZ by findZ_eq
name_quick tw8658103293671471659 for findZ by findZ_eq
name_quick tw6434265647005701932 for findZ by findZ_eq
name_quick tw505943868828395459 for findZ by findZ_eq
name_quick tw5862295025349918931 for findZ by findZ_eq
name_quick tw5111356299099525756 for findZ by findZ_eq
name_quick tw12679591844961189642 for findZ by findZ_eq
name_quick tw8802822988693486460 for findZ by findZ_eq
name_quick tw151948405760981731 for findZ by findZ_eq
name_quick tw5349121933718820234 for findZ by findZ_eq
name_quick tw8753696776887207221 for findZ by findZ_eq
name_quick tw4299136966843209011 for findZ by findZ_eq
name_quick tw11788150170368784547 for findZ by findZ_eq
name_quick tw9082586571710850966 for findZ by findZ_eq
name_quick tw8732485361984058174 for findZ by findZ_eq
name_quick tw9501820088010722379 for findZ by findZ_eq
name_quick tw16942194440817826258 for findZ by findZ_eq
name_quick tw4525517667737911620 for findZ by findZ_eq
name_quick tw1236312531815940901 for findZ by findZ_eq
name_quick tw16979880578912567463 for findZ by findZ_eq
name_quick tw15202239659555905331 for findZ by findZ_eq
name_quick tw11682084944484805031 for findZ by findZ_eq
name_quick tw4527066259768149269 for findZ by findZ_eq
name_quick tw14023627001141898710 for findZ by findZ_eq
name_quick tw10010936943081839664 for findZ by findZ_eq
name_quick tw16925447999132377295 for findZ by findZ_eq
name_quick tw12371321757623732685 for findZ by findZ_eq
name_quick tw5952267759425050802 for findZ by findZ_eq
name_quick tw14073706353221006472 for findZ by findZ_eq
name_quick tw2447775223705975068 for findZ by findZ_eq
name_quick tw15742981410569661332 for findZ by findZ_eq
name_quick tw15880737140895825463 for findZ by findZ_eq
name_quick tw4636218855388986860 for findZ by findZ_eq
name_quick tw2001226814458364393 for findZ by findZ_eq
name_quick tw13200701876752130231 for findZ by findZ_eq
name_quick tw11636919720809706868 for findZ by findZ_eq
name_quick tw10833955939284561965 for findZ by findZ_eq
name_quick tw1107438419126420414 for findZ by findZ_eq
name_quick tw8385612375773290118 for findZ by findZ_eq
name_quick tw704327219915372674 for findZ by findZ_eq
name_quick tw6125931036764729998 for findZ by findZ_eq
name_quick tw9794667896261083176 for findZ by findZ_eq
name_quick tw6122645084068987007 for findZ by findZ_eq
name_quick tw7733015712792483723 for findZ by findZ_eq
name_quick tw721709456127091705 for findZ by findZ_eq
name_quick tw17964007177503468958 for findZ by findZ_eq
name_quick tw15806122291839087668 for findZ by findZ_eq
name_quick tw18410474027866654770 for findZ by findZ_eq
name_quick tw13215998728584607739 for findZ by findZ_eq
name_quick tw183835017167291270 for findZ by findZ_eq
name_quick tw313226197891681235 for findZ by findZ_eq
name_quick tw16417370028952169744 for findZ by findZ_eq
name_quick tw6135381517318000843 for findZ by findZ_eq
name_quick tw13551572312386263098 for findZ by findZ_eq
name_quick tw3670520836272599126 for findZ by findZ_eq
name_quick tw13138059604875949641 for findZ by findZ_eq
name_quick tw9564595351457756722 for findZ by findZ_eq
name_quick tw11420187438672877268 for findZ by findZ_eq
name_quick tw15263041282635125899 for findZ by findZ_eq
name_quick tw14884601019740666482 for findZ by findZ_eq
name_quick tw9011979029575296479 for findZ by findZ_eq
name_quick tw17394056326795013819 for findZ by findZ_eq
name_quick tw16874561944515371726 for findZ by findZ_eq
name_quick tw1617757218408452269 for findZ by findZ_eq
name_quick tw8540232549379673566 for findZ by findZ_eq
name_quick tw5149714755402479525 for findZ by findZ_eq
name_quick tw17765544955259793912 for findZ by findZ_eq
name_quick tw15562837088269578035 for findZ by findZ_eq
name_quick tw12290603225136948437 for findZ by findZ_eq
name_quick tw2674190319118857908 for findZ by findZ_eq
name_quick tw5518745428033880147 for findZ by findZ_eq
name_quick tw14223099787259518943 for findZ by findZ_eq
name_quick tw8180830640274347804 for findZ by findZ_eq
name_quick tw6012508502120743258 for findZ by findZ_eq
name_quick tw11543547407058413889 for findZ by findZ_eq
name_quick tw13642483538084851733 for findZ by findZ_eq
name_quick tw17045043414572947948 for findZ by findZ_eq
name_quick tw3698559305507148144 for findZ by findZ_eq
name_quick tw10948738476641704880 for findZ by findZ_eq
name_quick tw10470071008263537045 for findZ by findZ_eq
name_quick tw2719445374943340272 for findZ by findZ_eq
name_quick tw9908251947323293946 for findZ by findZ_eq
name_quick tw4904739604578439355 for findZ by findZ_eq
name_quick tw7618406622816332465 for findZ by findZ_eq
name_quick tw14333388528381170442 for findZ by findZ_eq
name_quick tw7344376507651311505 for findZ by findZ_eq
name_quick tw11333186260410459676 for findZ by findZ_eq
name_quick tw14186486079044719983 for findZ by findZ_eq
name_quick tw12813236842856870187 for findZ by findZ_eq
name_quick tw12392613427281201732 for findZ by findZ_eq
name_quick tw16873187988247708562 for findZ by findZ_eq
name_quick tw1320183511955256522 for findZ by findZ_eq
name_quick tw9458956999447867950 for findZ by findZ_eq
name_quick tw12233582284571471492 for findZ by findZ_eq
name_quick tw5978237884098788730 for findZ by findZ_eq
name_quick tw18011898689540126615 for findZ by findZ_eq
name_quick tw16414604833108395602 for findZ by findZ_eq
name_quick tw15059462757989803610 for findZ by findZ_eq
name_quick tw18273839248471157720 for findZ by findZ_eq
name_quick tw18310272354389090212 for findZ by findZ_eq
name_quick tw8098380416015320538 for findZ by findZ_eq
name_quick tw14209830616999942402 for findZ by findZ_eq
name_quick tw13835481989135108943 for findZ by findZ_eq
name_quick tw6993175162768986339 for findZ by findZ_eq
name_quick tw12835720964997663042 for findZ by findZ_eq
name_quick tw9265879793445154701 for findZ by findZ_eq
name_quick tw15066959818950650227 for findZ by findZ_eq
name_quick tw7650934615059315214 for findZ by findZ_eq
name_quick tw8946543629884556368 for findZ by findZ_eq
name_quick tw1258717718454355964 for findZ by findZ_eq
name_quick tw8047484207015712433 for findZ by findZ_eq
name_quick tw12393455550290869266 for findZ by findZ_eq
name_quick tw1708024556718086227 for findZ by findZ_eq
name_quick tw4658958612460137192 for findZ by findZ_eq
name_quick tw15468230090516036684 for findZ by findZ_eq
name_quick tw17018628822417861297 for findZ by findZ_eq
name_quick tw12177639751122801600 for findZ by findZ_eq
name_quick tw2569364866550412066 for findZ by findZ_eq
name_quick tw16655555454665732581 for findZ by findZ_eq
name_quick tw10670733350059645105 for findZ by findZ_eq
name_quick tw4575980220486274672 for findZ by findZ_eq
name_quick tw3327986453032591115 for findZ by findZ_eq
name_quick tw16292439048969090190 for findZ by findZ_eq
name_quick tw17846936440860909165 for findZ by findZ_eq
name_quick tw8999186272805695465 for findZ by findZ_eq
name_quick tw15475462885187679331 for findZ by findZ_eq
name_quick tw2478078296215019888 for findZ by findZ_eq
name_quick tw558745408833754511 for findZ by findZ_eq
name_quick tw11277716924127702174 for findZ by findZ_eq
name_quick tw17000155066101142889 for findZ by findZ_eq
name_quick tw7140130562030077042 for findZ by findZ_eq
name_quick tw2315820567201803617 for findZ by findZ_eq
name_quick tw4292500188555128830 for findZ by findZ_eq
name_quick tw16942504070071679284 for findZ by findZ_eq
name_quick tw8206430501311747189 for findZ by findZ_eq
name_quick tw15207642765257501584 for findZ by findZ_eq
name_quick tw15919542637913265678 for findZ by findZ_eq
name_quick tw2922074901204462755 for findZ by findZ_eq
name_quick tw11306939235166856333 for findZ by findZ_eq
name_quick tw12114495157272644582 for findZ by findZ_eq
name_quick tw11328821685186248670 for findZ by findZ_eq
name_quick tw6587116730350146372 for findZ by findZ_eq
name_quick tw3282434896037501709 for findZ by findZ_eq
name_quick tw17679261114430710190 for findZ by findZ_eq
name_quick tw16145008321745377990 for findZ by findZ_eq
name_quick tw1477727409594328284 for findZ by findZ_eq
name_quick tw7585139358526817783 for findZ by findZ_eq
name_quick tw1189734492583310 for findZ by findZ_eq
name_quick tw8987815912523675519 for findZ by findZ_eq
name_quick tw5770868932273138760 for findZ by findZ_eq
name_quick tw1377046205977697930 for findZ by findZ_eq
name_quick tw6834602518627153040 for findZ by findZ_eq
name_quick tw17827458813498177553 for findZ by findZ_eq
name_quick tw17279654841073493023 for findZ by findZ_eq
name_quick tw9931943479562821362 for findZ by findZ_eq
name_quick tw878741703135273975 for findZ by findZ_eq
name_quick tw16751136340355185061 for findZ by findZ_eq
name_quick tw10317580896714288900 for findZ by findZ_eq
name_quick tw3797612339304411714 for findZ by findZ_eq
name_quick tw3386650904741475044 for findZ by findZ_eq
name_quick tw6090905460779295987 for findZ by findZ_eq
name_quick tw39160002569200845 for findZ by findZ_eq
name_quick tw16548257151911338427 for findZ by findZ_eq
name_quick tw14214133299417103183 for findZ by findZ_eq
name_quick tw10205541121877940668 for findZ by findZ_eq
name_quick tw6004533443673955352 for findZ by findZ_eq
name_quick tw2664551874359636763 for findZ by findZ_eq
name_quick tw17111948838632640456 for findZ by findZ_eq
name_quick tw11707371222683016368 for findZ by findZ_eq
name_quick tw15157221202141545114 for findZ by findZ_eq
name_quick tw6589095468515690095 for findZ by findZ_eq
name_quick tw6123655918767846522 for findZ by findZ_eq
name_quick tw2660918139993853925 for findZ by findZ_eq
name_quick tw8224813933742928703 for findZ by findZ_eq
name_quick tw10007627690174824804 for findZ by findZ_eq
name_quick tw12825359941727978080 for findZ by findZ_eq
name_quick tw2370070277545300124 for findZ by findZ_eq
name_quick tw1763209079605825380 for findZ by findZ_eq
name_quick tw9285146279643344392 for findZ by findZ_eq
name_quick tw1393629259489396696 for findZ by findZ_eq
name_quick tw460243522976405022 for findZ by findZ_eq
name_quick tw16413963553889246368 for findZ by findZ_eq
name_quick tw2670528217467546775 for findZ by findZ_eq
name_quick tw15315713394281565010 for findZ by findZ_eq
name_quick tw1055568401681811165 for findZ by findZ_eq
name_quick tw3039592710220408265 for findZ by findZ_eq
name_quick tw8649964590619651473 for findZ by findZ_eq
name_quick tw17993156020533580102 for findZ by findZ_eq
name_quick tw17503288770812694035 for findZ by findZ_eq
name_quick tw17497748084772794779 for findZ by findZ_eq
name_quick tw4319705520415482375 for findZ by findZ_eq
name_quick tw12647630874787467225 for findZ by findZ_eq
name_quick tw2078845642816447578 for findZ by findZ_eq
name_quick tw12237943961548833269 for findZ by findZ_eq
name_quick tw10942035263794033107 for findZ by findZ_eq
name_quick tw12898947447245864913 for findZ by findZ_eq
name_quick tw9676229304581654039 for findZ by findZ_eq
name_quick tw11588390666370768167 for findZ by findZ_eq
name_quick tw3619232141914619222 for findZ by findZ_eq
name_quick tw18123110421147349612 for findZ by findZ_eq
name_quick tw6683783046931543321 for findZ by findZ_eq
name_quick tw2968979199505139716 for findZ by findZ_eq
name_quick tw950723637873067451 for findZ by findZ_eq
name_quick tw856264945809894966 for findZ by findZ_eq
name_quick tw8400853705098224536 for findZ by findZ_eq
name_quick tw15766043655864335149 for findZ by findZ_eq
name_quick tw1370275717833778536 for findZ by findZ_eq
name_quick tw2718901123391026995 for findZ by findZ_eq
name_quick tw14907048974825807369 for findZ by findZ_eq
name_quick tw7802139600951554647 for findZ by findZ_eq
name_quick tw14168537005229113720 for findZ by findZ_eq
name_quick tw15007238320947547705 for findZ by findZ_eq
name_quick tw18345786424863182364 for findZ by findZ_eq
name_quick tw1085346719588807367 for findZ by findZ_eq
name_quick tw7098571738820278039 for findZ by findZ_eq
name_quick tw16349216596472256690 for findZ by findZ_eq
name_quick tw389472881494512206 for findZ by findZ_eq
name_quick tw11790162104776037713 for findZ by findZ_eq
name_quick tw5823794197072137003 for findZ by findZ_eq
name_quick tw347637069881736656 for findZ by findZ_eq
name_quick tw4302124980754421698 for findZ by findZ_eq
name_quick tw10314498396905981064 for findZ by findZ_eq
name_quick tw10323183001455561277 for findZ by findZ_eq
name_quick tw17344680358763864322 for findZ by findZ_eq
name_quick tw7581816359482902497 for findZ by findZ_eq
name_quick tw4933834842325187142 for findZ by findZ_eq
name_quick tw13251646731365433171 for findZ by findZ_eq
name_quick tw148260917463534702 for findZ by findZ_eq
name_quick tw10190238754879171395 for findZ by findZ_eq
name_quick tw10706342367453228570 for findZ by findZ_eq
name_quick tw9594665118957945026 for findZ by findZ_eq
name_quick tw4980102563643897964 for findZ by findZ_eq
name_quick tw1631149150583789468 for findZ by findZ_eq
name_quick tw16645262185327669138 for findZ by findZ_eq
name_quick tw17353298838428176512 for findZ by findZ_eq
name_quick tw7299951869573292228 for findZ by findZ_eq
name_quick tw17047587732179306917 for findZ by findZ_eq
name_quick tw4679858250743294509 for findZ by findZ_eq
name_quick tw13505292571300825877 for findZ by findZ_eq
name_quick tw4405960384096086239 for findZ by findZ_eq
name_quick tw17139780236743587250 for findZ by findZ_eq
name_quick tw7074795694173733578 for findZ by findZ_eq
name_quick tw9396933662098498411 for findZ by findZ_eq
name_quick tw5248340912204065574 for findZ by findZ_eq
name_quick tw12850107946570832962 for findZ by findZ_eq
name_quick tw17815586953681464072 for findZ by findZ_eq
name_quick tw9300948228871686676 for findZ by findZ_eq
name_quick tw6607189417530752870 for findZ by findZ_eq
name_quick tw7745614565497352828 for findZ by findZ_eq
name_quick tw12540713548012372134 for findZ by findZ_eq
name_quick tw117213463901210413 for findZ by findZ_eq
name_quick tw7483462131439158144 for findZ by findZ_eq
name_quick tw10058976618658966374 for findZ by findZ_eq
name_quick tw5135500740108067664 for findZ by findZ_eq
name_quick tw10045867985992453528 for findZ by findZ_eq
end
namespace Mine
open_top hd for PySem.Challenge.rw_ok0177_01
example : True := by
  w_top off
  trivial
section
set_option maxHeartbeats 8000000
abbrev Led := List (Addr × Obj)
noncomputable abbrev loo : List Str := looseW hd.view_39 [Str.ofString "GateError", Str.ofString "wrap", Str.ofString "signed", Str.ofString "neg", Str.ofString "branch_reg", Str.ofString "branch_imm", Str.ofString "check_row"]

abbrev Ct (w : World) (mean : ExcName → Option Value) (mg mb : Str → Option Value) (D : Nat) (f : Nat) (news : Led) (pre : Prop) (vs : List Value) (Ret : Value → Led → Prop) : Prop :=
  ∀ (dp un : Nat) (gd : Option (List Code)) (cn : Str) (cs : Scope) (a : Addr) (ccd : Value) (cl : List (Str × Addr)) (outer : List Env) (A₀ : Around) (base h₀ : Heap) (L : Addr) (m : Str → Option Value) (s : Shared) (Q E : Value → Shared → Prop),
    Below A₀ base outer h₀ → Fr h₀ L s.heap m → (hd.heap_39 w.params).In h₀ → News h₀ L s.heap news → Top hd.view_39 loo mean mg mb h₀ → cs.kind = .function → pre → dp + D < recursionLimit → un + 8 * D < cLine →
    (∀ v news' h' tk', Ret v news' → Fr h₀ L h' m → News h₀ L h' news' → Q v { s with heap := h', toks := tk' }) →
    wpAny (model PySem.Challenge.rw_ok0177_01.row.prog w) (ktrTop dp un gd cn cs L a ccd cl outer) (call (.ref f) vs) Q E s
theorem allNe_of {D : Nat} : ∀ {l : Led}, AllLt D l → ∀ p ∈ l, p.1 ≠ D
  | [], _, _, hp => (nomatch hp)
  | _ :: _, h, _, hp => by
    rcases List.mem_cons.mp hp with rfl | hp
    · exact Nat.ne_of_lt h.1
    · exact allNe_of h.2 _ hp
theorem news_add {h₀ h : Heap} {L : Addr} {all l : Led} {q : Addr × Obj} (hq : q ∈ all) (N : News h₀ L h l) (A : News h₀ L h all) : News h₀ L h (q :: l) := fun p hp => by
  rcases List.mem_cons.mp hp with rfl | hp
  · exact A _ hq
  · exact N _ hp
end
section
theorem room0 {dp D R : Nat} (h : dp + D < R) : dp < R := Nat.lt_of_le_of_lt (Nat.le_add_right _ _) h
theorem room1 {dp D R a : Nat} (h : dp + D < R) (k : Nat.ble a D = true) : dp + a < R := Nat.lt_of_le_of_lt (Nat.add_le_add_left (Nat.le_of_ble_eq_true k) _) h
theorem room2 {dp D R a b : Nat} (h : dp + D < R) (k : Nat.ble (a + b) D = true) : dp + a + b < R := by rw [Nat.add_assoc]; exact room1 h k
theorem room3 {dp D R a b c : Nat} (h : dp + D < R) (k : Nat.ble (a + b + c) D = true) : dp + a + b + c < R := by rw [Nat.add_assoc dp]; exact room2 h k
theorem lt_led {D a : Nat} {o : Obj} {l : Led} (h : ∀ p ∈ l, p.1 < D) (m : (a, o) ∈ l) : a < D := h _ m
theorem all_ne_lt {D : Nat} {l : Led} (h : ∀ p ∈ l, p.1 < D) : ∀ p ∈ l, p.1 ≠ D := fun p hp => Nat.ne_of_lt (h p hp)
theorem lt_trans_all {D x : Nat} {l : Led} (h : ∀ p ∈ l, p.1 < D) (k : D < x) : ∀ p ∈ l, p.1 < x := fun p hp => Nat.lt_trans (h p hp) k
section
variable {M : Model} {A : Around} {E : Value → Shared → Prop} {s : Shared} {h₀ : Heap} {L a : Addr} {m : Str → Option Value} {cn : Str} {cs : Scope} {ccd : Value} {cl : List (Str × Addr)}
  {x : Str} {v : Value} {Q : Unit → Shared → Prop} {news : Led}
theorem stL (F : Fr h₀ L s.heap m) (N : News h₀ L s.heap news)
    (h : let m' : Str → Option Value := fun y => if y = x then some v else m y; let n' : Led := news; ∀ h' : Heap, Fr h₀ L h' m' → News h₀ L h' n' → Q () { s with heap := h', toks := s.toks + 1 })
    (hk : cs.kind = .function := by rfl) (hx : (envX cn cs L a ccd cl).kindOf x = some .local := by rfl) : wpAny M A (storeName (envX cn cs L a ccd cl) x v) Q E s := storeX_L F N (fun h' F' N' => h h' F' N') hk hx
end
theorem ledLet {h₀ h : Heap} {L : Addr} {news : Led} {G : Prop} (N : News h₀ L h news) (k : let n : Led := news; News h₀ L h n → G) : G := k N
end
section
theorem allLt_get {D : Nat} : ∀ {l : Led}, AllLt D l → ∀ p ∈ l, p.1 < D
  | [], _, _, h => (nomatch h)
  | q :: r, hl, p, h => by
    rcases List.mem_cons.mp h with h | h
    · rw [h]; exact hl.1
    · exact allLt_get hl.2 p h
theorem lt_alt {D a : Nat} {o : Obj} {l : Led} (h : AllLt D l) (k : (a, o) ∈ l) : a < D := allLt_get h (a, o) k
theorem allLt_subA {D : Nat} {l l' : Led} (h : AllLt D l) (k : ∀ p, p ∈ l' → p ∈ l) : AllLt D l' := allLt_of fun p hp => allLt_get h p (k p hp)
theorem ne_alt {D a : Nat} {o : Obj} {l : Led} (h : AllLt D l) (k : (a, o) ∈ l) : a ≠ D := allNe_of h (a, o) k
theorem allLt_subL {D : Nat} {l l' : Led} (h : ∀ p ∈ l, p.1 < D) (k : ∀ p, p ∈ l' → p ∈ l) : AllLt D l' := allLt_of fun p hp => h p (k p hp)
theorem all_ne_sub {D : Nat} {l l' : Led} (h : ∀ p ∈ l, p.1 < D) (k : ∀ p, p ∈ l' → p ∈ l) : ∀ p ∈ l', p.1 ≠ D := fun p hp => Nat.ne_of_lt (h p (k p hp))
section
variable {prog : Program} {w : World} {A A₀ : Around} {s : Shared} {base h₀ : Heap} {L : Addr} {m : Str → Option Value} {news : Led} {K : Frag} {p : Program} {loose : List Str} {mean : ExcName → Option Value} {mg mb : Str → Option Value}
theorem code_defL {env : Env} {outer : List Env} {R : Result → Shared → Prop} {name qual : Str} {params : Arguments} {body : List Stmt} {scope : Scope} {dV kV doc pm cdv ct oc : Value} {an od : Option Addr} {osl : Array (Option Value)} {f : Addr} {args : Args} {binds : List (Str × Value)}
    (B : Below A₀ base outer h₀) (F : Fr h₀ L s.heap m) (X₀ : K.In h₀) (N : News h₀ L s.heap news) (T : Top p loose mean mg mb h₀) (hA : A.frames = some (env :: outer)) (hf : env.frame = some L) (hke : env.scope.kind = .function)
    (ho : K.lookup f = some ⟨oc, od, .func (fnOf name qual params body scope dV kV doc pm an cdv ct), osl⟩) (hcd : codeIn K cdv qual = true) (hroom : A.depth < recursionLimit)
    (hbind : BindsTo s (fnOf name qual params body scope dV kV doc pm an cdv ct) args binds) (hloc : ∀ y ∈ binds, scope.names.lookup y.1 = some .local)
    (h : let bm : Str → Option Value := fun y => binds.reverse.lookup y; let n' : Led := news; ∀ g L' h₁, let en : Env := envOf qual scope L' f cdv; let A' : Around := A.deeper en;
      let qk : Flow → Shared → Prop := fun fl s' => LeaveK h₀ L m g R (match fl with | .ret v => v | _ => .none) s';
      let ek : Value → Shared → Prop := fun e s' => wpAny (model prog w) A' (leaving en e) (fun _ s'' => R (.error e) s'') (fun e' s'' => R (.error e') s'') s';
      Fr h₀ L g m → Fr g L' h₁ bm → News g L' h₁ n' → Below A base (env :: outer) g → K.In g → Top p loose mean mg mb g →
      wpAny (model prog w) A' (execs body en) qk ek { s with heap := h₁, toks := s.toks + binds.length })
    (hco : scope.isCoroutine = false) (hgen : scope.isGenerator = false) (hk : scope.kind = .function)
    (hcell : ∀ x ∈ scope.names, x.2 ≠ .cell) : codeAny (model prog w) A (.call (.ref f) args) R s :=
  code_def B F X₀ N T hA hf hke ho hcd hroom hbind hloc (fun g L' h₁ FG F' N' B' X' T' => h g L' h₁ FG F' N' B' X' T') hco hgen hk hcell
end
end
section
def nthL : Led → Nat → Option (Addr × Obj)
  | [], _ => none
  | p :: _, 0 => some p
  | _ :: r, n + 1 => nthL r n
theorem memAt {l : Led} {p : Addr × Obj} (i : Nat) (h : nthL l i = some p) : p ∈ l := by
  induction l generalizing i with
  | nil => cases h
  | cons q r ih =>
    cases i with
    | zero => cases h; exact List.Mem.head _
    | succ n => exact List.Mem.tail _ (ih n h)
theorem memDrop {l a : Led} {p : Addr × Obj} (n : Nat) (h : l.drop n = a) (m : p ∈ a) : p ∈ l := List.mem_of_mem_drop (h ▸ m)
theorem sub_nil {l : Led} : ∀ q ∈ ([] : Led), q ∈ l := fun _ h => (nomatch h)
theorem sub_refl {l : Led} : ∀ q ∈ l, q ∈ l := fun _ h => h
theorem sub_cons {l l' : Led} {p : Addr × Obj} (h1 : p ∈ l) (h2 : ∀ q ∈ l', q ∈ l) : ∀ q ∈ p :: l', q ∈ l := List.forall_mem_cons.mpr ⟨h1, h2⟩
theorem sub_app {a b l : Led} (h1 : ∀ q ∈ a, q ∈ l) (h2 : ∀ q ∈ b, q ∈ l) : ∀ q ∈ a ++ b, q ∈ l := fun q hq => (List.mem_append.mp hq).elim (h1 q) (h2 q)
theorem sub_tl {a l : Led} {p : Addr × Obj} (h : ∀ q ∈ a, q ∈ l) : ∀ q ∈ a, q ∈ p :: l := fun q hq => .tail _ (h q hq)
theorem sub_r {a m l : Led} (h : ∀ q ∈ a, q ∈ l) : ∀ q ∈ a, q ∈ m ++ l := fun q hq => List.mem_append_right _ (h q hq)
theorem sub_l {a m l : Led} (h : ∀ q ∈ a, q ∈ m) : ∀ q ∈ a, q ∈ m ++ l := fun q hq => List.mem_append_left _ (h q hq)
theorem mem_r {m l : Led} {p : Addr × Obj} (h : p ∈ l) : p ∈ m ++ l := List.mem_append_right _ h
theorem mem_tl {l : Led} {p q : Addr × Obj} (h : p ∈ l) : p ∈ q :: l := .tail _ h
theorem news_sub {h₀ h : Heap} {L : Addr} {l l' : Led} (N : News h₀ L h l) (k : ∀ q ∈ l', q ∈ l) : News h₀ L h l' := fun q hq => N q (k q hq)
theorem all_nil {P : Addr × Obj → Prop} : ∀ q ∈ ([] : Led), P q := fun _ h => (nomatch h)
theorem all_cons {P : Addr × Obj → Prop} {l : Led} {p : Addr × Obj} (h1 : P p) (h2 : ∀ q ∈ l, P q) : ∀ q ∈ p :: l, P q := List.forall_mem_cons.mpr ⟨h1, h2⟩
theorem all_app {P : Addr × Obj → Prop} {a b : Led} (h1 : ∀ q ∈ a, P q) (h2 : ∀ q ∈ b, P q) : ∀ q ∈ a ++ b, P q := fun q hq => (List.mem_append.mp hq).elim (h1 q) (h2 q)
theorem int_below {P : Int → Prop} {k : Nat} (h : ∀ i : Nat, i < k → P i) {n : Int} (h0 : 0 ≤ n) (h1 : n < k) : P n := by
  obtain ⟨m, rfl⟩ := Int.eq_ofNat_of_zero_le h0
  exact h m (Int.ofNat_lt.mp h1)
section
variable {M : Model} {A : Around} {E : Value → Shared → Prop} {s : Shared} {h₀ : Heap} {L a : Addr} {m : Str → Option Value} {cn : Str} {cs : Scope} {ccd : Value} {cl : List (Str × Addr)}
  {x : Str} {v : Value} {news : Led} {env : Env}
theorem execs_consL {st : Stmt} {rest : List Stmt} {Q : Flow → Shared → Prop}
    (h : let qs : Flow → Shared → Prop := fun f s' => match f with | .next => wpAny M A (execs rest env) Q E s' | f => Q f s'; wpAny M A (exec st env) qs E s) :
    wpAny M A (execs (st :: rest) env) Q E s := wpAny_execs_cons h
theorem stT {Q : Unit → Shared → Prop} (F : Fr h₀ L s.heap m) (N : News h₀ L s.heap news)
    (h : let m' : Str → Option Value := fun y => if y = x then some v else m y; let n' : Led := news; ∀ (h' : Heap) (tk' : Nat), Fr h₀ L h' m' → News h₀ L h' n' → Q () { s with heap := h', toks := tk' })
    (hk : cs.kind = .function := by rfl) (hx : (envX cn cs L a ccd cl).kindOf x = some .local := by rfl) : wpAny M A (storeName (envX cn cs L a ccd cl) x v) Q E s := storeX_L F N (fun h' F' N' => h h' _ F' N') hk hx
theorem listL {vs : List Value} {Q : Value → Shared → Prop} (F : Fr h₀ L s.heap m) (N : News h₀ L s.heap news)
    (h : ∀ l h', let n' : Led := (l, listOf vs.toArray 0) :: news; Fr h₀ L h' m → News h₀ L h' n' → (∀ p ∈ news, p.1 < l) → Q (.ref l) { s with heap := h' }) (hsz : vs.length ≤ sizeLine := by size_fits) : wpAny M A (newList vs) Q E s :=
  newList_K F N (fun l h' F' N' k => h l h' F' N' k) hsz
theorem tupL {vs : List Value} {Q : Value → Shared → Prop} (F : Fr h₀ L s.heap m) (N : News h₀ L s.heap news)
    (h : ∀ D h', let n' : Led := (D, ({ cls := .type "tuple", data := .seq vs.toArray } : Obj)) :: news; Fr h₀ L h' m → News h₀ L h' n' → (∀ p ∈ news, p.1 < D) → Q (.ref D) { s with heap := h' }) (hz : vs.length ≤ sizeLine) : wpAny M A (newTuple vs) Q E s :=
  kup_newTuple F N (fun l h' F' N' k => h l h' F' N' k) hz
end
section
variable {prog : Program} {w : World} {A A₀ : Around} {E : Value → Shared → Prop} {s : Shared} {K : Frag} {C L x dx D : Addr} {ox : Obj} {es es' : List DictEntry} {n n' : Nat} {name : Str} {v : Value} {h₀ : Heap} {m : Str → Option Value} {news news' : List (Addr × Obj)}
theorem appL {its : Array Value} {n : Nat} {x : Value} {Q : Value → Shared → Prop} (F : Fr h₀ L s.heap m) (N : News h₀ L s.heap news) (U : Upd D (listOf its n) (listOf (its.push x) (n + 1)) news news')
    (h : let n' : Led := news'; ∀ h', Fr h₀ L h' m → News h₀ L h' n' → Q .none { s with heap := h' }) (hsz : its.size ≤ sizeLine := by size_fits) : wpAny (model prog w) A (call (.builtin "list.append") [.ref D, x]) Q E s := append_K F N U h hsz
theorem setL {Q : Unit → Shared → Prop} {t : Tok} (ht : t = s.toks + 1) (F : Fr h₀ L s.heap m) (X₀ : K.In h₀) (N : News h₀ L s.heap news) (I : InstAt s.heap x ox C (some (dictOf es n))) (hd : ox.dict = some dx)
    (hs : findIn K (.ref C) "__setattr__" = some (some (.builtin "object.__setattr__"))) (hp : plainOver K C = true) (ht2 : takerIn K C name = some none) (hh : hasDictIn K C = true) (hl : (getL name es).isSome = true)
    (e : (putL name (PyData.keyHash w.params name) (.str name t) v es, putN name es n) = (es', n')) (U : Upd dx (dictOf es n) (dictOf es' n') news news') (hz : es'.length ≤ 1000)
    (h : let nk : Led := news'; ∀ h' tk', Fr h₀ L h' m → News h₀ L h' nk → Q () { s with heap := h', toks := tk' }) :
    wpAny (model prog w) A (setAttr (.ref x) name v) Q E s := by
  subst ht
  exact set_dict F X₀ N I hd hs hp ht2 hh hl e U hz (fun h' F' N' => h h' _ F' N')
end
end
section
set_option maxHeartbeats 1000000
def tab1 (led : Bool) : SetTable := { mask := 7, place := #[0], dummies := #[], finger := 0, led, moves := 0, plain := true }
def set1 (led : Bool) (t : Tok) : Obj := { cls := .type "set", dict := none, data := .set #[(0, .int 0 t)] 1 (tab1 led) }
def set0 (led : Bool) : Obj := { cls := .type "set", dict := none, data := .set #[] 0 (.fresh 0 0 led) }
section
variable {prog : Program} {w : World} {A : Around} {E : Value → Shared → Prop} {s : Shared} {h₀ : Heap} {L : Addr} {m : Str → Option Value} {news : List (Addr × Obj)}
theorem setAdd_fresh {a : Addr} {led : Bool} {t : Tok} {Q : Bool → Shared → Prop} (ho : s.heap.get? a = some (set0 led))
    (h : Q true { s with heap := s.heap.update a (Obj.putSet #[(0, .int 0 t)] (tab1 led)), toks := s.toks + 1 }) :
    wpAny (model prog w) A (setAdd a (.int 0 t)) Q E s := by
  unfold setAdd
  refine wpAny_holding (wpAny_bind ((intKind prog w).pyHash (k := 0) rfl ?_))
  unfold setAddHashed
  refine wpAny_holding ?_
  show wpAny (model prog w) A (setAddHashedIn a (.int 0 t) (hashInt 0) (99999 + 1)) _ _ _
  rw [show hashInt 0 = 0 from by decide]
  unfold setAddHashedIn
  refine wpAny_bind (wpAny_setState_of ho rfl (by cases led <;> rfl) ?_)
  dsimp only
  rw [if_pos (by simp [byScan, Value.scannable, scanBound])]
  refine wpAny_bind ?_
  unfold setAddByScan
  refine wpAny_bind (wpAny_rule ?_)
  refine wpAny_bind (wpAny_pure ?_)
  dsimp only
  refine wpAny_bind (wpAny_pure ?_)
  have e : layNew (SetTable.fresh 0 0 led) #[] 0 (.int 0 t) = (#[(0, .int 0 t)], tab1 led, false, false) := by cases led <;> rfl
  rw [e]
  dsimp only
  refine wpAny_bind (wpAny_pure ?_)
  rw [if_pos (by cases led <;> rfl)]
  refine wpAny_bind (wpAny_storeSet_of ho rfl ?_)
  rw [if_neg (by cases led <;> decide)]
  exact wpAny_pure (wpAny_pure h)
end
theorem slot_si_next : Slot "set_iterator" "__next__" "set_iterator.__next__" :=
  .of (owner := "set_iterator") (n := "__next__") (by rw [typeLookup_type, builtinLookup_eq_fast]; kernel_rfl) (by decide +kernel) (by decide +kernel) (by decide +kernel)
    (by first | exact .inl (by decide +kernel) | exact .inr (by decide +kernel)) (by rw [isSubtype_type]; kernel_rfl)
theorem entry_si_next : entryFor table "set_iterator.__next__" = some Builtin.«set_iterator.__next__» := entryFor_of_tree (by kernel_rfl)
theorem owner_si : Manifest.owners.lookup (String.ofList ['r', 'o', 't', 'a', 'r', 'e', 't', 'i', '_', 't', 'e', 's'].reverse) = some Manifest.sig_set_iterator := by kernel_rfl
theorem args_si_next (a : Value) : argsOk "set_iterator.__next__" ⟨[a], []⟩ := by
  unfold argsOk; rw [signature?_of (id := "set_iterator.__next__") (n := ['_', '_', 't', 'x', 'e', 'n', '_', '_']) (o := ['r', 'o', 't', 'a', 'r', 'e', 't', 'i', '_', 't', 'e', 's']) (by kernel_rfl) owner_si]; kernel_rfl
theorem slot_si_iter : Slot "set_iterator" "__iter__" "set_iterator.__iter__" :=
  .of (owner := "set_iterator") (n := "__iter__") (by rw [typeLookup_type, builtinLookup_eq_fast]; kernel_rfl) (by decide +kernel) (by decide +kernel) (by decide +kernel)
    (by first | exact .inl (by decide +kernel) | exact .inr (by decide +kernel)) (by rw [isSubtype_type]; kernel_rfl)
theorem args_si_iter (a : Value) : argsOk "set_iterator.__iter__" ⟨[a], []⟩ := by
  unfold argsOk; rw [signature?_of (id := "set_iterator.__iter__") (n := ['_', '_', 'r', 'e', 't', 'i', '_', '_']) (o := ['r', 'o', 't', 'a', 'r', 'e', 't', 'i', '_', 't', 'e', 's']) (by kernel_rfl) owner_si]; kernel_rfl
theorem entry_set_iter : entryFor table "set.__iter__" = some Builtin.«frozenset.__iter__» := entryFor_alias (id' := "frozenset.__iter__") (by rw [fastTable_eq_tree]; kernel_rfl) (by first | rfl | decide +kernel) (by decide +kernel) (by rw [fastTable_eq_tree]; kernel_rfl)
def itAt (d : Addr) (i j : Int) : Obj := { cls := .type "set_iterator", data := .fields #[.int i 0, .int j 0, .ref d, .int 1 0, .int 1 0] }
def placeAt (w : World) : Nat := if w.params.followText "set-order" = true then 0 else 1
def LedOk (w : World) (led : Bool) : Prop := led = true ∨ w.params.followText "set-order" = true
section
variable {prog : Program} {w : World} {A : Around} {E : Value → Shared → Prop} {s : Shared} {h₀ : Heap} {L : Addr} {m : Str → Option Value} {news : List (Addr × Obj)} {d I : Addr} {led : Bool} {t : Tok}
theorem hint_set {r : Addr} {Q : Bool → Shared → Prop} (hT : s.TypeIs (.ref r) "set") (h : Q false s) : wpAny (model prog w) A (Builtin.List.listLengthHint (.ref r)) Q E s := by
  unfold Builtin.List.listLengthHint
  refine wpAny_bind (wpAny_specialOf hT PySem.F.slot_set_len.lookup ?_)
  generalize hid : ("set.__len__" : String) = id0
  wp_delta
  rw [show splitId id0 = some ("set", "__len__") from by subst hid; decide +kernel]
  subst hid
  refine wpAny_bind (wpAny_isInstance (T := "set") (b := true) hT (by rw [isSubtype_type]; kernel_rfl) ?_)
  refine wpAny_ite_split (fun hab => absurd hab (by decide)) (fun _ => ?_)
  refine wpAny_ite_split (fun _ => ?_) (fun hab => absurd (by decide +kernel) hab)
  refine wpAny_bind (wpAny_typeOf hT ?_)
  exact wpAny_pure h
theorem iter_set1 {Q : Value → Shared → Prop} (ho : s.heap.get? d = some (set1 led t))
    (hQ : Q (.ref s.heap.objs.size) { s with heap := s.heap.push (itAt d 0 0) }) : wpAny (model prog w) A (pyIter (.ref d)) Q E s := by
  have hT : s.TypeIs (.ref d) "set" := ⟨_, ho, rfl⟩
  have hf : (tab1 led).fits 1 = true := by cases led <;> rfl
  refine wpAny_pyIter_slot hT PySem.F.slot_set_iter (wpAny_call_entry PySem.F.slot_set_iter hT entry_set_iter ?_ (PySem.F.args_set_iter_1 _))
  unfold Builtin.«frozenset.__iter__»
  refine wpAny_bind (wpAny_pure ?_)
  refine wpAny_bind ?_
  unfold Builtin.Frozenset.sizeOf
  refine wpAny_bind (wpAny_setEntries_of ho rfl hf (wpAny_pure ?_))
  refine wpAny_bind ?_
  refine wpAny_bind (wpAny_setState_of ho rfl hf ?_)
  dsimp only
  unfold setsByText
  refine wpAny_bind (wpAny_bind (wpAny_askSetting (wpAny_pure ?_)))
  refine wpAny_pure ?_
  rw [if_neg (by cases led <;> simp [tab1] <;> (intro _; rfl))]
  refine wpAny_bind (wpAny_pure ?_)
  refine wpAny_bind ?_
  unfold setEpoch
  refine wpAny_bind (wpAny_setState_of ho rfl hf (wpAny_pure ?_))
  refine wpAny_bind ?_
  unfold newFields
  refine wpAny_newObj_type (wpAny_pure ⟨_, rfl, "set_iterator", _, ⟨_, Heap.get?_push_size _ rfl, rfl⟩, slot_si_next.lookup, ?_⟩)
  exact hQ
theorem pick1 {α : Type} (next : Nat → Nat) (x : α) : pickOrder next #[x] = #[x] := by
  unfold pickOrder
  show pickOrder.go next 1 0 [x] #[] = #[x]
  unfold pickOrder.go
  simp [Nat.mod_one]
  rfl
theorem setWalk1 {Q : Array (Int × Value) → Shared → Prop} (hb : w.params.followText "set-order" = true) (ho : s.heap.get? d = some (set1 led t)) (hQ : Q #[(0, .int 0 t)] s) : wpAny (model prog w) A (setWalk d) Q E s := by
  have hf : (tab1 led).fits 1 = true := by cases led <;> rfl
  unfold setWalk setsByText
  refine wpAny_bind (wpAny_setState_of ho rfl hf ?_)
  dsimp only
  refine wpAny_bind (wpAny_bind (wpAny_askSetting (wpAny_pure ?_)))
  dsimp only
  rw [if_pos (show (model prog w).w.params.followText "set-order" = true from hb)]
  refine wpAny_bind (wpAny_askSetting (wpAny_pure ?_))
  rw [pick1]; exact hQ
theorem setNext1 {Q : Option (Value × Nat) → Shared → Prop} (hl : LedOk w led) (ho : s.heap.get? d = some (set1 led t)) (hQ : Q (some (.int 0 t, placeAt w)) s) : wpAny (model prog w) A (setNext d 0 0 1) Q E s := by
  have hf : (tab1 led).fits 1 = true := by cases led <;> rfl
  unfold setNext setsByText
  refine wpAny_bind (wpAny_setState_of ho rfl hf ?_)
  dsimp only
  refine wpAny_bind (wpAny_bind (wpAny_askSetting (wpAny_pure ?_)))
  dsimp only
  by_cases hb : w.params.followText "set-order" = true
  · rw [if_pos (show (model prog w).w.params.followText "set-order" = true from hb), if_neg (by decide)]
    refine wpAny_bind (setWalk1 hb ho ?_)
    refine wpAny_pure ?_
    have : placeAt w = 0 := if_pos hb
    rw [this] at hQ
    exact hQ
  · rw [if_neg (show ¬ (model prog w).w.params.followText "set-order" = true from hb), if_neg (by cases led <;> (intro h; cases h))]
    have hled : led = true := hl.resolve_right hb
    subst hled
    refine wpAny_bind (wpAny_pure ?_)
    refine wpAny_pure ?_
    have : placeAt w = 1 := if_neg hb
    rw [this] at hQ
    exact hQ
theorem setNextEnd {Q : Option (Value × Nat) → Shared → Prop} (hl : LedOk w led) (ho : s.heap.get? d = some (set1 led t)) (hQ : Q none s) : wpAny (model prog w) A (setNext d (placeAt w) 1 1) Q E s := by
  have hf : (tab1 led).fits 1 = true := by cases led <;> rfl
  unfold setNext setsByText
  refine wpAny_bind (wpAny_setState_of ho rfl hf ?_)
  dsimp only
  refine wpAny_bind (wpAny_bind (wpAny_askSetting (wpAny_pure ?_)))
  dsimp only
  by_cases hb : w.params.followText "set-order" = true
  · rw [if_pos (show (model prog w).w.params.followText "set-order" = true from hb), if_neg (by decide)]
    refine wpAny_bind (setWalk1 hb ho ?_)
    exact wpAny_pure hQ
  · rw [if_neg (show ¬ (model prog w).w.params.followText "set-order" = true from hb), if_neg (by cases led <;> (intro h; cases h))]
    have hled : led = true := hl.resolve_right hb
    subst hled
    have : placeAt w = 1 := if_neg hb
    rw [this]
    refine wpAny_bind (wpAny_pure ?_)
    exact wpAny_pure hQ
theorem item_set1 {Q : Option Value → Shared → Prop} (hl : LedOk w led) (hi : s.heap.get? I = some (itAt d 0 0)) (ho : s.heap.get? d = some (set1 led t))
    (hQ : Q (some (.int 0 t)) { s with heap := (s.heap.update I (Obj.mapFields (·.setIfInBounds 0 (rawInt (placeAt w))))).update I (Obj.mapFields (·.setIfInBounds 1 (rawInt 1))) }) :
    wpAny (model prog w) A (pyNext (.ref I)) Q E s := by
  have hT : s.TypeIs (.ref I) "set_iterator" := ⟨_, hi, rfl⟩
  have hf : (tab1 led).fits 1 = true := by cases led <;> rfl
  unfold pyNext
  refine wpAny_bind (wpAny_attempt (wpAny_callSpecial?_slot (name := Str.ofString "__next__") hT slot_si_next
    (wpAny_call_entry slot_si_next hT entry_si_next ?_ (args_si_next _))))
  unfold Builtin.«set_iterator.__next__»
  refine wpAny_bind (wpAny_pure ?_)
  refine wpAny_bind (wpAny_fieldsOf hi rfl ?_)
  dsimp only [itAt]
  refine wpAny_bind (wpAny_setEntries_of ho rfl hf ?_)
  rw [if_neg (by simp)]
  refine wpAny_bind ?_
  refine setNext1 hl ho ?_
  dsimp only
  refine wpAny_bind (wpAny_setField hi rfl (by simp [itAt]) ?_)
  have hi1 := Heap.get?_update_self (Obj.mapFields (·.setIfInBounds 0 (rawInt (placeAt w)))) hi rfl
  refine wpAny_bind (wpAny_setField hi1 rfl (by simp [itAt]) ?_)
  exact wpAny_pure ⟨_, rfl, wpAny_pure hQ⟩
theorem isSub_stop : isSubtype (.type "StopIteration") (.type "StopIteration") = pure true := by rw [isSubtype_type]; kernel_rfl
theorem end_set1 {Q : Option Value → Shared → Prop} (hh : A.handled = none) (hl : LedOk w led) (hi : s.heap.get? I = some (itAt d (placeAt w) 1)) (ho : s.heap.get? d = some (set1 led t))
    (hQ : ∀ h', Heap.ExtBut I s.heap h' → Q none { s with heap := h' }) :
    wpAny (model prog w) A (pyNext (.ref I)) Q E s := by
  have hT : s.TypeIs (.ref I) "set_iterator" := ⟨_, hi, rfl⟩
  have hf : (tab1 led).fits 1 = true := by cases led <;> rfl
  unfold pyNext
  refine wpAny_bind (wpAny_attempt (wpAny_callSpecial?_slot (name := Str.ofString "__next__") hT slot_si_next
    (wpAny_call_entry slot_si_next hT entry_si_next ?_ (args_si_next _))))
  unfold Builtin.«set_iterator.__next__»
  refine wpAny_bind (wpAny_pure ?_)
  refine wpAny_bind (wpAny_fieldsOf hi rfl ?_)
  dsimp only [itAt]
  refine wpAny_bind (wpAny_setEntries_of ho rfl hf ?_)
  rw [if_neg (by simp)]
  refine wpAny_bind ?_
  refine setNextEnd hl ho ?_
  dsimp only
  refine wpAny_bind (wpAny_setField hi rfl (by simp [itAt]) ?_)
  refine wpAny_bind ?_
  simp only [newExc, newTuple]
  refine wpAny_bind (wpAny_newObj_type ?_ (by size_fits))
  refine wpAny_bind (m := firstArgMember _ _) (wpAny_of_eq (a := Value.none) (by first | rfl | (simp only [firstArgMember]; rfl)) ?_)
  refine wpAny_newObj_type ?_ (by size_fits)
  simp only [raiseNew]
  refine wpAny_bind (wpAny_handled ?_)
  rw [show A.in1.handled = none from hh]
  refine wpAny_bind (wpAny_pure (wpAny_throw ?_))
  refine wpAny_bind (wpAny_isInstance (T := "StopIteration") (b := true) ⟨_, Heap.get?_push_size _ rfl, rfl⟩ isSub_stop ?_)
  exact wpAny_pure (hQ _ (((Heap.SameBut.update ..).extBut.push _).push _))
theorem entry_si_iter : entryFor table "set_iterator.__iter__" = some Builtin.«dict_keyiterator.__iter__» := entryFor_alias (id' := "dict_keyiterator.__iter__") (by rw [fastTable_eq_tree]; kernel_rfl) (by first | rfl | decide +kernel) (by decide +kernel) (by rw [fastTable_eq_tree]; kernel_rfl)
theorem self_set1 {i j : Int} {Q : Value → Shared → Prop} (hi : s.heap.get? I = some (itAt d i j)) (hQ : Q (.ref I) s) : wpAny (model prog w) A (pyIter (.ref I)) Q E s := by
  have hT : s.TypeIs (.ref I) "set_iterator" := ⟨_, hi, rfl⟩
  refine wpAny_pyIter_slot hT slot_si_iter (wpAny_call_entry slot_si_iter hT entry_si_iter ?_ (args_si_iter _))
  exact wpAny_pure ⟨_, rfl, "set_iterator", _, hT, slot_si_next.lookup, hQ⟩
theorem walks_set1 (hh : A.handled = none) (hl : LedOk w led) (hne : d ≠ I) : Walks prog w A I [I, d] [I] 1 (fun _ v => v = .int 0 t)
    (fun i h => h.get? I = some (itAt d (if i = 0 then 0 else (placeAt w : Int)) i) ∧ h.get? d = some (set1 led t)) where
  sub := fun b hb => by simp at hb; simp [hb]
  frame := fun _ _ _ st hk => ⟨hk I (by simp) _ st.1, hk d (by simp) _ st.2⟩
  item := fun i s Q E hi st hQ => by
    have : i = 0 := by omega
    subst this
    refine item_set1 hl st.1 st.2 ?_
    have hi1 := Heap.get?_update_self (Obj.mapFields (·.setIfInBounds 0 (rawInt (placeAt w)))) st.1 rfl
    have hi2 := Heap.get?_update_self (Obj.mapFields (·.setIfInBounds 1 (rawInt 1))) hi1 rfl
    refine hQ _ _ s.toks rfl ⟨?_, ?_⟩ fun b o hb e => ?_
    · exact hi2
    · exact (Heap.get?_update_other _ _ (Ne.symm hne)).trans ((Heap.get?_update_other _ _ (Ne.symm hne)).trans st.2)
    · have hb' : I ≠ b := fun h => hb (by simp [h])
      exact (Heap.get?_update_other _ _ hb').trans ((Heap.get?_update_other _ _ hb').trans e)
  done := fun s Q E st hQ => end_set1 hh hl st.1 st.2 fun h' he' => hQ h' s.toks fun b o hb e => he' b o (fun h => hb (by simp [h])) e
  self := fun _ _ _ _ st hQ => self_set1 st.1 hQ
theorem src_set1 (hl : LedOk w led) : KdlSrc prog w "set" d d 1 (fun _ v => v = .int 0 t) (fun h => h.get? d = some (set1 led t)) where
  type := fun _ hm => ⟨_, hm, rfl⟩
  there := fun _ hm => ⟨Heap.lt_size hm, Heap.lt_size hm⟩
  keep := fun _ _ hm hk => hk d (.inl rfl) _ hm
  notList := by decide
  notTuple := by decide
  hint := fun _ _ _ _ hm hq => hint_set ⟨_, hm, rfl⟩ hq
  iter := fun _ _ hh hm => ⟨_, _, (fun _ _ hq => iter_set1 hm hq), walks_set1 hh hl (Nat.ne_of_lt (Heap.lt_size hm)), ⟨Heap.get?_push_size _ rfl, Heap.get?_push_of_some _ hm⟩⟩
theorem sorted_set1 {Q : Value → Shared → Prop} (hh : A.handled = none) (hl : LedOk w led) (F : Fr h₀ L s.heap m) (N : News h₀ L s.heap news) (hd : (d, set1 led t) ∈ news)
    (h : ∀ (D : Addr) (h' : Heap) (tk n u : Nat), Fr h₀ L h' m → News h₀ L h' ((D, listOf #[.int 0 u] n) :: news) → (∀ q ∈ news, q.1 < D) → Q (.ref D) { s with heap := h', toks := tk }) :
    wpAny (model prog w) A (call (.builtin "sorted") [.ref d]) Q E s := by
  refine kdu_sorted (src_set1 (t := t) hl) hh F N (N _ hd).1 (by decide +kernel) fun D h' tk vs F' N' l1 e hv => ?_
  have hvs : vs = [.int 0 t] := by
    obtain ⟨v, rfl⟩ := List.length_eq_one_iff.mp e
    rw [hv 0 v rfl]
  subst hvs
  have hD := (N' _ (.head _)).1
  refine wpAny_call_entry slot_list_sort ⟨_, hD, rfl⟩ entry_list_sort ?_ (args_list_sort _)
  refine list_sort_tree (vs := [.int 0 t]) (ns := [0]) hD (.cons 0 t .nil) (by simp) fun out ns' hI hp _ => ?_
  have hn : ns' = [0] := List.perm_singleton.mp hp
  subst hn
  obtain ⟨u, rfl⟩ : ∃ u, out = #[.int 0 u] := by
    obtain ⟨l⟩ := out
    cases hI with
    | cons _ u hr => cases hr; exact ⟨u, rfl⟩
  have hlt : D < h'.objs.size := Heap.lt_size hD
  have old : ∀ b o, b ≠ D → h'.get? b = some o → (sortedHeap h' D [.int 0 t] #[.int 0 u]).get? b = some o := fun b o hb e => (sortedHeap_old hb (Heap.lt_size e)).trans e
  obtain ⟨e', he'⟩ := sortedHeap_at (out := #[.int 0 u]) hD
  have hDn : D ≠ L := (N' _ (.head _)).2.1
  have hD0 : h₀.get? D = none := (N' _ (.head _)).2.2
  obtain ⟨oL, a1, a2, hL, a3⟩ := F'.ns
  refine ⟨_, rfl, h D _ _ e' u ⟨⟨oL, a1, a2, old _ _ (Ne.symm hDn) hL, a3⟩, fun b o e => old b o (fun hb => by rw [hb, hD0] at e; cases e) (F'.keep b o e), F'.above⟩ (fun p hp => ?_) l1⟩
  rcases List.mem_cons.mp hp with rfl | hp
  · exact ⟨he', hDn, hD0⟩
  · have hx := N' p (.tail _ hp)
    exact ⟨old _ _ (Nat.ne_of_lt (l1 p hp)) hx.1, hx.2⟩
theorem newSet_led {Q : Value → Shared → Prop} (h : Q (.ref s.heap.objs.size) { s with heap := s.heap.push (set0 (!w.params.followText "set-order")) }) : wpAny (model prog w) A (newSet (.type "set")) Q E s := by
  unfold newSet setsByText
  refine wpAny_bind (wpAny_bind (wpAny_askSetting (wpAny_pure ?_)))
  exact wpAny_newObj_type h
theorem disp1 {T : Sem Value} {b : Bool} {Q : Value → Shared → Prop} (hT : ∀ (s : Shared) (R : Value → Shared → Prop), R (.int 0 s.toks) { s with toks := s.toks + 1 } → wpAny (model prog w) A T R E s)
    (h : Q (.ref s.heap.objs.size) { s with heap := (s.heap.push (set0 (!w.params.followText "set-order"))).update s.heap.objs.size (Obj.putSet #[(0, .int 0 s.toks)] (tab1 (!w.params.followText "set-order"))), toks := s.toks + 1 + 1 }) :
    wpAny (model prog w) A (setDisplay .oneByOne b [(false, T)]) Q E s := by
  unfold setDisplay
  rw [if_neg (by decide)]
  refine wpAny_bind (newSet_led ?_)
  refine wpAny_bind (wpAny_holding ?_)
  refine wpAny_bind ?_
  show wpAny (model prog w) A (evalAll [T]) _ _ _
  unfold evalAll
  refine wpAny_bind (hT _ _ ?_)
  refine wpAny_bind (wpAny_holding (wpAny_pure ?_))
  refine wpAny_pure ?_
  refine wpAny_bind (wpAny_holding ?_)
  have hg : (s.heap.push (set0 (!w.params.followText "set-order"))).get? s.heap.objs.size = some (set0 (!w.params.followText "set-order")) := Heap.get?_push_size _ rfl
  rw [List.forIn_cons]
  refine wpAny_bind (wpAny_bind (wpAny_bind ?_))
  refine setAdd_fresh (led := !w.params.followText "set-order") hg ?_
  refine wpAny_pure ?_
  dsimp only
  rw [List.forIn_nil]
  refine wpAny_pure ?_
  rw [if_neg (by decide)]
  refine wpAny_pure ?_
  refine wpAny_bind ?_
  show wpAny (model prog w) A (forIn [] _ _) _ _ _
  rw [List.forIn_nil]
  exact wpAny_pure (wpAny_pure (wpAny_pure h))
theorem eval_set0 {K : Frag} {k : Nat} {p1 p2 : Pos} {env : Env} {Q : Value → Shared → Prop} (F : Fr h₀ L s.heap m) (N : News h₀ L s.heap news) (X : K.In h₀) (hc : kdsCode K env.code = true)
    (h : ∀ (D : Addr) (h' : Heap) (tk u : Nat) (led : Bool), LedOk w led → Fr h₀ L h' m → News h₀ L h' ((D, set1 led u) :: news) → (∀ q ∈ news, q.1 < D) → Q (.ref D) { s with heap := h', toks := tk }) :
    wpAny (model prog w) A (eval (.Set [.Constant (.int 0) k p1] 0 p2) env) Q E s := by
  rw [arm_eval_Set]
  refine wpAny_bind (wpAny_standAt ?_)
  refine wpAny_bind (kds_main (X.keeps F.keep) hc fun b => ?_)
  show wpAny (model prog w) A (setDisplay .oneByOne b [(false, do let v ← eval (.Constant (.int 0) k p1) env; standAt p2; pure v)]) Q E s
  refine disp1 (fun s R hR => wpAny_bind (wpAny_Constant_int (wpAny_bind (wpAny_standAt (wpAny_pure hR))))) ?_
  have hg : (s.heap.push (set0 (!w.params.followText "set-order"))).get? s.heap.objs.size = some (set0 (!w.params.followText "set-order")) := Heap.get?_push_size _ rfl
  have hg2 := Heap.get?_update_self (Obj.putSet #[(0, .int 0 s.toks)] (tab1 (!w.params.followText "set-order"))) hg rfl
  have F1 := F.push (set0 (!w.params.followText "set-order"))
  have N1 := News.push F N (set0 (!w.params.followText "set-order")) rfl
  have hx := N1 _ (.head _)
  have old : ∀ b o, b ≠ s.heap.objs.size → (s.heap.push (set0 (!w.params.followText "set-order"))).get? b = some o → ((s.heap.push (set0 (!w.params.followText "set-order"))).update s.heap.objs.size (Obj.putSet #[(0, .int 0 s.toks)] (tab1 (!w.params.followText "set-order")))).get? b = some o := fun b o hb e => (Heap.get?_update_other _ _ (Ne.symm hb)).trans e
  obtain ⟨oL, a1, a2, hL, a3⟩ := F1.ns
  refine h _ _ _ s.toks (!w.params.followText "set-order") ?_ ⟨⟨oL, a1, a2, old _ _ (Ne.symm hx.2.1) hL, a3⟩, fun b o e => old b o (fun hb => by rw [hb, hx.2.2] at e; cases e) (F1.keep b o e), F1.above⟩ (fun p hp => ?_) (fun p hp => Heap.lt_size (N p hp).1)
  · unfold LedOk
    cases w.params.followText "set-order" <;> simp
  · rcases List.mem_cons.mp hp with rfl | hp
    · exact ⟨hg2, hx.2⟩
    · have hy := N1 p (.tail _ hp)
      exact ⟨old _ _ (Nat.ne_of_lt (Heap.lt_size (N p hp).1)) hy.1, hy.2⟩
end
end
section
open PySem PySem.W PyProof.Rows PySem.Calls PySem.Spec PyProof.V
set_option maxHeartbeats 1000000
abbrev PDs := List (PyData × PyData)
def DictS (prog : Program) (w : World) (o : Obj) (D : PDs) : Prop := ∃ kvs, o.IsDictOf (PySem.strKind prog w) kvs ∧ FlatPairs PyData.str kvs D
section
variable {prog : Program} {w : World} {A : Around} {E : Value → Shared → Prop} {s : Shared} {env : Env} {h₀ : Heap} {x : Str} {body : List Stmt} {Q : Flow → Shared → Prop} {L : Nat} {m : Str → Option Value}
theorem For_k {px pos : Pos} {iter : PySem.Expr} (F : Fr h₀ L s.heap m) (hx : env.kindOf x = some .local)
    (hp : (env.scope.kind == .class || (env.scope.kind == .module && env.locals != env.globals)) = false)
    (h : wpAny (model prog w) A (eval iter env) (fun xv s₁ => wpAny (model prog w) A (pyIter xv) (fun it s₂ => LoopAtV prog w A h₀ env x body Q E it s₂) E s₁) E s)
    (hs : ∀ x, foldedSetIterable iter env x = pure x) (hE : PassesOwn (model prog w) A env E) :
    wpAny (model prog w) A (exec (.For (.Name x px) iter body [] pos) env) Q E s := For_invV h₀ hx hp h hs hE
theorem strsA_get {vs : List Value} {xs : List Str} (h0 : StrsAre vs xs) : ∀ {i : Nat} {v : Value}, vs[i]? = some v → ∃ y t, v = .str y t ∧ xs[i]? = some y := by
  induction h0 with
  | nil => intro i v h; simp at h
  | cons y t r ih =>
    intro i v h
    cases i with
    | zero => exact ⟨y, t, (Option.some.inj h).symm, rfl⟩
    | succ i => exact ih h
theorem strsA_len {vs : List Value} {xs : List Str} (h : StrsAre vs xs) : vs.length = xs.length := by
  induction h with
  | nil => rfl
  | cons y t r ih => exact congrArg (· + 1) ih
theorem foldS_len (step : Str → PDs → PDs) (hst : ∀ n D, (step n D).length ≤ D.length + 2) : ∀ (xs : List Str) (D : PDs), (xs.foldl (fun D n => step n D) D).length ≤ D.length + 2 * xs.length
  | [], D => Nat.le_refl _
  | n :: r, D => by
    have h1 := foldS_len step hst r (step n D)
    have h2 := hst n D
    simp only [List.foldl_cons, List.length_cons]
    omega
def TurnEnd (prog : Program) (w : World) (h₀ : Heap) (L : Addr) (s : Shared) (m : Str → Option Value) (own rest : List (Addr × Obj)) (d : Addr) (D : PDs) (f : Flow) (s₂ : Shared) : Prop :=
  f = .next ∧ ∃ h' tk' o', s₂ = { s with heap := h', toks := tk' } ∧ Fr h₀ L h' m ∧ News h₀ L h' (own ++ (d, o') :: rest) ∧ DictS prog w o' D
theorem TurnEnd.intro {h₀ : Heap} {L : Addr} {own rest : List (Addr × Obj)} {d : Addr} {D : PDs} {h' : Heap} {tk' : Nat} {o' : Obj} (F : Fr h₀ L h' m) (N : News h₀ L h' (own ++ (d, o') :: rest)) (hd : DictS prog w o' D) :
    TurnEnd prog w h₀ L s m own rest d D .next { s with heap := h', toks := tk' } := ⟨rfl, h', tk', o', rfl, F, N, hd⟩
theorem iter_strs {l d : Addr} {vs : List Value} {xs : List Str} {m₀ : Str → Option Value} {rest : List (Addr × Obj)} {o : Obj} {D : PDs} (step : Str → PDs → PDs) (hst : ∀ n D, (step n D).length ≤ D.length + 2)
    (hL : env.locals = L) (hh : A.handled = none) (F : Fr h₀ L s.heap m₀) (N : News h₀ L s.heap ((l, { cls := .type "tuple", data := .seq vs.toArray }) :: (d, o) :: rest)) (hd : DictS prog w o D) (hi : StrsAre vs xs) (hb : D.length + 2 * xs.length ≤ 1000)
    (turn : ∀ n t D o u h tk own, n ∈ xs → D.length ≤ 1000 → DictS prog w o D → Fr h₀ L h (fun y => if y = x then some (.str n t) else if y = x then u else m₀ y) → News h₀ L h (own ++ (d, o) :: rest) → (∀ p ∈ own, p.1 ≠ d) →
      wpAny (model prog w) A (execs body env) (TurnEnd prog w h₀ L s (fun y => if y = x then some (.str n t) else if y = x then u else m₀ y) own rest d (step n D)) E { s with heap := h, toks := tk })
    (done : ∀ h tk o u, DictS prog w o (xs.foldl (fun D n => step n D) D) → Fr h₀ L h (fun y => if y = x then u else m₀ y) → News h₀ L h ((d, o) :: rest) → Q .next { s with heap := h, toks := tk }) :
    wpAny (model prog w) A (pyIter (.ref l)) (fun it s₂ => LoopAtV prog w A h₀ env x body Q E it s₂) E s := by
  subst hL
  have hol := (N _ (.head _)).1
  have ht : s.heap.IsTuple l vs.toArray := ⟨_, hol, rfl, _, rfl⟩
  have hne : l ≠ s.heap.objs.size := Nat.ne_of_lt (Heap.lt_size hol)
  refine wpAny_pyIter_tuple ht ?_
  have W := Walks.tuple (prog := prog) (w := w) hh s.heap.objs.size l hne vs.toArray
  have hlen : vs.toArray.size = xs.length := by simp [strsA_len hi]
  have Nr : News h₀ env.locals s.heap ((d, o) :: rest) := fun p hp => N p (.tail _ hp)
  obtain ⟨kvs0, hdo, _⟩ := id hd
  have hold := (Nr _ (.head _)).1
  have hld : l ≠ d := fun e => by
    rw [← e, hol] at hold
    obtain ⟨_, _, hx, _⟩ := hdo
    have h1 := hx.1
    have ee : _ = o := Option.some.inj hold
    rw [← ee] at h1
    simp at h1
  refine ⟨_, _, _, vs.toArray.size, _, _, m₀, (d, o) :: rest, (fun i m₁ news₁ => ∃ o u, news₁ = (d, o) :: rest ∧ DictS prog w o ((xs.take i).foldl (fun D n => step n D) D) ∧ m₁ = fun y => if y = x then u else m₀ y), rfl, W, ?_, ?_, ?_, ⟨⟨_, Heap.get?_push_size _ rfl, rfl, rfl⟩, ht.at fun o e => Heap.get?_push_of_some _ e⟩, F.push _, (fun p hp => ⟨Heap.get?_push_of_some _ (Nr p hp).1, (Nr p hp).2⟩), ⟨o, m₀ x, rfl, hd, ?_⟩, ?_, ?_⟩
  · intro hm
    rcases List.mem_cons.mp hm with e | hm
    · exact absurd F.ns.lt (e ▸ Nat.lt_irrefl _)
    · exact (N _ (.head _)).2.1 ((List.mem_singleton.mp hm).symm)
  · intro b hb'
    rw [List.mem_singleton.mp hb']
    exact next_is_new F
  · intro p hp hI
    exact absurd (Heap.lt_size (Nr p hp).1) ((List.mem_singleton.mp hI) ▸ Nat.lt_irrefl _)
  · funext y
    by_cases e : y = x
    · rw [if_pos e, e]
    · rw [if_neg e]
  · rintro i v m₁ news₁ s₁ own ⟨hh', tk', rfl⟩ hin hP ⟨o₁, u, rfl, hD₁, rfl⟩ hoff hown hget hfp _ F₁ N₁
    have hP' : vs[i]? = some v := by simpa using hP
    obtain ⟨n, t, rfl, hn⟩ := strsA_get hi hP'
    have hi' : i < xs.length := by rw [← hlen]; exact hin
    have hofs : ∀ p ∈ own, p.1 ≠ d := fun p hp e => by
      rcases List.mem_cons.mp (hown p hp) with e' | e'
      · exact absurd (Heap.lt_size hold) (by rw [← e, e']; exact Nat.lt_irrefl _)
      · exact hld ((List.mem_singleton.mp e').symm.trans e)
    have hb1 := foldS_len step hst (xs.take i) D
    have hb2 : (xs.take i).length ≤ xs.length := by rw [List.length_take]; omega
    refine wpAny_mono (turn n t _ o₁ u hh' tk' own (List.mem_of_getElem? hn) (by omega) hD₁ F₁ N₁ hofs) (fun f s₂ p => ?_) fun _ _ e => e
    obtain ⟨rfl, h', tk2, o', rfl, F', N', hD'⟩ := p
    refine LoopStepV.next (LoopStepU.intro F' N' (fun p hp hI => ?_) ⟨o', some (.str n t), rfl, ?_, ?_⟩)
    · have hp' : p.1 = d ∨ p ∈ rest := by
        rcases List.mem_cons.mp hp with rfl | hp
        · exact .inl rfl
        · exact .inr hp
      have hI' := List.mem_singleton.mp hI
      rcases hp' with e | hp'
      · exact absurd (Heap.lt_size hold) (by rw [← e, hI']; exact Nat.lt_irrefl _)
      · exact absurd (Heap.lt_size (Nr p (.tail _ hp')).1) (by rw [hI']; exact Nat.lt_irrefl _)
    · have e : xs.take (i + 1) = xs.take i ++ [n] := by rw [List.take_add_one, hn]; rfl
      rw [e, List.foldl_append]
      exact hD'
    · funext y
      by_cases e : y = x
      · simp [e]
      · simp [e]
  · rintro h' tk m' news' F' N' _ ⟨o', u, rfl, hD', rfl⟩
    rw [hlen, List.take_length] at hD'
    exact done h' tk o' u hD' F' N'
end
end
section
open PySem PySem.W PyProof.Rows PySem.Calls PySem.Spec PyProof.V
set_option maxHeartbeats 1000000
structure Nx (prog : Program) (w : World) (I : Addr) (fp : List Addr) (n : Nat) (P : Nat → Value → Prop) (St : Nat → Heap → Prop) : Prop where
  here : ∀ i h, St i h → ∃ o, h.get? I = some o
  frame : ∀ i h h', St i h → (∀ b ∈ fp, ∀ o, h.get? b = some o → h'.get? b = some o) → St i h'
  item : ∀ (A : Around) (i : Nat) (s : Shared) (Q E : Value → Shared → Prop), i < n → St i s.heap → (∀ x h' tk, P i x → St (i + 1) h' → Heap.SameBut I s.heap h' → Q x { s with heap := h', toks := tk }) → wpAny (model prog w) A (Builtin.SmallTypes.nextOf (.ref I)) Q E s
  done : ∀ (A : Around) (s : Shared) (Q E : Value → Shared → Prop), A.handled = none → St n s.heap → (∀ h' e, Heap.ExtBut I s.heap h' → (∃ o, h'.get? e = some o ∧ o.cls = .type "StopIteration") → E (.ref e) { s with heap := h' }) → wpAny (model prog w) A (Builtin.SmallTypes.nextOf (.ref I)) Q E s
section
variable {prog : Program} {w : World} {A : Around} {E : Value → Shared → Prop} {s : Shared}
theorem nextOf_tuple_item {it t : Addr} {i : Nat} {items} {x : Value} {Q : Value → Shared → Prop} (hit : s.heap.IsTupleIter it t i) (ht : s.heap.IsTuple t items) (hx : items[i]? = some x)
    (hQ : ∀ h', h'.IsTupleIter it t (i + 1) → Heap.SameBut it s.heap h' → Q x { s with heap := h' }) : wpAny (model prog w) A (Builtin.SmallTypes.nextOf (.ref it)) Q E s := by
  obtain ⟨o, ho, hc, hd⟩ := id hit
  obtain ⟨ol, hol, _, nl, hdl⟩ := ht
  unfold Builtin.SmallTypes.nextOf
  refine wpAny_bind (wpAny_callSpecial?_slot (name := Str.ofString "__next__") hit.typeIs PySem.F.slot_tuple_iterator_next
    (wpAny_call_entry PySem.F.slot_tuple_iterator_next hit.typeIs PySem.F.entry_tuple_iterator_next ?_ (PySem.F.args_tuple_iterator_next_1 _)))
  show wpAny _ _ (field (.ref it) 0 >>= _) _ _ s
  refine wpAny_bind (wpAny_field ho hd (x := .ref t) rfl ?_)
  show wpAny _ _ (if (Value.ref t == Value.none) = true then _ else _) _ _ s
  rw [if_neg (show ¬ ((Value.ref t == Value.none) = true) from Bool.false_ne_true)]
  show wpAny _ _ (field (.ref it) 1 >>= _) _ _ s
  refine wpAny_bind (wpAny_field ho hd (x := .int i 0) rfl ?_)
  show wpAny _ _ (seqItems? (.ref t) >>= _) _ _ s
  refine wpAny_bind (wpAny_seqItems hol hdl ?_)
  simp only [Int.toNat_natCast, hx]
  refine wpAny_bind (wpAny_setField ho hd (by simp) (wpAny_pure ⟨x, rfl, wpAny_pure (hQ _ ?_ (Heap.SameBut.update ..))⟩))
  exact ⟨_, Heap.get?_update_self _ ho (Obj.isFreed_of_fields (Obj.data_mapFields hd _)), (Obj.cls_mapFields ..).trans hc, by
    rw [Obj.data_mapFields hd]; simp [rawInt]⟩
theorem nx_str (I : Addr) (x : Str) (t : Tok) : ∃ E : Nat → Heap → Prop, E = (fun i h => h.IsStrIter I "str_ascii_iterator" x t i) ∧ Nx prog w I [I] x.cps.size (SignAt x) E := ⟨_, rfl, {
  here := fun i h ⟨o, ho, _⟩ => ⟨o, ho⟩
  frame := fun i h h' ⟨o, ho, r⟩ hk => ⟨o, hk I (.head _) o ho, r⟩
  item := fun A i s Q E hi st hQ => wpAny_nextOf_ascii_item (c := x.cps[i]) st (by simp [hi]) fun h' st' sb => hQ _ _ _ ⟨x.cps[i], s.toks, by simp [hi], rfl⟩ st' sb
  done := fun A s Q E hh st hE => wpAny_nextOf_ascii_end hh st (by simp) hE }⟩
structure Ny (prog : Program) (w : World) (I : Addr) (fp : List Addr) (n : Nat) (P : Nat → Value → Prop) (St : Nat → Heap → Prop) : Prop where
  here : ∀ i h, St i h → ∃ o, h.get? I = some o
  frame : ∀ i h h', St i h → (∀ b ∈ fp, ∀ o, h.get? b = some o → h'.get? b = some o) → St i h'
  item : ∀ (A : Around) (i : Nat) (s : Shared) (Q E : Value → Shared → Prop), i < n → St i s.heap → (∀ x h' tk, P i x → St (i + 1) h' → Heap.SameBut I s.heap h' → Q x { s with heap := h', toks := tk }) → wpAny (model prog w) A (Builtin.SmallTypes.nextOf (.ref I)) Q E s
theorem ny_tuple (I l : Addr) (hne : l ≠ I) (ys : Array Value) : Ny prog w I [I, l] ys.size (fun i v => ys[i]? = some v) (fun i h => h.IsTupleIter I l i ∧ h.IsTuple l ys) where
  here := fun i h st => let ⟨o, ho, _⟩ := st.1; ⟨o, ho⟩
  frame := fun i h h' st hk => ⟨st.1.at fun o e => hk I (by simp) o e, st.2.at fun o e => hk l (by simp) o e⟩
  item := fun A i s Q E hi st hQ => nextOf_tuple_item (x := ys[i]) st.1 st.2 (by simp [hi]) fun h' st' sb => hQ _ _ s.toks (by simp [hi]) ⟨st', st.2.extBut sb.extBut hne⟩ sb

def ZSt (z TI TO i1 i2 : Addr) (S1 S2 : Nat → Heap → Prop) (f0 : Value) (i : Nat) (h : Heap) : Prop :=
  IsZip h z TI TO f0 ∧ IsPair h TI (.ref i1) (.ref i2) ∧ (∃ a b, IsPair h TO a b) ∧ S1 i h ∧ S2 i h
structure ZOff (z TI TO i1 i2 l : Addr) : Prop where
  TIz : TI ≠ z
  TOz : TO ≠ z
  i1z : i1 ≠ z
  i2z : i2 ≠ z
  TITO : TI ≠ TO
  TIi1 : TI ≠ i1
  TIi2 : TI ≠ i2
  TOi1 : TO ≠ i1
  TOi2 : TO ≠ i2
  i12 : i1 ≠ i2
  lz : l ≠ z
  lTO : l ≠ TO
  li1 : l ≠ i1
  li2 : l ≠ i2
theorem zst_item {z TI TO i1 i2 l : Addr} {n i : Nat} {P1 P2 : Nat → Value → Prop} {S1 S2 : Nat → Heap → Prop} {Q : Value → Shared → Prop} (D : ZOff z TI TO i1 i2 l)
    (N1 : Nx prog w i1 [i1] n P1 S1) (N2 : Ny prog w i2 [i2, l] n P2 S2) (hi : i < n) (st : ZSt z TI TO i1 i2 S1 S2 .none i s.heap)
    (hQ : ∀ h' tk x y, P1 i x → P2 i y → ZSt z TI TO i1 i2 S1 S2 (rawInt s.heap.objs.size) (i + 1) h' → IsPair h' s.heap.objs.size x y →
      (∀ c o, c ≠ z → c ≠ TO → c ≠ i1 → c ≠ i2 → s.heap.get? c = some o → h'.get? c = some o) → Q (.ref s.heap.objs.size) { s with heap := h', toks := tk }) :
    wpAny (model prog w) A (Builtin.«zip.__next__» ⟨[.ref z], []⟩) (fun fin s' => ∃ v, fin = .done (.ret v) ∧ Q v s') E s := by
  obtain ⟨hz, hTI, ⟨a, b, hTO⟩, h1, h2⟩ := st
  show wpAny _ _ (field (.ref z) 2 >>= _) _ _ _
  refine wpAny_bind (wpAny_field hz rfl (x := .bool false) rfl ?_)
  show wpAny _ _ (field (.ref z) 3 >>= _) _ _ _
  refine wpAny_bind (wpAny_field hz rfl (x := .ref TI) rfl ?_)
  refine wpAny_bind (wpAny_seqItems hTI rfl ?_)
  show wpAny _ _ (Builtin.SmallTypes.ownedTupleIsFree (.ref z) >>= _) _ _ _
  refine wpAny_bind ?_
  unfold Builtin.SmallTypes.ownedTupleIsFree
  refine wpAny_bind (wpAny_field hz rfl (x := .none) rfl (wpAny_pure ?_))
  simp only [if_true]
  refine wpAny_bind (wpAny_rule ?_)
  refine wpAny_bind (wpAny_field hz rfl (x := .ref TO) rfl ?_)
  refine wpAny_bind (wpAny_setField_rec hz (by simp) fun ha hza hsa => ?_)
  replace hza : IsZip ha z TI TO .ellipsis := hza
  have s1a : S1 i ha := N1.frame _ _ _ h1 fun b hb o e => by
    rw [List.mem_singleton.mp hb] at e ⊢; exact hsa.extBut _ _ D.i1z e
  have s2a : S2 i ha := N2.frame _ _ _ h2 fun b hb o e => by
    rcases List.mem_cons.mp hb with rfl | hb
    · exact hsa.extBut _ _ D.i2z e
    · rw [List.mem_singleton.mp hb] at e ⊢; exact hsa.extBut _ _ D.lz e
  have hTOa : IsPair ha TO a b := hsa.extBut _ _ D.TOz hTO
  refine wpAny_bind ?_
  simp only [List.zipIdx_cons, List.zipIdx_nil, List.forIn_cons, List.forIn_nil]
  refine wpAny_bind (wpAny_bind (wpAny_onRaise ?_))
  show wpAny _ _ (Builtin.SmallTypes.nextOf (.ref i1) >>= _) _ _ _
  refine wpAny_bind (N1.item _ i _ _ _ hi s1a fun x hb tkb px s1b hsb => wpAny_pure ?_)
  have hTOb : IsPair hb TO a b := hsb.extBut _ _ D.TOi1 hTOa
  refine wpAny_bind (wpAny_seqItems hTOb rfl ?_)
  refine wpAny_bind (wpAny_updateSeq_pair hTOb fun hc hTOc hsc => ?_)
  replace hTOc : IsPair hc TO x b := hTOc
  refine wpAny_bind (wpAny_letGo (wpAny_pure ?_))
  have s2c : S2 i hc := N2.frame _ _ _ s2a fun b hb' o e => by
    rcases List.mem_cons.mp hb' with rfl | hb'
    · exact hsc.extBut _ _ D.TOi2.symm (hsb.extBut _ _ D.i12.symm e)
    · rw [List.mem_singleton.mp hb'] at e ⊢; exact hsc.extBut _ _ D.lTO (hsb.extBut _ _ D.li1 e)
  have s1c : S1 (i + 1) hc := N1.frame _ _ _ s1b fun b hb' o e => by
    rw [List.mem_singleton.mp hb'] at e ⊢; exact hsc.extBut _ _ D.TOi1.symm e
  refine wpAny_bind (wpAny_bind (wpAny_onRaise ?_))
  show wpAny _ _ (Builtin.SmallTypes.nextOf (.ref i2) >>= _) _ _ _
  refine wpAny_bind (N2.item _ i _ _ _ hi s2c fun y hd tkd py s2d hsd => wpAny_pure ?_)
  have hTOd : IsPair hd TO x b := hsd.extBut _ _ D.TOi2 hTOc
  refine wpAny_bind (wpAny_seqItems hTOd rfl ?_)
  refine wpAny_bind (wpAny_updateSeq_pair hTOd fun he hTOe hse => ?_)
  replace hTOe : IsPair he TO x y := hTOe
  refine wpAny_bind (wpAny_letGo (wpAny_pure (wpAny_pure ?_)))
  refine wpAny_bind (wpAny_seqItems hTOe rfl ?_)
  refine wpAny_bind (wpAny_newTuple ?_)
  have hsz : he.objs.size = s.heap.objs.size := by rw [hse.1, hsd.1, hsc.1, hsb.1, hsa.1]
  have hze : IsZip he z TI TO .ellipsis := hse.extBut _ _ D.TOz.symm (hsd.extBut _ _ D.i2z.symm (hsc.extBut _ _ D.TOz.symm (hsb.extBut _ _ D.i1z.symm hza)))
  have hke : ∀ c o, c ≠ z → c ≠ TO → c ≠ i1 → c ≠ i2 → s.heap.get? c = some o → he.get? c = some o := fun c o c1 c2 c3 c4 e =>
    hse.extBut _ _ c2 (hsd.extBut _ _ c4 (hsc.extBut _ _ c2 (hsb.extBut _ _ c3 (hsa.extBut _ _ c1 e))))
  have s1e : S1 (i + 1) he := N1.frame _ _ _ s1c fun b hb' o e => by
    rw [List.mem_singleton.mp hb'] at e ⊢; exact hse.extBut _ _ D.TOi1.symm (hsd.extBut _ _ D.i12 e)
  have s2e : S2 (i + 1) he := N2.frame _ _ _ s2d fun b hb' o e => by
    rcases List.mem_cons.mp hb' with rfl | hb'
    · exact hse.extBut _ _ D.TOi2.symm e
    · rw [List.mem_singleton.mp hb'] at e ⊢; exact hse.extBut _ _ D.lTO e
  have hzlt : z < he.objs.size := Heap.lt_size hze
  show wpAny _ _ (Builtin.SmallTypes.ownedTupleHandOut (.ref z) (.ref he.objs.size) >>= _) _ _ _
  refine wpAny_bind ?_
  unfold Builtin.SmallTypes.ownedTupleHandOut
  have hzf : IsZip (he.push { cls := .type "tuple", data := .seq #[x, y] }) z TI TO .ellipsis := Heap.get?_push_of_some _ hze
  refine wpAny_bind (wpAny_setField_rec hzf (by simp) fun hg hzg hsg => ?_)
  replace hzg : IsZip hg z TI TO (rawInt he.objs.size) := hzg
  refine wpAny_setField_rec hzg (by simp) fun hh hzh hsh => ?_
  replace hzh : IsZip hh z TI TO (rawInt he.objs.size) := hzh
  have up : ∀ c o, c ≠ z → he.get? c = some o → hh.get? c = some o := fun c o c1 e => hsh.extBut _ _ c1 (hsg.extBut _ _ c1 (Heap.get?_push_of_some _ e))
  have hTh : IsPair hh he.objs.size x y := hsh.extBut _ _ (Nat.ne_of_gt hzlt) (hsg.extBut _ _ (Nat.ne_of_gt hzlt) (Heap.get?_push_size _ rfl))
  rw [hsz] at hzh hTh
  refine wpAny_pure ⟨_, rfl, ?_⟩
  show Q (.ref he.objs.size) _
  rw [hsz]
  refine hQ hh _ x y px py ⟨hzh, up _ _ D.TIz (hke _ _ D.TIz D.TITO D.TIi1 D.TIi2 hTI), ⟨_, _, up _ _ D.TOz hTOe⟩, ?_, ?_⟩ hTh fun c o c1 c2 c3 c4 e => up c o c1 (hke c o c1 c2 c3 c4 e)
  · exact N1.frame _ _ _ s1e fun b hb' o e => by
      rw [List.mem_singleton.mp hb'] at e ⊢; exact up _ _ D.i1z e
  · exact N2.frame _ _ _ s2e fun b hb' o e => by
      rcases List.mem_cons.mp hb' with rfl | hb'
      · exact up _ _ D.i2z e
      · rw [List.mem_singleton.mp hb'] at e ⊢; exact up _ _ D.lz e
theorem zst_end {z TI TO i1 i2 l : Addr} {n : Nat} {P1 : Nat → Value → Prop} {S1 S2 : Nat → Heap → Prop} {Q : Fin → Shared → Prop} (hh : A.handled = none) (D : ZOff z TI TO i1 i2 l)
    (N1 : Nx prog w i1 [i1] n P1 S1) (st : ZSt z TI TO i1 i2 S1 S2 .none n s.heap)
    (hE : ∀ h' e, (∀ c o, c ≠ z → c ≠ TO → c ≠ i1 → c ≠ i2 → s.heap.get? c = some o → h'.get? c = some o) → (∃ o, h'.get? e = some o ∧ o.cls = .type "StopIteration") → E (.ref e) { s with heap := h' }) :
    wpAny (model prog w) A (Builtin.«zip.__next__» ⟨[.ref z], []⟩) Q E s := by
  obtain ⟨hz, hTI, ⟨a, b, hTO⟩, h1, h2⟩ := st
  show wpAny _ _ (field (.ref z) 2 >>= _) _ _ _
  refine wpAny_bind (wpAny_field hz rfl (x := .bool false) rfl ?_)
  show wpAny _ _ (field (.ref z) 3 >>= _) _ _ _
  refine wpAny_bind (wpAny_field hz rfl (x := .ref TI) rfl ?_)
  refine wpAny_bind (wpAny_seqItems hTI rfl ?_)
  show wpAny _ _ (Builtin.SmallTypes.ownedTupleIsFree (.ref z) >>= _) _ _ _
  refine wpAny_bind ?_
  unfold Builtin.SmallTypes.ownedTupleIsFree
  refine wpAny_bind (wpAny_field hz rfl (x := .none) rfl (wpAny_pure ?_))
  simp only [if_true]
  refine wpAny_bind (wpAny_rule ?_)
  refine wpAny_bind (wpAny_field hz rfl (x := .ref TO) rfl ?_)
  refine wpAny_bind (wpAny_setField_rec hz (by simp) fun ha hza hsa => ?_)
  replace hza : IsZip ha z TI TO .ellipsis := hza
  have s1a : S1 n ha := N1.frame _ _ _ h1 fun b hb o e => by
    rw [List.mem_singleton.mp hb] at e ⊢; exact hsa.extBut _ _ D.i1z e
  refine wpAny_bind ?_
  simp only [List.zipIdx_cons, List.zipIdx_nil, List.forIn_cons, List.forIn_nil]
  refine wpAny_bind (wpAny_bind (wpAny_onRaise ?_))
  show wpAny _ _ (Builtin.SmallTypes.nextOf (.ref i1) >>= _) _ _ _
  refine wpAny_bind (N1.done _ _ _ _ hh s1a fun hb e hsb he => ?_)
  obtain ⟨oe, hoe, hce⟩ := he
  have hzb : IsZip hb z TI TO .ellipsis := hsb _ _ D.i1z.symm hza
  have hez : e ≠ z := fun x => by subst x; rw [hzb] at hoe; cases hoe; simp at hce
  refine wpAny_setField_rec hzb (by simp) fun hc _ hsc => hE hc e (fun c o c1 _ c3 _ x => hsc.extBut _ _ c1 (hsb _ _ c3 (hsa.extBut _ _ c1 x))) ⟨oe, hsc.extBut _ _ hez hoe, hce⟩
theorem ktZip {elts : List PySem.Expr} {k : Nat} {pos : Pos} {z TI TO i1 i2 l : Addr} {n : Nat} {P1 P2 : Nat → Value → Prop} {S1 S2 : Nat → Heap → Prop} (hh : A.handled = none) (D : ZOff z TI TO i1 i2 l)
    (N1 : Nx prog w i1 [i1] n P1 S1) (N2 : Ny prog w i2 [i2, l] n P2 S2) :
    KTurns prog w A (.Tuple elts k pos) z [z, TI, TO, i1, i2, l] [z, TO, i1, i2] n (fun i v h => ∃ T x y, v = .ref T ∧ P1 i x ∧ P2 i y ∧ IsPair h T x y)
      (fun i v h => ∃ T x y, v = .ref T ∧ P1 i x ∧ P2 i y ∧ IsPair h T x y ∧ ZSt z TI TO i1 i2 S1 S2 (rawInt T) (i + 1) h ∧ T ≠ z) (fun i h => ZSt z TI TO i1 i2 S1 S2 .none i h) where
  sub := fun c hc => by simp at hc ⊢; rcases hc with rfl | rfl | rfl | rfl <;> simp
  frame := fun i h h' st hk => by
    obtain ⟨hz, hTI, ⟨a, b, hTO⟩, h1, h2⟩ := st
    exact ⟨hk z (by simp) _ hz, hk TI (by simp) _ hTI, ⟨a, b, hk TO (by simp) _ hTO⟩, N1.frame _ _ _ h1 (fun c hc o e => hk c (by rw [List.mem_singleton.mp hc]; simp) o e),
      N2.frame _ _ _ h2 (fun c hc o e => hk c (by simp at hc ⊢; rcases hc with rfl | rfl <;> simp) o e)⟩
  item := fun i s Q E hi st hQ => by
    have hT : s.TypeIs (.ref z) "zip" := ⟨_, st.1, rfl⟩
    have hlt := Heap.lt_size st.1
    unfold pyNext
    refine wpAny_bind (wpAny_attempt (wpAny_callSpecial?_slot (name := Str.ofString "__next__") hT PySem.F.slot_zip_next
      (wpAny_call_entry PySem.F.slot_zip_next hT PySem.F.entry_zip_next
        (zst_item D N1 N2 hi st fun h' tk x y px py st' hp hk => wpAny_pure (hQ _ h' tk ⟨_, x, y, rfl, px, py, hp, st', Nat.ne_of_gt hlt⟩ fun c o hc e => hk c o (fun x => hc (by simp [x])) (fun x => hc (by simp [x])) (fun x => hc (by simp [x])) (fun x => hc (by simp [x])) e)) (PySem.F.args_zip_next_1 _))))
  go := fun i v s Q E hm hQ => by
    obtain ⟨T, x, y, rfl, px, py, hp, ⟨hz, hTI, ⟨a, b, hTO⟩, h1, h2⟩, hTz⟩ := hm
    refine wpAny_letOwnedTupleGo_zip hz fun h' hz' hs' => hQ h' ⟨T, x, y, rfl, px, py, hs'.extBut _ _ hTz hp⟩ ⟨hz', hs'.extBut _ _ D.TIz hTI, ⟨a, b, hs'.extBut _ _ D.TOz hTO⟩, ?_, ?_⟩ fun c o hc e => hs'.extBut _ _ (fun x => hc (by simp [x])) e
    · exact N1.frame _ _ _ h1 fun b hb' o e => by
        rw [List.mem_singleton.mp hb'] at e ⊢; exact hs'.extBut _ _ D.i1z e
    · exact N2.frame _ _ _ h2 fun b hb' o e => by
        rcases List.mem_cons.mp hb' with rfl | hb'
        · exact hs'.extBut _ _ D.i2z e
        · rw [List.mem_singleton.mp hb'] at e ⊢; exact hs'.extBut _ _ D.lz e
  done := fun s Q E st hQ => by
    have hT : s.TypeIs (.ref z) "zip" := ⟨_, st.1, rfl⟩
    unfold pyNext
    refine wpAny_bind (wpAny_attempt (wpAny_callSpecial?_slot (name := Str.ofString "__next__") hT PySem.F.slot_zip_next
      (wpAny_call_entry PySem.F.slot_zip_next hT PySem.F.entry_zip_next (zst_end hh D N1 st fun h' e hk he => ?_) (PySem.F.args_zip_next_1 _))))
    obtain ⟨o, ho, hc⟩ := he
    refine wpAny_bind (wpAny_isInstance (T := "StopIteration") (b := true) ⟨o, ho, hc⟩ isSubtype_stop ?_)
    exact wpAny_pure (hQ _ s.toks fun c o hc e => hk c o (fun x => hc (by simp [x])) (fun x => hc (by simp [x])) (fun x => hc (by simp [x])) (fun x => hc (by simp [x])) e)
end
abbrev zs1 (h : Heap) (x : Str) (t : Tok) : Heap := h.push { cls := .type "str_ascii_iterator", data := .fields #[.str x t, .int 0 0] }
abbrev zs2 (h : Heap) (x : Str) (t : Tok) (l : Addr) : Heap := (zs1 h x t).push { cls := .type "tuple_iterator", data := .fields #[.ref l, .int 0 0] }
abbrev zs3 (h : Heap) (x : Str) (t : Tok) (l : Addr) : Heap := (zs2 h x t l).push { cls := .type "tuple", data := .seq #[.ref h.objs.size, .ref (zs1 h x t).objs.size] }
abbrev zs4 (h : Heap) (x : Str) (t : Tok) (l : Addr) : Heap := (zs3 h x t l).push { cls := .type "tuple", data := .seq #[.none, .none] }
abbrev zs5 (h : Heap) (x : Str) (t : Tok) (l : Addr) : Heap := (zs4 h x t l).push { cls := .type "zip", data := .fields #[.none, .bool false, .bool false, .ref (zs2 h x t l).objs.size, .ref (zs3 h x t l).objs.size] }
theorem meets_zst (x : Str) (t : Tok) (ha : x.cps.all (· < 128) = true) (l : Addr) (ys : Array Value) :
    Meets (Builtin.«zip.__new__» ⟨[.type "zip", .str x t, .ref l], []⟩) (fun _ R s => s.heap.IsTuple l ys ∧
      R (.ok (.ret (.ref (zs4 s.heap x t l).objs.size))) { s with heap := zs5 s.heap x t l }) :=
  .of_wp fun prog w A R s h => by
    obtain ⟨hl2, h⟩ := h
    have hL2 : Heap.IsTuple (s.heap.push { cls := .type "str_ascii_iterator", data := .fields #[.str x t, .int 0 0] }) l ys := Heap.IsTuple.push hl2 _
    unfold Builtin.«zip.__new__»
    refine wpAny_bind ?_
    unfold Builtin.SmallTypes.newClass
    dsimp only
    refine wpAny_bind (wpAny_of_eq (a := true) rfl ?_)
    rw [if_neg (by decide)]
    refine wpAny_bind (wpAny_of_eq (a := true) sub_zip ?_)
    rw [if_neg (by decide)]
    refine wpAny_pure ?_
    dsimp only
    rw [if_neg (by decide)]
    refine wpAny_bind ?_
    unfold Builtin.SmallTypes.iterAll
    simp only [List.forIn_cons, List.forIn_nil]
    refine wpAny_bind (wpAny_bind ?_)
    refine wpAny_bind (wpAny_holding (wpAny_pyIter_ascii ha ?_))
    refine wpAny_pure ?_
    dsimp only
    refine wpAny_bind ?_
    refine wpAny_bind (wpAny_holding (wpAny_pyIter_tuple hL2 ?_))
    refine wpAny_pure ?_
    dsimp only
    refine wpAny_pure ?_
    refine wpAny_pure ?_
    refine wpAny_bind (wpAny_newTuple ?_ (by show (2 : Nat) ≤ sizeLine; decide +kernel))
    refine wpAny_bind (wpAny_newTuple ?_ (by show (2 : Nat) ≤ sizeLine; decide +kernel))
    refine wpAny_bind ?_
    unfold Builtin.SmallTypes.newRecord
    dsimp only
    refine wpAny_newObj_type ?_ (by show (5 : Nat) ≤ sizeLine + 2; decide +kernel)
    exact wpAny_pure ⟨_, rfl, h⟩
section
variable {prog : Program} {w : World} {A : Around} {E : Value → Shared → Prop} {s : Shared}
theorem zoff (I l : Nat) (h : l < I) : ZOff (I + 4) (I + 2) (I + 3) I (I + 1) l := by constructor <;> (refine neN ?_; omega)
theorem call_zst {x : Str} {t : Tok} (ha : x.cps.all (· < 128) = true) {l : Addr} {ys : Array Value} {Q : Value → Shared → Prop} (hl : s.heap.IsTuple l ys)
    (h : ∀ h', ZSt (s.heap.objs.size + 4) (s.heap.objs.size + 2) (s.heap.objs.size + 3) s.heap.objs.size (s.heap.objs.size + 1) (fun i h => h.IsStrIter s.heap.objs.size "str_ascii_iterator" x t i) (fun i h => h.IsTupleIter (s.heap.objs.size + 1) l i ∧ h.IsTuple l ys) .none 0 h' →
      h'.objs.size = s.heap.objs.size + 5 → (∀ c o, s.heap.get? c = some o → h'.get? c = some o) → Q (.ref (s.heap.objs.size + 4)) { s with heap := h' }) :
    wpAny (model prog w) A (call (.type "zip") [.str x t, .ref l]) Q E s := by
  refine callType_new PySem.F.called_zip (by decide) (PySem.F.typeCall_zip_2 _ _) (PySem.F.newCall_zip_2 _ _) (fun obj => PySem.F.args_object_init_3 obj _ _) PySem.F.entry_zip_new
    (meets_zst x t ha l ys) ⟨hl, ?_⟩
  have z1 : (zs1 s.heap x t).objs.size = s.heap.objs.size + 1 := Heap.size_push ..
  have z2 : (zs2 s.heap x t l).objs.size = s.heap.objs.size + 2 := by rw [Heap.size_push, z1]
  have z3 : (zs3 s.heap x t l).objs.size = s.heap.objs.size + 3 := by rw [Heap.size_push, z2]
  have z4 : (zs4 s.heap x t l).objs.size = s.heap.objs.size + 4 := by rw [Heap.size_push, z3]
  have z5 : (zs5 s.heap x t l).objs.size = s.heap.objs.size + 5 := by rw [Heap.size_push, z4]
  have g5 : (zs5 s.heap x t l).get? (zs4 s.heap x t l).objs.size = some _ := Heap.get?_push_size _ rfl
  have g4 : (zs5 s.heap x t l).get? (zs3 s.heap x t l).objs.size = some _ := Heap.get?_push_of_some _ (Heap.get?_push_size _ rfl)
  have g3 : (zs5 s.heap x t l).get? (zs2 s.heap x t l).objs.size = some _ := Heap.get?_push_of_some _ (Heap.get?_push_of_some _ (Heap.get?_push_size _ rfl))
  have g2 : (zs5 s.heap x t l).get? (zs1 s.heap x t).objs.size = some _ := Heap.get?_push_of_some _ (Heap.get?_push_of_some _ (Heap.get?_push_of_some _ (Heap.get?_push_size _ rfl)))
  have g1 : (zs5 s.heap x t l).get? s.heap.objs.size = some _ := Heap.get?_push_of_some _ (Heap.get?_push_of_some _ (Heap.get?_push_of_some _ (Heap.get?_push_of_some _ (Heap.get?_push_size _ rfl))))
  show _ ∧ _
  rw [z2, z3, z4] at g5
  rw [z1, z2] at g3
  rw [z3] at g4
  rw [z1] at g2
  rw [z4]
  have kp : ∀ c o, s.heap.get? c = some o → (zs5 s.heap x t l).get? c = some o := fun c o e =>
    Heap.get?_push_of_some _ (Heap.get?_push_of_some _ (Heap.get?_push_of_some _ (Heap.get?_push_of_some _ (Heap.get?_push_of_some _ e))))
  exact ⟨⟨_, g5, rfl⟩, h _ ⟨g5, g3, ⟨_, _, g4⟩, ⟨_, g1, rfl, rfl⟩, ⟨_, g2, rfl, rfl⟩, hl.at fun o e => kp _ o e⟩ z5 kp⟩
def stItems : List Nat → List Value → List Itm
  | c :: r, y :: q => .pair (fun u => .str ⟨#[c]⟩ u) y :: stItems r q
  | _, _ => []
theorem stItems_len (cs : List Nat) : ∀ (ys : List Value), cs.length = ys.length → (stItems cs ys).length = ys.length := by
  induction cs with
  | nil =>
    intro ys h
    cases ys with
    | nil => rfl
    | cons y q => exact Nat.noConfusion h
  | cons c r ih =>
    intro ys h
    cases ys with
    | nil => exact Nat.noConfusion h
    | cons y q => exact congrArg (· + 1) (ih q (Nat.succ.inj h))
theorem stItems_get : ∀ (cs : List Nat) (ys : List Value) (i : Nat) {c : Nat} {y : Value}, cs[i]? = some c → ys[i]? = some y → (stItems cs ys)[i]? = some (.pair (fun u => .str ⟨#[c]⟩ u) y)
  | c :: r, y :: q, 0, _, _, h1, h2 => by
    simp only [List.getElem?_cons_zero, Option.some.injEq] at h1 h2
    subst h1 h2; rfl
  | _ :: r, _ :: q, i + 1, _, _, h1, h2 => by
    simp only [List.getElem?_cons_succ] at h1 h2
    exact stItems_get r q i h1 h2
  | [], _, _, _, _, h1, _ => by simp at h1
  | _ :: _, [], _, _, _, _, h2 => by simp at h2
variable {env : Env} {h₀ : Heap} {body : List Stmt} {Q : Flow → Shared → Prop}
theorem ktu_zst {elts : List PySem.Expr} {k : Nat} {pos : Pos} {x : Str} {t : Tok} {l : Addr} {lo : Obj} {ys : List Value} {xs : List Itm} {n : Nat} {m₀ : Str → Option Value} {news : List (Addr × Obj)}
    (hh : A.handled = none) (F : Fr h₀ env.locals s.heap m₀) (N : News h₀ env.locals s.heap news) (ha : x.cps.all (· < 128) = true) (hm : (l, lo) ∈ news) (hc : lo.cls = .type "tuple") (hd : lo.data = .seq ys.toArray n) (hn : x.cps.toList.length = ys.length) (hx : stItems x.cps.toList ys = xs)
    (rest₀ : ∀ I : Addr, (∀ p ∈ news, p.1 < I) → ItemsRest prog w A E h₀ env (.Tuple elts k pos) body Q s [(I + 4, "zip"), (I + 2, "tuple"), (I + 3, "tuple"), (I, "str_ascii_iterator"), (I + 1, "tuple_iterator")] [(l, lo)] xs m₀ news) :
    wpAny (model prog w) A (call (.type "zip") [.str x t, .ref l]) (fun xv s₁ => wpAny (model prog w) A (pyIter xv) (fun it s₂ => TurnsAt prog w A h₀ env (.Tuple elts k pos) body Q E it s₂) E s₁) E s := by
  subst hx
  have hax := N _ hm
  have hl : s.heap.IsTuple l ys.toArray := ⟨lo, hax.1, hc, n, hd⟩
  have hlt : l < s.heap.objs.size := Heap.lt_size hax.1
  have hLs : env.locals < s.heap.objs.size := F.ns.lt
  have D := zoff s.heap.objs.size l hlt
  have hsz : x.cps.size = ys.length := by rw [← hn]; simp
  obtain ⟨S1, eS, N1⟩ := nx_str (prog := prog) (w := w) s.heap.objs.size x t
  have N2 := ny_tuple (prog := prog) (w := w) (s.heap.objs.size + 1) l (ktu_ne 1 hlt) ys.toArray
  have e2 : ys.toArray.size = x.cps.size := by rw [hsz]; simp
  rw [e2] at N2
  refine call_zst ha hl fun h' hst hsz' hk => ?_
  rw [← eS] at hst
  refine wpAny_pyIter_zip hst.1 ?_
  refine ktu_core (tk0 := s.toks) (keep := [(l, lo)]) (ktZip hh D N1 N2) (by rw [stItems_len _ _ hn, hsz]) ?_ ?_ ?_ ?_ ?_ ?_ ?_ ?_ (F.keeps hk) (N.grown hk) (And.intro hm trivial) (rest₀ _ fun p hp => Heap.lt_size (N p hp).1)
  · rintro i v h ⟨T, a, b, rfl, ⟨c, u, hc1, rfl⟩, hy, hT⟩
    refine ⟨_, stItems_get _ _ i (c := c) (y := b) (by simpa using hc1) (by simpa using hy), T, u, rfl, ⟨_, hT, rfl, _, rfl⟩⟩
  · rintro i h ⟨hz, hTI, ⟨a, b, hTO⟩, hs1, ⟨o2, ho2, hc2, _⟩, _⟩
    rw [eS] at hs1
    obtain ⟨o1, ho1, hc1, _⟩ := hs1
    have e1 : ∃ o : Obj, h.get? (s.heap.objs.size + 4) = some o ∧ o.cls = .type "zip" := ⟨_, hz, rfl⟩
    have e2 : ∃ o : Obj, h.get? (s.heap.objs.size + 2) = some o ∧ o.cls = .type "tuple" := ⟨_, hTI, rfl⟩
    have e3 : ∃ o : Obj, h.get? (s.heap.objs.size + 3) = some o ∧ o.cls = .type "tuple" := ⟨_, hTO, rfl⟩
    obtain ⟨q1, g1, k1⟩ := e1
    obtain ⟨q2, g2, k2⟩ := e2
    obtain ⟨q3, g3, k3⟩ := e3
    refine ⟨[(s.heap.objs.size + 4, q1), (s.heap.objs.size + 2, q2), (s.heap.objs.size + 3, q3), (s.heap.objs.size, o1), (s.heap.objs.size + 1, o2)], ⟨⟨rfl, k1⟩, ⟨rfl, k2⟩, ⟨rfl, k3⟩, ⟨rfl, hc1⟩, ⟨rfl, hc2⟩, trivial⟩, fun p hp => ?_⟩
    simp only [List.mem_cons, List.not_mem_nil, or_false] at hp
    rcases hp with rfl | rfl | rfl | rfl | rfl
    · exact g1
    · exact g2
    · exact g3
    · exact ho1
    · exact ho2
  · intro b hb
    have hb' : b = s.heap.objs.size + 4 ∨ b = s.heap.objs.size + 2 ∨ b = s.heap.objs.size + 3 ∨ b = s.heap.objs.size ∨ b = s.heap.objs.size + 1 := by simpa using hb
    refine ⟨by rcases hb' with rfl | rfl | rfl | rfl | rfl <;> simp, ktu_new F ?_⟩
    rcases hb' with rfl | rfl | rfl | rfl | rfl <;> first | exact Nat.le_add_right _ _ | exact Nat.le_refl _
  · intro b hb
    have hb' : b = s.heap.objs.size + 4 ∨ b = s.heap.objs.size + 3 ∨ b = s.heap.objs.size ∨ b = s.heap.objs.size + 1 := by simpa using hb
    rcases hb' with rfl | rfl | rfl | rfl <;> simp
  · intro b hb
    have hb' : b = s.heap.objs.size + 4 ∨ b = s.heap.objs.size + 2 ∨ b = s.heap.objs.size + 3 ∨ b = s.heap.objs.size ∨ b = s.heap.objs.size + 1 ∨ b = l := by simpa using hb
    rcases hb' with rfl | rfl | rfl | rfl | rfl | rfl
    · exact .inl (by simp)
    · exact .inl (by simp)
    · exact .inl (by simp)
    · exact .inl (by simp)
    · exact .inl (by simp)
    · exact .inr ⟨lo, by simp⟩
  · intro hI
    have hb' : env.locals = s.heap.objs.size + 4 ∨ env.locals = s.heap.objs.size + 2 ∨ env.locals = s.heap.objs.size + 3 ∨ env.locals = s.heap.objs.size ∨ env.locals = s.heap.objs.size + 1 ∨ env.locals = l := by simpa using hI
    rcases hb' with e | e | e | e | e | e
    · exact ktu_ne 4 hLs e
    · exact ktu_ne 2 hLs e
    · exact ktu_ne 3 hLs e
    · exact Nat.ne_of_lt hLs e
    · exact ktu_ne 1 hLs e
    · exact hax.2.1 e.symm
  · intro p hp hI
    have hb' : p.1 = s.heap.objs.size + 4 ∨ p.1 = s.heap.objs.size + 3 ∨ p.1 = s.heap.objs.size ∨ p.1 = s.heap.objs.size + 1 := by simpa using hI
    have hlp := Heap.lt_size (N p hp).1
    rcases hb' with e | e | e | e
    · exact ktu_ne 4 hlp e
    · exact ktu_ne 3 hlp e
    · exact Nat.ne_of_lt hlp e
    · exact ktu_ne 1 hlp e
  · exact hst
end
end
section
open PySem PySem.W PyProof.Rows PySem.Calls PySem.Spec PyProof.V
set_option maxHeartbeats 1000000
abbrev MK := Sum Str Int
def mixIs : MK → Value → Bool
  | .inl x, v => Value.isStrOf x v
  | .inr i, v => Value.isInt i v
theorem mixIs_inl {x : Str} {v : Value} (h : mixIs (.inl x) v = true) : ∃ t, v = .str x t := Value.isStrOf_shape h
theorem mixIs_inr {i : Int} {v : Value} (h : mixIs (.inr i) v = true) : ∃ t, v = .int i t := Value.isInt_shape h
theorem beqInt (a b : Int) : (a == b) = decide (a = b) := by by_cases h : a = b <;> simp [h]
section
variable {prog : Program} {w : World} {A : Around} {E : Value → Shared → Prop} {s : Shared}
theorem eqB_si {a : Str} {t : Tok} {b : Int} {u : Tok} {Q : Bool → Shared → Prop} (h : Q false s) : wpAny (model prog w) A (eqBool (.str a t) (.int b u)) Q E s := by
  unfold eqBool
  rw [if_neg (by intro h; cases h)]
  exact wpAny_bind (EqMixed.eq_str_int (t := t) (u := u) (wpAny_truthy_bool h))
theorem eqB_is {a : Int} {t : Tok} {b : Str} {u : Tok} {Q : Bool → Shared → Prop} (h : Q false s) : wpAny (model prog w) A (eqBool (.int a t) (.str b u)) Q E s := by
  unfold eqBool
  rw [if_neg (by intro h; cases h)]
  exact wpAny_bind (EqMixed.eq_int_str (t := t) (u := u) (wpAny_truthy_bool h))
end
def mixKind (prog : Program) (w : World) : KeyKind prog w MK where
  is := mixIs
  hash := fun | .inl x => hashStr w x | .inr i => hashInt i
  inj := fun v a b ha hb => by
    cases a <;> cases b
    · obtain ⟨t, rfl⟩ := mixIs_inl ha
      obtain ⟨u, e⟩ := mixIs_inl hb
      injection e with e; rw [e]
    · obtain ⟨t, rfl⟩ := mixIs_inl ha
      obtain ⟨u, e⟩ := mixIs_inr hb
      cases e
    · obtain ⟨t, rfl⟩ := mixIs_inr ha
      obtain ⟨u, e⟩ := mixIs_inl hb
      cases e
    · obtain ⟨t, rfl⟩ := mixIs_inr ha
      obtain ⟨u, e⟩ := mixIs_inr hb
      injection e with e; rw [e]
  byValue := fun k v h => by
    cases k
    · obtain ⟨t, rfl⟩ := mixIs_inl h; rfl
    · obtain ⟨t, rfl⟩ := mixIs_inr h; rfl
  pyHash := fun {A E s k v Q} hv h => by
    cases k
    · obtain ⟨t, rfl⟩ := mixIs_inl hv; exact wpAny_pyHash_str h
    · obtain ⟨t, rfl⟩ := mixIs_inr hv; exact wpAny_pyHash_int h
  eqBool := fun {A E s a b u v Q} hu hv h => by
    cases a <;> cases b
    · obtain ⟨t, rfl⟩ := mixIs_inl hu
      obtain ⟨t', rfl⟩ := mixIs_inl hv
      refine wpAny_eqBool_str ?_
      simpa using h
    · obtain ⟨t, rfl⟩ := mixIs_inl hu
      obtain ⟨t', rfl⟩ := mixIs_inr hv
      refine eqB_si ?_
      simpa using h
    · obtain ⟨t, rfl⟩ := mixIs_inr hu
      obtain ⟨t', rfl⟩ := mixIs_inl hv
      refine eqB_is ?_
      simpa using h
    · obtain ⟨t, rfl⟩ := mixIs_inr hu
      obtain ⟨t', rfl⟩ := mixIs_inr hv
      refine wpAny_eqBool_int ?_
      rw [beqInt]
      simpa using h
  «strs» := fun k x t v h => by
    cases k
    · obtain ⟨t', e⟩ := mixIs_inl h
      injection e with e; subst e
      cases v <;> first | rfl | (simp [mixIs, Value.isStrOf, Value.isStr])
    · obtain ⟨t', e⟩ := mixIs_inr h
      cases e
def mixEnc : MK → PyData
  | .inl x => .str x
  | .inr i => .int i
theorem mix_same (a b : MK) : PySem.Spec.same (mixEnc a) (mixEnc b) = decide (a = b) := by
  cases a <;> cases b
  · exact (PyProof.V.same_str _ _).trans (by simp)
  · rfl
  · rfl
  · exact (PyProof.V.same_int _ _).trans (by simp)

abbrev MPs := List (PyData × PyData)
def MarkO (prog : Program) (w : World) (keys : List (Addr × Obj)) (o : Obj) (D : MPs) : Prop :=
  ∃ es ep xs, o.ExactDict ∧ o.data = .dict es ep ∧ es.toList = xs.map (entryOfKey (tupleKind (mixKind prog w))) ∧ (xs.map (·.1)).Nodup ∧
    (∀ x ∈ xs, ∃ ok, (x.2.1, ok) ∈ keys ∧ TupKeyObj (mixKind prog w) x.1 ok) ∧ FlatPairs (encTuple mixEnc) (kvsOf xs) D
section
variable {prog : Program} {w : World} {A : Around} {E : Value → Shared → Prop} {s : Shared} {h₀ : Heap} {L d a : Addr} {m : Str → Option Value} {news keys own rest : List (Addr × Obj)} {o ok : Obj} {D : MPs} {ks : List MK}
theorem MarkO.tab (M : MarkO prog w keys o D) (lo : (d == sysModules) = false) (hm : (d, o) ∈ news) (hk : ∀ p ∈ keys, p ∈ news) : TupTab (mixKind prog w) mixEnc news d D := by
  obtain ⟨es, ep, xs, hc, hd, he, hn, hkk, hf⟩ := M
  exact ⟨lo, o, es, ep, xs, hm, hc, hd, he, hn, fun x hx => by obtain ⟨okx, hmk, t⟩ := hkk x hx; exact ⟨okx, hk _ hmk, t⟩, hf⟩
theorem MarkO.ofEmpty {K' : Type} [DecidableEq K'] {knd' : KeyKind prog w K'} (hd : o.IsDictOf knd' []) : MarkO prog w [] o [] := by
  obtain ⟨es, ep, hc, hdat, _, hp, _⟩ := hd
  have he : es.toList = [] := List.length_eq_zero_iff.mp hp.length
  exact ⟨es, ep, [], hc, hdat, he, List.nodup_nil, fun _ hx => by simp at hx, .nil⟩
theorem setItem_mark {v : Value} {dv : PyData} {Q : Unit → Shared → Prop} (hu : A.units + 1 < cLine) (hv : Flat v dv)
    (F : Fr h₀ L s.heap m) (N : News h₀ L s.heap (own ++ (d, o) :: rest)) (ha : ∀ p ∈ own, p.1 ≠ d) (hb : ∀ p ∈ rest, p.1 ≠ d) (M : MarkO prog w keys o D) (hk : ∀ p ∈ keys, p ∈ own ++ (d, o) :: rest) (hka : (a, ok) ∈ own ++ (d, o) :: rest) (tk : TupKeyObj (mixKind prog w) ks ok)
    (h : ∀ h' tk o', Fr h₀ L h' m → News h₀ L h' (own ++ (d, o') :: rest) → MarkO prog w ((a, ok) :: keys) o' (putD (encTuple mixEnc ks) dv D) → Q () { s with heap := h', toks := tk })
    (hsz : D.length ≤ 1000) : wpAny (model prog w) A (setItem (.ref d) (.ref a) v) Q E s := by
  obtain ⟨es, ep, xs, hc, hd, he, hn, hkk, hf⟩ := M
  have hm : (d, o) ∈ own ++ (d, o) :: rest := List.mem_append_right _ (.head _)
  have hD : s.heap.DictOfH (tupleKind (mixKind prog w)) d xs := ⟨o, es, ep, N.get hm, hc, hd, he, fun x hx => let ⟨_, hmk, t⟩ := hkk x hx; t.key (N.get (hk _ hmk)), hn⟩
  have hxs : xs.length ≤ sizeLine := by
    have e := hf.length
    simp only [kvsOf, List.length_map] at e
    have : (1000 : Nat) ≤ sizeLine := by decide +kernel
    omega
  refine wpAny_setItem_heap (hsz := hxs) (knd := tupleKind (mixKind prog w)) (tupleKind_room_in1 hu) (tk.key (N.get hka)) hD fun h' hm' hs => ?_
  obtain ⟨o', es', ep', ho', hc', hd', he', _, hn'⟩ := hm'
  refine h h' _ o' (F.change hs (N _ hm).2.1 (N.fresh hm)) (N.setIn ha hb hs ho') ⟨es', ep', storedH xs ks a v, hc', hd', he', hn', fun x hx => ?_, by rw [kvsOf_storedH]; exact hf.stored (same_encTuple mix_same) ks hv⟩
  rcases mem_storedH hx with ⟨y, hy, e1, e2⟩ | ⟨e1, e2⟩
  · obtain ⟨oky, hmk, t⟩ := hkk y hy
    exact ⟨oky, by rw [e2]; exact .tail _ hmk, by rw [e1]; exact t⟩
  · exact ⟨ok, by rw [e2]; exact .head _, by rw [e1]; exact tk⟩
theorem in_mark {b : Bool} {Q : Value → Shared → Prop} (hu : A.units + 1 < cLine) (N : News h₀ L s.heap news) (lo : (d == sysModules) = false) (hm : (d, o) ∈ news) (M : MarkO prog w keys o D) (hk : ∀ p ∈ keys, p ∈ news) (hka : (a, ok) ∈ news) (tk : TupKeyObj (mixKind prog w) ks ok)
    (hb : (PySem.Spec.lookup (encTuple mixEnc ks) D).isSome = b) (h : ∀ t, Q (.bool b) { s with toks := t }) : wpAny (model prog w) A (compareOp .In (.ref a) (.ref d)) Q E s := by
  subst hb
  exact in_tupTab (knd := mixKind prog w) mix_same hu N (M.tab lo hm hk) hka tk (h _)
theorem notin_mark {b : Bool} {Q : Value → Shared → Prop} (hu : A.units + 1 < cLine) (N : News h₀ L s.heap news) (lo : (d == sysModules) = false) (hm : (d, o) ∈ news) (M : MarkO prog w keys o D) (hk : ∀ p ∈ keys, p ∈ news) (hka : (a, ok) ∈ news) (tk : TupKeyObj (mixKind prog w) ks ok)
    (hb : (!(PySem.Spec.lookup (encTuple mixEnc ks) D).isSome) = b) (h : ∀ t, Q (.bool b) { s with toks := t }) : wpAny (model prog w) A (compareOp .NotIn (.ref a) (.ref d)) Q E s := by
  subst hb
  exact notin_tupTab (knd := mixKind prog w) mix_same hu N (M.tab lo hm hk) hka tk (h _)
theorem item_mark {value slice : PySem.Expr} {i : Int} {Q : Value → Shared → Prop} (hu : A.units + 1 < cLine) (N : News h₀ L s.heap news) (lo : (d == sysModules) = false) (hm : (d, o) ∈ news) (M : MarkO prog w keys o D) (hk : ∀ p ∈ keys, p ∈ news) (hka : (a, ok) ∈ news) (tk : TupKeyObj (mixKind prog w) ks ok)
    (hl : PySem.Spec.lookup (encTuple mixEnc ks) D = some (.int i)) (h : ∀ u t, Q (.int i u) { s with toks := t })
    (hs : subscripted slice false (.ref d) (.ref a) = operate [.ref d, .ref a] (getItem (.ref d) (.ref a))) (hg : ∀ r, letTemporaryGo value (.ref d) r = pure ()) :
    wpAny (model prog w) A (subscriptTail value slice (.ref d) (.ref a)) Q E s :=
  item_tupTab (knd := mixKind prog w) mix_same hu N (M.tab lo hm hk) hka tk hl (fun v hv => by obtain ⟨u, rfl⟩ := Flat.int_inv hv; exact h _ _) hs hg
theorem key_mix {x : Str} {i : Int} {t u : Tok} : TupKeyObj (mixKind prog w) [.inl x, .inr i] { cls := .type "tuple", data := .seq #[.str x t, .int i u] } :=
  ⟨rfl, _, _, rfl, ItemsAre.cons (by show Value.isStrOf x (.str x t) = true; simp [Value.isStrOf]) (ItemsAre.cons (by show Value.isInt i (.int i u) = true; simp [Value.isInt]) ItemsAre.nil)⟩
end
end
section
open PySem PySem.W PyProof.Rows PySem.Calls PySem.Spec PyProof.V
set_option maxHeartbeats 1000000
section
variable {prog : Program} {w : World} {A : Around} {E : Value → Shared → Prop} {R : Result → Shared → Prop} {s : Shared} {test : PySem.Expr} {body : List Stmt} {env : Env} {Q : Flow → Shared → Prop} {pos : Pos}
theorem whileLoop_one
    (h : wpAny (model prog w) A (isTrue test env (eval test env)) (fun b s₂ =>
        if b = true then wpAny (model prog w) A (execs body env) (fun f s₃ => match f with
            | .next | .cont => codeAny (model prog w) A (.whileLoop test body [] env) R s₃
            | .brk => R (.ok .next) s₃
            | .ret v => R (.ok (.ret v)) s₃) (notedBy (model prog w) A env fun e s' => R (.error e) s') s₂
        else R (.ok .next) s₂)
        (notedBy (model prog w) A env fun e s' => R (.error e) s') s) : codeAny (model prog w) A (.whileLoop test body [] env) R s := by
  refine codeAny_of_tree ?_
  show wpAny _ _ ((whileTurn test body [] env).onRaise (fun x => do noteFrame x env; theTreesLotGoes x)) _ _ s
  refine wpAny_noted ?_
  simp only [whileTurn]
  refine wpAny_bind (wpAny_mono h (fun b s₂ h₂ => ?_) fun _ _ h' => h')
  cases b with
  | false =>
    simp only [Bool.false_eq_true, if_false] at h₂ ⊢
    exact wpAny_bind (wpAny_execs_nil (wpAny_pure h₂))
  | true =>
    simp only [if_true] at h₂ ⊢
    refine wpAny_bind (wpAny_mono h₂ (fun f s₃ h₃ => ?_) fun _ _ h' => h')
    cases f with
    | next => exact wpAny_pure ⟨rfl, h₃⟩
    | cont => exact wpAny_pure ⟨rfl, h₃⟩
    | brk => exact wpAny_pure h₃
    | ret v => exact wpAny_pure h₃
def WLoop (prog : Program) (w : World) (A : Around) (env : Env) (test : PySem.Expr) (body : List Stmt) (Q : Flow → Shared → Prop) (E : Value → Shared → Prop) (s : Shared) : Prop :=
  codeAny (model prog w) A (.whileLoop test body [] env) (fun r s' => match r with | .ok f => Q f s' | .error e => cameBackBy (model prog w) A env E e s') s
def WPost (prog : Program) (w : World) (A : Around) (env : Env) (test : PySem.Expr) (body : List Stmt) (Q : Flow → Shared → Prop) (E : Value → Shared → Prop) (f : Flow) (s : Shared) : Prop :=
  match f with
  | .ret v => Q (.ret v) s
  | .brk => Q .next s
  | _ => WLoop prog w A env test body Q E s
theorem wloop_turn (hE : PassesOwn (model prog w) A env E)
    (h : wpAny (model prog w) A (isTrue test env (eval test env)) (fun b s₂ => if b = true then wpAny (model prog w) A (execs body env) (WPost prog w A env test body Q E) E s₂ else Q .next s₂) E s) :
    WLoop prog w A env test body Q E s := by
  refine whileLoop_one (wpAny_mono h (fun b s₂ h₂ => ?_) hE)
  cases b with
  | false => exact h₂
  | true =>
    simp only [if_true] at h₂ ⊢
    refine wpAny_mono h₂ (fun f s₃ h₃ => ?_) hE
    cases f <;> exact h₃
theorem while_start (h : WLoop prog w A env test body Q E s) : wpAny (model prog w) A (exec (.While test body [] pos) env) Q E s := wpAny_While h
end
end
section
structure Cx where
  w : World
  mean : ExcName → Option Value
  mg : Str → Option Value
  mb : Str → Option Value
  dp : Nat
  un : Nat
  gd : Option (List Code)
  outer : List Env
  A₀ : Around
  base : Heap
  h₀ : Heap
  L : Addr
  s : Shared
  Q : Value → Shared → Prop
  E : Value → Shared → Prop
theorem cx_gen (x₀ : Cx) (S : Nat → Cx → Prop) : ∃ x : Cx, ∀ i, (∀ j, j < i → ∀ y, S j y) → S i x → ∀ y, S i y := by
  by_cases h : ∃ i, ¬ ∀ y, S i y
  · obtain ⟨i, hi, hm⟩ : ∃ i, (¬ ∀ y, S i y) ∧ ∀ j, j < i → ∀ y, S j y := by
      obtain ⟨n, hn⟩ := h
      induction n using Nat.strongRecOn with
      | _ n ih =>
        by_cases q : ∃ j, j < n ∧ ¬ ∀ y, S j y
        · obtain ⟨j, hj, hq⟩ := q
          exact ih j hj hq
        · exact ⟨n, hn, fun j hj => Classical.byContradiction fun z => q ⟨j, hj, z⟩⟩
    obtain ⟨x, hx⟩ := Classical.not_forall.mp hi
    refine ⟨x, fun k hp hk => ?_⟩
    rcases Nat.lt_trichotomy k i with q | rfl | q
    · exact hm k q
    · exact absurd hk hx
    · exact absurd (hp i q) hi
  · exact ⟨x₀, fun i _ _ => Classical.byContradiction fun z => h ⟨i, z⟩⟩
noncomputable def cx0 : Cx :=
  { w := ⟨fun _ _ => 0, { strHash := fun _ => 0, shareClass := fun _ => 0, mergeTok := id, idOf := fun _ => 0, idOfShared := fun _ _ => 0, followText := fun _ => false, idOfImm := fun _ => 0 }⟩,
    mean := fun _ => none, mg := fun _ => none, mb := fun _ => none, dp := 0, un := 0, gd := none, outer := [], A₀ := {}, base := {}, h₀ := {}, L := 0, s := {}, Q := fun _ _ => True, E := fun _ _ => True }
theorem kap_g {α : Type} (a : α) (S : α → Prop) : ∃ x, S x → ∀ y, S y := by
  by_cases h : ∀ y, S y
  · exact ⟨a, fun _ => h⟩
  · obtain ⟨x, hx⟩ := Classical.not_forall.mp h
    exact ⟨x, fun k => absurd k hx⟩
noncomputable def kapOf (S : Cx → Prop) : Cx := Classical.choose (kap_g cx0 S)
theorem kap_all {S : Cx → Prop} (h : S (kapOf S)) : ∀ y, S y := Classical.choose_spec (kap_g cx0 S) h
noncomputable def stmtsOf (nm : String) : List Stmt → List Stmt
  | [] => []
  | .FunctionDef n _ b .. :: r => if n == Str.ofString nm then b else stmtsOf nm r
  | _ :: r => stmtsOf nm r
noncomputable def scopeIn (nm : String) : List Stmt → Scope
  | [] => default
  | .FunctionDef n _ _ _ _ _ sc .. :: r => if n == Str.ofString nm then sc else scopeIn nm r
  | _ :: r => scopeIn nm r
noncomputable def bodyAt (nm : String) : List Stmt := stmtsOf nm PySem.Challenge.pw_ok0177_01.main.body
noncomputable def scopeAt (nm : String) : Scope := scopeIn nm PySem.Challenge.pw_ok0177_01.main.body
def flv : Flow → Value | .ret v => v | _ => .none
def Bd (x : Cx) (D : Nat) (nm : Str) (scope : Scope) (f c : Nat) (body : List Stmt) (m : Str → Option Value) (news : Led) (Ret : Value → Led → Prop) : Prop :=
  ∀ (h : Heap) (tk : Nat), Below x.A₀ x.base x.outer x.h₀ → Fr x.h₀ x.L h m → (hd.heap_39 x.w.params).In x.h₀ → News x.h₀ x.L h news → Top hd.view_39 loo x.mean x.mg x.mb x.h₀ → x.dp + D < recursionLimit → x.un + 8 * D < cLine → PassesOwn (model PySem.Challenge.rw_ok0177_01.row.prog x.w) { handled := none, depth := x.dp, frames := some (envX nm scope x.L f (.ref c) [] :: x.outer), guards := x.gd, units := x.un } (envX nm scope x.L f (.ref c) []) x.E →
  (∀ m' v news' h' tk', Ret v news' → Fr x.h₀ x.L h' m' → News x.h₀ x.L h' news' → x.Q v { x.s with heap := h', toks := tk' }) →
  wpAny (model PySem.Challenge.rw_ok0177_01.row.prog x.w) { handled := none, depth := x.dp, frames := some (envX nm scope x.L f (.ref c) [] :: x.outer), guards := x.gd, units := x.un } (execs body (envX nm scope x.L f (.ref c) [])) (fun fl s' => x.Q (flv fl) s') x.E { x.s with heap := h, toks := tk }
abbrev CtA (w : World) (mean : ExcName → Option Value) (mg mb : Str → Option Value) (D : Nat) (f : Nat) (news : Led) (pre : Prop) (vs : List Value) (Ret : Value → Led → Prop) : Prop :=
  ∀ (dp un : Nat) (gd : Option (List Code)) (cn : Str) (cs : Scope) (a : Addr) (ccd : Value) (cl : List (Str × Addr)) (outer : List Env) (A₀ : Around) (base h₀ : Heap) (L : Addr) (m : Str → Option Value) (s : Shared) (Q E : Value → Shared → Prop),
    Below A₀ base outer h₀ → Fr h₀ L s.heap m → (hd.heap_39 w.params).In h₀ → News h₀ L s.heap news → Top hd.view_39 loo mean mg mb h₀ → cs.kind = .function → pre → dp + D < recursionLimit → un + 8 * D < cLine →
    (∀ v news' h' tk', Ret v news' → Fr h₀ L h' m → News h₀ L h' news' → Q v { s with heap := h', toks := tk' }) →
    codeAny (model PySem.Challenge.rw_ok0177_01.row.prog w) (ktrTop dp un gd cn cs L a ccd cl outer) (.call (.ref f) ⟨vs, []⟩) (fun r s' => match r with | .ok (.ret v) => Q v s' | .ok _ => False | .error e => E e s') s
theorem cc_of_body {w : World} {mean : ExcName → Option Value} {mg mb : Str → Option Value} {D : Nat} {news : Led} {vs : List Value} {Ret : Value → Led → Prop} {qual name : Str} {params : Arguments} {body : List Stmt} {scope : Scope} {dV kV doc pm ct oc : Value} {an od : Option Addr} {osl : Array (Option Value)} {f c : Addr} {binds : List (Str × Value)}
    (ho : (hd.heap_39 w.params).lookup f = some ⟨oc, od, .func (fnOf name qual params body scope dV kV doc pm an (.ref c) ct), osl⟩) (hcd : codeIn (hd.heap_39 w.params) (.ref c) qual = true)
    (hbind : ∀ (s : Shared), (hd.heap_39 w.params).In s.heap → BindsTo s (fnOf name qual params body scope dV kV doc pm an (.ref c) ct) ⟨vs, []⟩ binds) (hloc : ∀ y ∈ binds, scope.names.lookup y.1 = some .local)
    (hco : scope.isCoroutine = false) (hgen : scope.isGenerator = false) (hk : scope.kind = .function) (hcell : ∀ x ∈ scope.names, x.2 ≠ .cell)
    (hb : ∀ (dp un : Nat) (gd : Option (List Code)) (outer : List Env) (A₀ : Around) (base h₀ : Heap) (L : Addr) (s : Shared) (Q E : Value → Shared → Prop), Bd ⟨w, mean, mg, mb, dp, un, gd, outer, A₀, base, h₀, L, s, Q, E⟩ D qual scope f c body (fun y => binds.reverse.lookup y) news Ret) : CtA w mean mg mb (D + 1) f news True vs Ret := by
  intro dp un gd cn cs fa ccd cl outer A₀ base h₀ L m s Q E HB HF HX HN HT hkind hp hdp hun hret
  refine (code_def HB HF HX HN HT rfl rfl hkind ho hcd (Nat.lt_of_le_of_lt (Nat.le_add_right dp (D+1)) hdp) (hbind s (HX.keeps HF.keep)) hloc (fun g L' h₁ FG F' N' B' X' T' => ?_) hco hgen hk hcell)
  have lv : ∀ v news' h' tk' m', Ret v news' → Fr g L' h' m' → News g L' h' news' → LeaveK h₀ L m g (fun r s' => match r with | .ok (.ret v) => Q v s' | .ok _ => False | .error e => E e s') v { s with heap := h', toks := tk' } := fun v news' h' tk' m' hR F N => leaveK_ F N (fun F2 N2 => hret v news' h' tk' hR F2 N2)
  refine wpAny_mono (hb (dp + 1) (un + 3) gd (envX cn cs L fa ccd cl :: outer) _ base g L' { s with heap := h₁, toks := s.toks + binds.length } (fun v s' => LeaveK h₀ L m g (fun r s' => match r with | .ok (.ret v) => Q v s' | .ok _ => False | .error e => E e s') v s') _ h₁ _ B' F' X' N' T' ?d ?u ?pa ?r) (fun fl s' h => ?fl) (fun _ _ h => h)
  case d =>
    show dp + 1 + D < recursionLimit
    rw [Nat.add_assoc, Nat.add_comm 1 D]; exact hdp
  case u =>
    show un + 3 + 8 * D < cLine
    omega
  case r =>
    intro m' v news' h' tk' hR F N
    exact lv v news' h' tk' m' hR F N
  case fl => cases fl <;> exact h
  case pa => exact PassesOwn.leaving
theorem ct_of_body {w : World} {mean : ExcName → Option Value} {mg mb : Str → Option Value} {D : Nat} {news : Led} {vs : List Value} {Ret : Value → Led → Prop} {qual name : Str} {params : Arguments} {body : List Stmt} {scope : Scope} {dV kV doc pm ct oc : Value} {an od : Option Addr} {osl : Array (Option Value)} {f c : Addr} {binds : List (Str × Value)}
    (ho : (hd.heap_39 w.params).lookup f = some ⟨oc, od, .func (fnOf name qual params body scope dV kV doc pm an (.ref c) ct), osl⟩) (hcd : codeIn (hd.heap_39 w.params) (.ref c) qual = true)
    (hbind : ∀ (s : Shared), (hd.heap_39 w.params).In s.heap → BindsTo s (fnOf name qual params body scope dV kV doc pm an (.ref c) ct) ⟨vs, []⟩ binds) (hloc : ∀ y ∈ binds, scope.names.lookup y.1 = some .local)
    (hco : scope.isCoroutine = false) (hgen : scope.isGenerator = false) (hk : scope.kind = .function) (hcell : ∀ x ∈ scope.names, x.2 ≠ .cell)
    (hb : ∀ (dp un : Nat) (gd : Option (List Code)) (outer : List Env) (A₀ : Around) (base h₀ : Heap) (L : Addr) (s : Shared) (Q E : Value → Shared → Prop), Bd ⟨w, mean, mg, mb, dp, un, gd, outer, A₀, base, h₀, L, s, Q, E⟩ D qual scope f c body (fun y => binds.reverse.lookup y) news Ret) : Ct w mean mg mb (D + 1) f news True vs Ret :=
  fun dp un gd cn cs fa ccd cl outer A₀ base h₀ L m s Q E B F X N T hk9 hp hd9 hu hR => wpAny_call (cc_of_body ho hcd hbind hloc hco hgen hk hcell hb dp un gd cn cs fa ccd cl outer A₀ base h₀ L m s Q E B F X N T hk9 hp hd9 hu hR)
theorem bd_lit {x : Cx} {D : Nat} {nm : Str} {scope scope' : Scope} {f c : Nat} {body body' : List Stmt} {m : Str → Option Value} {news : Led} {Ret : Value → Led → Prop} (e1 : scope = scope') (e2 : body = body') (h : Bd x D nm scope' f c body' m news Ret) : Bd x D nm scope f c body m news Ret := e1 ▸ e2 ▸ h
theorem frLet {h₀ h : Heap} {L : Addr} {m : Str → Option Value} {G : Prop} (F : Fr h₀ L h m) (k : let m' : Str → Option Value := m; Fr h₀ L h m' → G) : G := k F
noncomputable def clsBody (nm : String) : List Stmt → List Stmt
  | [] => []
  | .ClassDef n _ _ b .. :: r => if n == Str.ofString nm then b else clsBody nm r
  | _ :: r => clsBody nm r
noncomputable def methBody (c nm : String) : List Stmt := stmtsOf nm (clsBody c PySem.Challenge.pw_ok0177_01.main.body)
noncomputable def methScope (c nm : String) : Scope := scopeIn nm (clsBody c PySem.Challenge.pw_ok0177_01.main.body)
theorem ct_cls {w : World} {mean : ExcName → Option Value} {mg mb : Str → Option Value} {D C fI : Nat} {news : Led} {vs : List Value} {Ret : Value → Led → Prop}
    (hm : makesIn (hd.heap_39 w.params) C = true) (hi : findIn (hd.heap_39 w.params) (.ref C) "__init__" = some (some (.ref fI))) (hf : isFn (hd.heap_39 w.params) (.ref fI) = true)
    (c : ∀ x dx, AllLt dx news → dx < x → CtA w mean mg mb D fI ((x, instObj C dx) :: (dx, dictOf [] 0) :: news) True (.ref x :: vs) (fun v ns => v = .none ∧ Ret (.ref x) ns)) :
    Ct w mean mg mb (D + 2) C news True vs Ret := by
  intro dp un gd cn cs fa ccd cl outer A₀ base h₀ L m s Q E HB HF HX HN HT hkind hp hdp hun hret
  refine call_cls HF HX HN hm hi hf (fun x dx h' F N l1 l2 => ?_)
  have h9 := c x dx (allLt_of l1) l2 (dp + 1) (un + 1) gd cn cs fa ccd cl outer A₀ base h₀ L m { s with heap := h' } (fun v s' => v = .none ∧ Q (.ref x) s') E HB F HX N HT hkind trivial (by omega) (by omega) (fun v ns h2 tk2 hR F2 N2 => ⟨hR.1, hret _ _ _ _ hR.2 F2 N2⟩)
  refine codeAny_mono h9 (fun r s' h => ?_)
  cases r with
  | error e => exact h
  | ok f => cases f with
    | ret v => exact h
    | _ => exact h
end
section
abbrev kAr (x : Cx) (env : Env) : Around := { handled := none, depth := x.dp, frames := some (env :: x.outer), guards := x.gd, units := x.un }
abbrev kMd (x : Cx) : Model := model PySem.Challenge.rw_ok0177_01.row.prog x.w
abbrev kSt (x : Cx) (h : Heap) (tk : Nat) : Shared := { x.s with heap := h, toks := tk }
def kD {α : Type} (x : Cx) (env : Env) (t : Sem α) (m : Str → Option Value) (nw : Led) (tk : Nat) (v : α) (tk' : Nat) : Prop :=
  ∀ (h : Heap), Fr x.h₀ x.L h m → News x.h₀ x.L h nw → ∀ (Q : α → Shared → Prop) (E : Value → Shared → Prop), Q v (kSt x h tk') → wpAny (kMd x) (kAr x env) t Q E (kSt x h tk)
abbrev Ev (x : Cx) (env : Env) (e : Expr) := kD x env (eval e env)
abbrev Tv (x : Cx) (env : Env) (e : Expr) (w : Sem Value) := kD x env (isTrue e env w)
abbrev EvL (x : Cx) (env : Env) (pos : Pos) (es : List Expr) := kD x env (spliced (backTo pos (starEach es env)))
def Pu {α : Type} (x : Cx) (t : Sem α) (v : α) : Prop := ∀ (A : Around) (Q : α → Shared → Prop) (E : Value → Shared → Prop) (s : Shared), Q v s → wpAny (kMd x) A t Q E s
def Pn (x : Cx) (t : Sem Value) (n : Int) : Prop := ∀ (A : Around) (Q : Value → Shared → Prop) (E : Value → Shared → Prop) (s : Shared), Q (.int n s.toks) { s with toks := s.toks + 1 } → wpAny (kMd x) A t Q E s
structure Wf (x : Cx) (D : Nat) : Prop where
  B : Below x.A₀ x.base x.outer x.h₀
  X : (hd.heap_39 x.w.params).In x.h₀
  T : Top hd.view_39 loo x.mean x.mg x.mb x.h₀
  d : x.dp + D < recursionLimit
  u : x.un + 8 * D < cLine
theorem pu_eqI (x : Cx) {a b : Int} {t u : Tok} : Pu x (compareOp .Eq (.int a t) (.int b u)) (.bool (a == b)) := fun _ _ _ _ h => PySem.P.eq_int h
theorem pu_neI (x : Cx) {a b : Int} {t u : Tok} : Pu x (compareOp .NotEq (.int a t) (.int b u)) (.bool (a != b)) := fun _ _ _ _ h => PySem.P.ne_int h
theorem pu_ltI (x : Cx) {a b : Int} {t u : Tok} : Pu x (compareOp .Lt (.int a t) (.int b u)) (.bool (decide (a < b))) := fun _ _ _ _ h => PySem.P.lt_int h
theorem pu_leI (x : Cx) {a b : Int} {t u : Tok} : Pu x (compareOp .LtE (.int a t) (.int b u)) (.bool (decide (a ≤ b))) := fun _ _ _ _ h => PySem.P.le_int h
theorem pu_gtI (x : Cx) {a b : Int} {t u : Tok} : Pu x (compareOp .Gt (.int a t) (.int b u)) (.bool (decide (a > b))) := fun _ _ _ _ h => PySem.P.gt_int h
theorem pu_geI (x : Cx) {a b : Int} {t u : Tok} : Pu x (compareOp .GtE (.int a t) (.int b u)) (.bool (decide (a ≥ b))) := fun _ _ _ _ h => PySem.P.ge_int h
theorem pu_eqS (x : Cx) {a b : Str} {t u : Tok} : Pu x (compareOp .Eq (.str a t) (.str b u)) (.bool (a == b)) := fun _ _ _ _ h => PyProof.Rows.eq_str h
theorem pu_neS (x : Cx) {a b : Str} {t u : Tok} : Pu x (compareOp .NotEq (.str a t) (.str b u)) (.bool (a != b)) := fun _ _ _ _ h => PyProof.Rows.ne_str h
theorem pn_add (x : Cx) {a b : Int} {t u : Tok} : Pn x (binaryOp .Add (.int a t) (.int b u)) (a + b) := fun _ _ _ _ h => PySem.P.add_int h
theorem pn_sub (x : Cx) {a b : Int} {t u : Tok} : Pn x (binaryOp .Sub (.int a t) (.int b u)) (a - b) := fun _ _ _ _ h => PySem.P.sub_int h
theorem pn_neg (x : Cx) {a : Int} {t : Tok} : Pn x (unaryOp .USub (.int a t)) (-a) := fun _ _ _ _ h => PySem.P.neg_int h
theorem ev_loc (x : Cx) (cn : Str) (cs : Scope) (a : Addr) (ccd : Value) (cl : List (Str × Addr)) (n : Str) (hk : cs.kind = .function) (hx : (envX cn cs x.L a ccd cl).kindOf n = some .local) (hdb : (n == ("__debug__" : Str)) = false) {m : Str → Option Value} {v : Value} (hv : m n = some v)
    (p : Pos) (nw : Led) (tk : Nat) : Ev x (envX cn cs x.L a ccd cl) (.Name n p) m nw tk v tk := fun h F N Q E k => nameX_L F hv k hk hx hdb
theorem ev_glob (x : Cx) (cn : Str) (cs : Scope) (a : Addr) (ccd : Value) (cl : List (Str × Addr)) (n : Str) {v : Value} (e : nsIn (hd.heap_39 x.w.params) mainGlobals n = some (some v)) (hk : cs.kind = .function) (hx : (envX cn cs x.L a ccd cl).kindOf n = some .globalImplicit) (hdb : (n == ("__debug__" : Str)) = false)
    {D : Nat} (W : Wf x D) (p : Pos) (m : Str → Option Value) (nw : Led) (tk : Nat) : Ev x (envX cn cs x.L a ccd cl) (.Name n p) m nw tk v tk := fun h F N Q E k => nameX_K F W.X (topRead_of W.T) e k hk hx hdb
theorem ev_blt (x : Cx) (cn : Str) (cs : Scope) (a : Addr) (ccd : Value) (cl : List (Str × Addr)) (n : Str) {v : Value} (e : nsIn (hd.heap_39 x.w.params) mainGlobals n = some none) (hv : bootBuiltins n = some v) (hn : n ≠ "__name__") (hk : cs.kind = .function) (hx : (envX cn cs x.L a ccd cl).kindOf n = some .globalImplicit) (hdb : (n == ("__debug__" : Str)) = false)
    {D : Nat} (W : Wf x D) (p : Pos) (m : Str → Option Value) (nw : Led) (tk : Nat) : Ev x (envX cn cs x.L a ccd cl) (.Name n p) m nw tk v tk := fun h F N Q E k => nameX_B F W.X (topRead_of W.T) e hv hn k hk hx hdb
theorem ev_int (x : Cx) (env : Env) (i : Int) (k : Nat) (p : Pos) (m : Str → Option Value) (nw : Led) (tk : Nat) : Ev x env (.Constant (.int i) k p) m nw tk (.int i tk) (tk + 1) := fun _ _ _ _ _ h => wpAny_Constant_int h
theorem ev_str (x : Cx) (env : Env) (i : Str) (k : Nat) (p : Pos) (m : Str → Option Value) (nw : Led) (tk : Nat) : Ev x env (.Constant (.str i) k p) m nw tk (.str i tk) (tk + 1) := fun _ _ _ _ _ h => wpAny_Constant_str h
theorem ev_none (x : Cx) (env : Env) (k : Nat) (p : Pos) (m : Str → Option Value) (nw : Led) (tk : Nat) : Ev x env (.Constant .none k p) m nw tk .none tk := fun _ _ _ _ _ h => wpAny_Constant_none h
theorem ev_bool (x : Cx) (env : Env) (b : Bool) (k : Nat) (p : Pos) (m : Str → Option Value) (nw : Led) (tk : Nat) : Ev x env (.Constant (.bool b) k p) m nw tk (.bool b) tk := fun _ _ _ _ _ h => wpAny_Constant_bool h
theorem ev_attr (x : Cx) (cn : Str) (cs : Scope) (a : Addr) (ccd : Value) (cl : List (Str × Addr)) (xn : Str) (hk : cs.kind = .function) (hx : (envX cn cs x.L a ccd cl).kindOf xn = some .local) (hdb : (xn == ("__debug__" : Str)) = false)
    (name : Str) {C : Addr} {attr : Option Value} (hg : plainGet (hd.heap_39 x.w.params) C name = true) (hh : hasDictIn (hd.heap_39 x.w.params) C = true) (ha : findIn (hd.heap_39 x.w.params) (.ref C) name = some attr) (hn : noGet (hd.heap_39 x.w.params) attr = true)
    {D : Nat} (W : Wf x D) {m : Str → Option Value} {nw : Led} {o d : Addr} {v : Value} {es : List DictEntry} {n : Nat} (h1 : m xn = some (.ref o)) (m1 : (o, instObj C d) ∈ nw) (m2 : (d, dictOf es n) ∈ nw) (hl : getL name es = some (some v)) (hv : handedIn v = true)
    (xp pos : Pos) (tk : Nat) : Ev x (envX cn cs x.L a ccd cl) (.Attribute (.Name xn xp) name pos) m nw tk v (tk + 1) := fun h F N Q E k => by
  refine Attribute_Name_ (nameX_L F h1 ?_ hk hx hdb) (by with_unfolding_all rfl)
  exact get_own F W.X (InstAt.of_news N m1 m2) hg hh ha hn hl hv k
theorem evl_nil (x : Cx) (env : Env) (pos : Pos) (m : Str → Option Value) (nw : Led) (tk : Nat) : EvL x env pos [] m nw tk [] tk := fun _ _ _ _ _ h => args_nil h
theorem evl_cons (x : Cx) (env : Env) (pos : Pos) (e : Expr) (rest : List Expr) (he : starEach (e :: rest) env = (false, eval e env) :: starEach rest env) {m : Str → Option Value} {nw : Led} {tk tk1 tk2 : Nat} {v : Value} {vs : List Value} (h1 : Ev x env e m nw tk v tk1) (h2 : EvL x env pos rest m nw tk1 vs tk2) :
    EvL x env pos (e :: rest) m nw tk (v :: vs) tk2 := fun h F N Q E k => args_cons (h1 h F N _ E (h2 h F N _ E k)) he
theorem ev_cmp (x : Cx) (env : Env) (l : Expr) (op : CmpOp) (r : Expr) (pos : Pos) (hm : behindInMarks op r = false) {m : Str → Option Value} {nw : Led} {tk tk1 tk2 : Nat} {a b v : Value} (h1 : Ev x env l m nw tk a tk1) (h2 : Ev x env r m nw tk1 b tk2) (hp : Pu x (compareOp op a b) v) :
    Ev x env (.Compare l [op] [r] pos) m nw tk v tk2 := fun h F N Q E k => wpAny_Compare1 (h1 h F N _ E (h2 h F N _ E (hp _ _ _ _ k))) hm
theorem ev_bin (x : Cx) (env : Env) (l : Expr) (op : Operator) (r : Expr) (pos : Pos) {m : Str → Option Value} {nw : Led} {tk tk1 tk2 : Nat} {a b : Value} {n : Int} (h1 : Ev x env l m nw tk a tk1) (h2 : Ev x env r m nw tk1 b tk2) (hp : Pn x (binaryOp op a b) n) :
    Ev x env (.BinOp l op r pos) m nw tk (.int n tk2) (tk2 + 1) := fun h F N Q E k => wpAny_BinOp (h1 h F N _ E (h2 h F N _ E (hp _ _ _ _ k)))
theorem ev_un (x : Cx) (env : Env) (op : UnaryOp) (l : Expr) (pos : Pos) {m : Str → Option Value} {nw : Led} {tk tk1 : Nat} {a : Value} {n : Int} (h1 : Ev x env l m nw tk a tk1) (hp : Pn x (unaryOp op a) n) :
    Ev x env (.UnaryOp op l pos) m nw tk (.int n tk1) (tk1 + 1) := fun h F N Q E k => wpAny_UnaryOp (h1 h F N _ E (hp _ _ _ _ k))
theorem tv_cmp (x : Cx) (env : Env) (l : Expr) (op : CmpOp) (r : Expr) (pos : Pos) (whole : Sem Value) (hm : behindInMarks op r = false) {m : Str → Option Value} {nw : Led} {tk tk1 tk2 : Nat} {a b : Value} {c : Bool} (h1 : Ev x env l m nw tk a tk1) (h2 : Ev x env r m nw tk1 b tk2) (hp : Pu x (compareOp op a b) (.bool c)) :
    Tv x env (.Compare l [op] [r] pos) whole m nw tk c tk2 := fun h F N Q E k => wpAny_isTrue_Compare1 (h1 h F N _ E (h2 h F N _ E (hp _ _ _ _ (wpAny_truthy_bool k)))) hm
theorem tv_and0 (x : Cx) (env : Env) (pos : Pos) (whole : Sem Value) (m : Str → Option Value) (nw : Led) (tk : Nat) : Tv x env (.BoolOp .And [] pos) whole m nw tk true tk := fun h F N Q E k => isTrue_and_nil k
theorem tv_or0 (x : Cx) (env : Env) (pos : Pos) (whole : Sem Value) (m : Str → Option Value) (nw : Led) (tk : Nat) : Tv x env (.BoolOp .Or [] pos) whole m nw tk false tk := fun h F N Q E k => isTrue_or_nil k
theorem tv_andf (x : Cx) (env : Env) (e : Expr) (rest : List Expr) (pos : Pos) (whole : Sem Value) {m : Str → Option Value} {nw : Led} {tk tk1 : Nat} {c : Bool} (h1 : Tv x env e (eval e env) m nw tk c tk1) (hc : c = false) :
    Tv x env (.BoolOp .And (e :: rest) pos) whole m nw tk false tk1 := fun h F N Q E k => by subst hc; exact isTrue_and (h1 h F N _ E (by exact k))
theorem tv_andt (x : Cx) (env : Env) (e : Expr) (rest : List Expr) (pos : Pos) (whole : Sem Value) {m : Str → Option Value} {nw : Led} {tk tk1 tk2 : Nat} {c d : Bool} (h1 : Tv x env e (eval e env) m nw tk c tk1) (hc : c = true) (h2 : Tv x env (.BoolOp .And rest pos) whole m nw tk1 d tk2) :
    Tv x env (.BoolOp .And (e :: rest) pos) whole m nw tk d tk2 := fun h F N Q E k => by subst hc; exact isTrue_and (h1 h F N _ E (h2 h F N _ E k))
theorem tv_ort (x : Cx) (env : Env) (e : Expr) (rest : List Expr) (pos : Pos) (whole : Sem Value) {m : Str → Option Value} {nw : Led} {tk tk1 : Nat} {c : Bool} (h1 : Tv x env e (eval e env) m nw tk c tk1) (hc : c = true) :
    Tv x env (.BoolOp .Or (e :: rest) pos) whole m nw tk true tk1 := fun h F N Q E k => by subst hc; exact isTrue_or (h1 h F N _ E (by exact k))
theorem tv_orf (x : Cx) (env : Env) (e : Expr) (rest : List Expr) (pos : Pos) (whole : Sem Value) {m : Str → Option Value} {nw : Led} {tk tk1 tk2 : Nat} {c d : Bool} (h1 : Tv x env e (eval e env) m nw tk c tk1) (hc : c = false) (h2 : Tv x env (.BoolOp .Or rest pos) whole m nw tk1 d tk2) :
    Tv x env (.BoolOp .Or (e :: rest) pos) whole m nw tk d tk2 := fun h F N Q E k => by subst hc; exact isTrue_or (h1 h F N _ E (h2 h F N _ E k))
theorem tv_val (x : Cx) (env : Env) (e : Expr) (he : isTrue e env (eval e env) = (do let v ← eval e env; standAt e.pos; holding [v] (truthy v))) {m : Str → Option Value} {nw : Led} {tk tk1 : Nat} {c : Bool} (h1 : Ev x env e m nw tk (.bool c) tk1) :
    Tv x env e (eval e env) m nw tk c tk1 := fun h F N Q E k => isTrue_plain (h1 h F N _ E (wpAny_truthy_bool k)) he
theorem ev_ift (x : Cx) (env : Env) (test body orelse : Expr) (pos : Pos) {m : Str → Option Value} {nw : Led} {tk tk1 tk2 : Nat} {v : Value} {c : Bool} (h1 : Tv x env test (eval test env) m nw tk c tk1) (hc : c = true) (h2 : Ev x env body m nw tk1 v tk2) :
    Ev x env (.IfExp test body orelse pos) m nw tk v tk2 := fun h F N Q E k => by subst hc; exact IfExp_ (h1 h F N _ E (h2 h F N _ E k))
theorem ev_iff (x : Cx) (env : Env) (test body orelse : Expr) (pos : Pos) {m : Str → Option Value} {nw : Led} {tk tk1 tk2 : Nat} {v : Value} {c : Bool} (h1 : Tv x env test (eval test env) m nw tk c tk1) (hc : c = false) (h2 : Ev x env orelse m nw tk1 v tk2) :
    Ev x env (.IfExp test body orelse pos) m nw tk v tk2 := fun h F N Q E k => by subst hc; exact IfExp_ (h1 h F N _ E (h2 h F N _ E k))
theorem ev_use (x : Cx) (env : Env) (e : Expr) (Q E : Value → Shared → Prop) {m : Str → Option Value} {nw : Led} {tk tk1 : Nat} {v : Value} {h : Heap} (h1 : Ev x env e m nw tk v tk1) (F : Fr x.h₀ x.L h m) (N : News x.h₀ x.L h nw) (k : Q v (kSt x h tk1)) :
    wpAny (kMd x) (kAr x env) (eval e env) Q E (kSt x h tk) := h1 h F N Q E k
theorem evl_use (x : Cx) (env : Env) (pos : Pos) (es : List Expr) (Q : List Value → Shared → Prop) (E : Value → Shared → Prop) {m : Str → Option Value} {nw : Led} {tk tk1 : Nat} {vs : List Value} {h : Heap} (h1 : EvL x env pos es m nw tk vs tk1) (F : Fr x.h₀ x.L h m) (N : News x.h₀ x.L h nw) (k : Q vs (kSt x h tk1)) :
    wpAny (kMd x) (kAr x env) (spliced (backTo pos (starEach es env))) Q E (kSt x h tk) := h1 h F N Q E k
theorem xc_call (x : Cx) (cn : Str) (cs : Scope) (a : Addr) (ccd : Value) (cl : List (Str × Addr)) (n : Str) {f : Value} (e0 : nsIn (hd.heap_39 x.w.params) mainGlobals n = some (some f)) (hk : cs.kind = .function) (hx : (envX cn cs x.L a ccd cl).kindOf n = some .globalImplicit) (hdb : (n == ("__debug__" : Str)) = false) (hf : keepIn (hd.heap_39 x.w.params) f = true)
    (p : Pos) (e : Expr) (rest : List Expr) (pos : Pos) (he : starEach (e :: rest) (envX cn cs x.L a ccd cl) = (false, eval e (envX cn cs x.L a ccd cl)) :: starEach rest (envX cn cs x.L a ccd cl)) (hp : (backTo pos (starEach rest (envX cn cs x.L a ccd cl))).any (·.1) = false) (Q E : Value → Shared → Prop)
    {D : Nat} (W : Wf x D) {m : Str → Option Value} {nw : Led} {tk tk1 : Nat} {vs : List Value} {h : Heap} (ha : EvL x (envX cn cs x.L a ccd cl) pos (e :: rest) m nw tk vs tk1) (F : Fr x.h₀ x.L h m) (N : News x.h₀ x.L h nw)
    (k : wpAny (kMd x) (kAr x (envX cn cs x.L a ccd cl)) (call f vs) Q E (kSt x h tk1)) : wpAny (kMd x) (kAr x (envX cn cs x.L a ccd cl)) (eval (.Call (.Name n p) (e :: rest) [] pos) (envX cn cs x.L a ccd cl)) Q E (kSt x h tk) :=
  Call_ (nameX_K F W.X (topRead_of W.T) e0 (callWith_K (first := []) (W.X.keeps F.keep) hf (ha h F N _ E ⟨W.X.keeps F.keep, k⟩) he hp) hk hx hdb) rfl
theorem xc_call0 (x : Cx) (cn : Str) (cs : Scope) (a : Addr) (ccd : Value) (cl : List (Str × Addr)) (n : Str) {f : Value} (e0 : nsIn (hd.heap_39 x.w.params) mainGlobals n = some (some f)) (hk : cs.kind = .function) (hx : (envX cn cs x.L a ccd cl).kindOf n = some .globalImplicit) (hdb : (n == ("__debug__" : Str)) = false) (hf : keepIn (hd.heap_39 x.w.params) f = true)
    (p : Pos) (pos : Pos) (Q E : Value → Shared → Prop)
    {D : Nat} (W : Wf x D) {m : Str → Option Value} {nw : Led} {tk : Nat} {h : Heap} (F : Fr x.h₀ x.L h m) (N : News x.h₀ x.L h nw)
    (k : wpAny (kMd x) (kAr x (envX cn cs x.L a ccd cl)) (call f []) Q E (kSt x h tk)) : wpAny (kMd x) (kAr x (envX cn cs x.L a ccd cl)) (eval (.Call (.Name n p) [] [] pos) (envX cn cs x.L a ccd cl)) Q E (kSt x h tk) :=
  Call_ (nameX_K F W.X (topRead_of W.T) e0 (callWith_K0 (first := []) (W.X.keeps F.keep) hf k) hk hx hdb) rfl
def kCall (x : Cx) (env : Env) (f : Value) (Q E : Value → Shared → Prop) (vs : List Value) (s : Shared) : Prop := (hd.heap_39 x.w.params).In s.heap ∧ wpAny (kMd x) (kAr x env) (call f ([] ++ vs)) Q E s
theorem kcall_ (x : Cx) (env : Env) (f : Value) (Q E : Value → Shared → Prop) {D : Nat} (W : Wf x D) {m : Str → Option Value} {tk : Nat} {vs : List Value} {h : Heap} (F : Fr x.h₀ x.L h m) (k : wpAny (kMd x) (kAr x env) (call f vs) Q E (kSt x h tk)) : kCall x env f Q E vs (kSt x h tk) := ⟨W.X.keeps F.keep, k⟩
theorem xc_callC (x : Cx) (cn : Str) (cs : Scope) (a : Addr) (ccd : Value) (cl : List (Str × Addr)) (n : Str) {f : Value} (e0 : nsIn (hd.heap_39 x.w.params) mainGlobals n = some (some f)) (hk : cs.kind = .function) (hx : (envX cn cs x.L a ccd cl).kindOf n = some .globalImplicit) (hdb : (n == ("__debug__" : Str)) = false) (hf : keepIn (hd.heap_39 x.w.params) f = true)
    (p : Pos) (e : Expr) (rest : List Expr) (pos : Pos) (he : starEach (e :: rest) (envX cn cs x.L a ccd cl) = (false, eval e (envX cn cs x.L a ccd cl)) :: starEach rest (envX cn cs x.L a ccd cl)) (hp : (backTo pos (starEach rest (envX cn cs x.L a ccd cl))).any (·.1) = false) (Q E : Value → Shared → Prop)
    {D : Nat} (W : Wf x D) {m : Str → Option Value} {tk : Nat} {h : Heap} (F : Fr x.h₀ x.L h m)
    (k : wpAny (kMd x) (kAr x (envX cn cs x.L a ccd cl)) (spliced (backTo pos (starEach (e :: rest) (envX cn cs x.L a ccd cl)))) (kCall x (envX cn cs x.L a ccd cl) f Q E) E (kSt x h tk)) : wpAny (kMd x) (kAr x (envX cn cs x.L a ccd cl)) (eval (.Call (.Name n p) (e :: rest) [] pos) (envX cn cs x.L a ccd cl)) Q E (kSt x h tk) :=
  Call_ (nameX_K F W.X (topRead_of W.T) e0 (callWith_K (first := []) (W.X.keeps F.keep) hf k he hp) hk hx hdb) rfl
def kArg (x : Cx) (env : Env) (pos : Pos) (rest : List Expr) (Q : List Value → Shared → Prop) (E : Value → Shared → Prop) (v : Value) (s : Shared) : Prop := wpAny (kMd x) (kAr x env) (spliced (backTo pos (starEach rest env))) (fun vs s' => Q (v :: vs) s') E s
theorem karg_ (x : Cx) (env : Env) (pos : Pos) (rest : List Expr) (Q : List Value → Shared → Prop) (E : Value → Shared → Prop) {v : Value} {s : Shared} (k : wpAny (kMd x) (kAr x env) (spliced (backTo pos (starEach rest env))) (fun vs s' => Q (v :: vs) s') E s) : kArg x env pos rest Q E v s := k
theorem xl_consC (x : Cx) (env : Env) (pos : Pos) (e : Expr) (rest : List Expr) (he : starEach (e :: rest) env = (false, eval e env) :: starEach rest env) (Q : List Value → Shared → Prop) (E : Value → Shared → Prop) {s : Shared} (k : wpAny (kMd x) (kAr x env) (eval e env) (kArg x env pos rest Q E) E s) :
    wpAny (kMd x) (kAr x env) (spliced (backTo pos (starEach (e :: rest) env))) Q E s := args_cons k he
theorem xl_consP (x : Cx) (env : Env) (pos : Pos) (e : Expr) (rest : List Expr) (he : starEach (e :: rest) env = (false, eval e env) :: starEach rest env) (Q : List Value → Shared → Prop) (E : Value → Shared → Prop) {m : Str → Option Value} {nw : Led} {tk tk1 : Nat} {v : Value} {h : Heap} (h1 : Ev x env e m nw tk v tk1) (F : Fr x.h₀ x.L h m) (N : News x.h₀ x.L h nw) (k : wpAny (kMd x) (kAr x env) (spliced (backTo pos (starEach rest env))) (fun vs s' => Q (v :: vs) s') E (kSt x h tk1)) :
    wpAny (kMd x) (kAr x env) (spliced (backTo pos (starEach (e :: rest) env))) Q E (kSt x h tk) := args_cons (h1 h F N _ E k) he
theorem xt_cmp (x : Cx) (env : Env) (l : Expr) (op : CmpOp) (r : Expr) (pos : Pos) (hm : behindInMarks op r = false) {whole : Sem Value} (Q : Bool → Shared → Prop) (E : Value → Shared → Prop) {m : Str → Option Value} {nw : Led} {tk tk1 tk2 : Nat} {a b : Value} {h : Heap} (h1 : Ev x env l m nw tk a tk1) (h2 : Ev x env r m nw tk1 b tk2) (F : Fr x.h₀ x.L h m) (N : News x.h₀ x.L h nw)
    (k : wpAny (kMd x) (kAr x env) (compareOp op a b) (fun c s₃ => wpAny (kMd x) (kAr x env) (truthy c) Q E s₃) E (kSt x h tk2)) : wpAny (kMd x) (kAr x env) (isTrue (.Compare l [op] [r] pos) env whole) Q E (kSt x h tk) := wpAny_isTrue_Compare1 (h1 h F N _ E (h2 h F N _ E k)) hm
theorem xc_bin (x : Cx) (env : Env) (l : Expr) (op : Operator) (r : Expr) (pos : Pos) (Q E : Value → Shared → Prop) {m : Str → Option Value} {nw : Led} {tk tk1 tk2 : Nat} {a b : Value} {h : Heap} (h1 : Ev x env l m nw tk a tk1) (h2 : Ev x env r m nw tk1 b tk2) (F : Fr x.h₀ x.L h m) (N : News x.h₀ x.L h nw)
    (k : wpAny (kMd x) (kAr x env) (binaryOp op a b) Q E (kSt x h tk2)) : wpAny (kMd x) (kAr x env) (eval (.BinOp l op r pos) env) Q E (kSt x h tk) := wpAny_BinOp (h1 h F N _ E (h2 h F N _ E k))
theorem xc_sub (x : Cx) (env : Env) (l r : Expr) (pos : Pos) (Q E : Value → Shared → Prop) {m : Str → Option Value} {nw : Led} {tk tk1 tk2 : Nat} {a b : Value} {h : Heap} (h1 : Ev x env l m nw tk a tk1) (h2 : Ev x env r m nw tk1 b tk2) (F : Fr x.h₀ x.L h m) (N : News x.h₀ x.L h nw)
    (k : wpAny (kMd x) (kAr x env) (subscriptTail l r a b) Q E (kSt x h tk2)) : wpAny (kMd x) (kAr x env) (eval (.Subscript l r pos) env) Q E (kSt x h tk) := Subscript_ (h1 h F N _ E (h2 h F N _ E k))
theorem xs_asn (x : Cx) (cn : Str) (cs : Scope) (a : Addr) (ccd : Value) (cl : List (Str × Addr)) (n : Str) (hk : cs.kind = .function) (hx : (envX cn cs x.L a ccd cl).kindOf n = some .local) (p : Pos) (e : Expr) (pos : Pos) (rest : List Stmt) (hs : swapsWith e (some (.Name n p)) pos.line (envX cn cs x.L a ccd cl) = pure false)
    (Q : Flow → Shared → Prop) (E : Value → Shared → Prop) {m : Str → Option Value} {nw : Led} {tk tk1 : Nat} {v : Value} {h : Heap} (h1 : Ev x (envX cn cs x.L a ccd cl) e m nw tk v tk1) (F : Fr x.h₀ x.L h m) (N : News x.h₀ x.L h nw)
    (k : let m' : Str → Option Value := fun y => if y = n then some v else m y; ∀ h' tk', Fr x.h₀ x.L h' m' → News x.h₀ x.L h' nw → wpAny (kMd x) (kAr x (envX cn cs x.L a ccd cl)) (execs rest (envX cn cs x.L a ccd cl)) Q E (kSt x h' tk')) :
    wpAny (kMd x) (kAr x (envX cn cs x.L a ccd cl)) (execs (.Assign [.Name n p] e pos :: rest) (envX cn cs x.L a ccd cl)) Q E (kSt x h tk) :=
  wpAny_execs_cons (wpAny_Assign_Name (h1 h F N _ E (storeX_L F N (fun h' F' N' => k h' _ F' N') hk hx)) hs)
theorem xs_ret (x : Cx) (env : Env) (e : Expr) (pos : Pos) (rest : List Stmt) (Q : Flow → Shared → Prop) (E : Value → Shared → Prop) {m : Str → Option Value} {nw : Led} {tk tk1 : Nat} {v : Value} {h : Heap} (h1 : Ev x env e m nw tk v tk1) (F : Fr x.h₀ x.L h m) (N : News x.h₀ x.L h nw)
    (k : Q (.ret v) (kSt x h tk1)) : wpAny (kMd x) (kAr x env) (execs (.Return (some e) pos :: rest) env) Q E (kSt x h tk) := wpAny_execs_cons (wpAny_Return_some (h1 h F N _ E k))
def kAsn (x : Cx) (env : Env) (n : Str) (rest : List Stmt) (Q : Flow → Shared → Prop) (E : Value → Shared → Prop) (v : Value) (s : Shared) : Prop := wpAny (kMd x) (kAr x env) (storeName env n v) (fun _ s' => wpAny (kMd x) (kAr x env) (execs rest env) Q E s') E s
theorem kasn_ (x : Cx) (cn : Str) (cs : Scope) (a : Addr) (ccd : Value) (cl : List (Str × Addr)) (n : Str) (hk : cs.kind = .function) (hx : (envX cn cs x.L a ccd cl).kindOf n = some .local) (rest : List Stmt) (Q : Flow → Shared → Prop) (E : Value → Shared → Prop) {m : Str → Option Value} {nw : Led} {tk : Nat} {v : Value} {h : Heap} (F : Fr x.h₀ x.L h m) (N : News x.h₀ x.L h nw)
    (k : let m' : Str → Option Value := fun y => if y = n then some v else m y; ∀ h' tk', Fr x.h₀ x.L h' m' → News x.h₀ x.L h' nw → wpAny (kMd x) (kAr x (envX cn cs x.L a ccd cl)) (execs rest (envX cn cs x.L a ccd cl)) Q E (kSt x h' tk')) : kAsn x (envX cn cs x.L a ccd cl) n rest Q E v (kSt x h tk) := storeX_L F N (fun h' F' N' => k h' _ F' N') hk hx
theorem xs_asnC (x : Cx) (env : Env) (n : Str) (p : Pos) (e : Expr) (pos : Pos) (rest : List Stmt) (hs : swapsWith e (some (.Name n p)) pos.line env = pure false) (Q : Flow → Shared → Prop) (E : Value → Shared → Prop) {s : Shared} (k : wpAny (kMd x) (kAr x env) (eval e env) (kAsn x env n rest Q E) E s) :
    wpAny (kMd x) (kAr x env) (execs (.Assign [.Name n p] e pos :: rest) env) Q E s := wpAny_execs_cons (wpAny_Assign_Name k hs)
def kRet (Q : Flow → Shared → Prop) (v : Value) (s : Shared) : Prop := Q (.ret v) s
theorem kret_ (Q : Flow → Shared → Prop) {v : Value} {s : Shared} (k : Q (.ret v) s) : kRet Q v s := k
theorem xs_retC (x : Cx) (env : Env) (e : Expr) (pos : Pos) (rest : List Stmt) (Q : Flow → Shared → Prop) (E : Value → Shared → Prop) {s : Shared} (k : wpAny (kMd x) (kAr x env) (eval e env) (kRet Q) E s) :
    wpAny (kMd x) (kAr x env) (execs (.Return (some e) pos :: rest) env) Q E s := wpAny_execs_cons (wpAny_Return_some k)
def kExp (x : Cx) (env : Env) (rest : List Stmt) (Q : Flow → Shared → Prop) (E : Value → Shared → Prop) (v : Value) (s : Shared) : Prop := wpAny (kMd x) (kAr x env) (execs rest env) Q E s
theorem kexp_ (x : Cx) (env : Env) (rest : List Stmt) (Q : Flow → Shared → Prop) (E : Value → Shared → Prop) {v : Value} {s : Shared} (k : wpAny (kMd x) (kAr x env) (execs rest env) Q E s) : kExp x env rest Q E v s := k
theorem xs_expC (x : Cx) (env : Env) (e : Expr) (pos : Pos) (rest : List Stmt) (hi : interactive env = false) (hs : swapsWith e none pos.line env = pure false) (Q : Flow → Shared → Prop) (E : Value → Shared → Prop) {s : Shared} (k : wpAny (kMd x) (kAr x env) (eval e env) (kExp x env rest Q E) E s) :
    wpAny (kMd x) (kAr x env) (execs (.Expr e pos :: rest) env) Q E s := wpAny_execs_cons (wpAny_Expr_any k hi hs)
theorem xs_nil (x : Cx) (env : Env) (Q : Flow → Shared → Prop) (E : Value → Shared → Prop) {s : Shared} (k : Q .next s) : wpAny (kMd x) (kAr x env) (execs [] env) Q E s := wpAny_execs_nil k
theorem execs_app {env : Env} : ∀ (b r : List Stmt), execs (b ++ r) env = (do match ← execs b env with | .next => execs r env | f => pure f)
  | [], r => by rw [execs_nil, pure_bind]; rfl
  | c :: b, r => by
    rw [List.cons_append, execs_cons, execs_cons, bind_assoc]
    congr 1
    funext f
    cases f with
    | next => exact execs_app b r
    | _ => rw [pure_bind]
theorem execs_if {env : Env} (test : Expr) (body orelse rest : List Stmt) (pos : Pos) : execs (.If test body orelse pos :: rest) env = (do standAt pos; let b ← isTrue test env (eval test env); if b then execs (body ++ rest) env else execs (orelse ++ rest) env) := by
  rw [execs_cons, exec_If, bind_assoc]
  congr 1
  funext _
  rw [bind_assoc]
  congr 1
  funext b
  cases b with
  | true => exact (execs_app body rest).symm
  | false => exact (execs_app orelse rest).symm
theorem xs_if {M : Model} {A : Around} {E : Value → Shared → Prop} {env : Env} {test : Expr} {body orelse rest : List Stmt} {pos : Pos} {Q : Flow → Shared → Prop} {s : Shared}
    (h : wpAny M A (isTrue test env (eval test env)) (fun b s₁ => if b then wpAny M A (execs (body ++ rest) env) Q E s₁ else wpAny M A (execs (orelse ++ rest) env) Q E s₁) E s) : wpAny M A (execs (.If test body orelse pos :: rest) env) Q E s := by
  rw [execs_if]
  refine wpAny_bind (wpAny_standAt (wpAny_bind (wpAny_mono h (fun b s₁ h₁ => ?_) fun _ _ x => x)))
  cases b <;> exact h₁
theorem xs_ift (x : Cx) (env : Env) (test : Expr) (body orelse : List Stmt) (pos : Pos) (rest : List Stmt) {r : List Stmt} (hr : body ++ rest = r) (Q : Flow → Shared → Prop) (E : Value → Shared → Prop) {m : Str → Option Value} {nw : Led} {tk tk1 : Nat} {c : Bool} {h : Heap} (h1 : Tv x env test (eval test env) m nw tk c tk1) (F : Fr x.h₀ x.L h m) (N : News x.h₀ x.L h nw) (hc : c = true)
    (k : wpAny (kMd x) (kAr x env) (execs r env) Q E (kSt x h tk1)) : wpAny (kMd x) (kAr x env) (execs (.If test body orelse pos :: rest) env) Q E (kSt x h tk) := by subst hc hr; exact xs_if (h1 h F N _ E k)
theorem xs_iff (x : Cx) (env : Env) (test : Expr) (body orelse : List Stmt) (pos : Pos) (rest : List Stmt) {r : List Stmt} (hr : orelse ++ rest = r) (Q : Flow → Shared → Prop) (E : Value → Shared → Prop) {m : Str → Option Value} {nw : Led} {tk tk1 : Nat} {c : Bool} {h : Heap} (h1 : Tv x env test (eval test env) m nw tk c tk1) (F : Fr x.h₀ x.L h m) (N : News x.h₀ x.L h nw) (hc : c = false)
    (k : wpAny (kMd x) (kAr x env) (execs r env) Q E (kSt x h tk1)) : wpAny (kMd x) (kAr x env) (execs (.If test body orelse pos :: rest) env) Q E (kSt x h tk) := by subst hc hr; exact xs_if (h1 h F N _ E k)
theorem xs_ifb (x : Cx) (env : Env) (test : Expr) (body orelse : List Stmt) (pos : Pos) (rest : List Stmt) {r1 r2 : List Stmt} (hr1 : body ++ rest = r1) (hr2 : orelse ++ rest = r2) (Q : Flow → Shared → Prop) (E : Value → Shared → Prop) {m : Str → Option Value} {nw : Led} {tk tk1 : Nat} {c : Bool} {h : Heap} (h1 : Tv x env test (eval test env) m nw tk c tk1) (F : Fr x.h₀ x.L h m) (N : News x.h₀ x.L h nw)
    (kt : c = true → wpAny (kMd x) (kAr x env) (execs r1 env) Q E (kSt x h tk1)) (kf : c = false → wpAny (kMd x) (kAr x env) (execs r2 env) Q E (kSt x h tk1)) : wpAny (kMd x) (kAr x env) (execs (.If test body orelse pos :: rest) env) Q E (kSt x h tk) := by
  subst hr1 hr2
  cases c with
  | true => exact xs_if (h1 h F N _ E (kt rfl))
  | false => exact xs_if (h1 h F N _ E (kf rfl))
theorem xs_set (x : Cx) (cn : Str) (cs : Scope) (a : Addr) (ccd : Value) (cl : List (Str × Addr)) (sn : Str) (hk : cs.kind = .function) (hx : (envX cn cs x.L a ccd cl).kindOf sn = some .local) (hdb : (sn == ("__debug__" : Str)) = false) (name : Str) {C : Addr}
    (hs : findIn (hd.heap_39 x.w.params) (.ref C) "__setattr__" = some (some (.builtin "object.__setattr__"))) (hp : plainOver (hd.heap_39 x.w.params) C = true) (ht2 : takerIn (hd.heap_39 x.w.params) C name = some none) (hh : hasDictIn (hd.heap_39 x.w.params) C = true) (sp apos : Pos) (e : Expr) (pos : Pos) (rest : List Stmt)
    (hw : swapsWith e (some (.Attribute (.Name sn sp) name apos)) pos.line (envX cn cs x.L a ccd cl) = pure false) (Q : Flow → Shared → Prop) (E : Value → Shared → Prop) {D : Nat} (W : Wf x D) {m : Str → Option Value} {nw nw' : Led} {tk tk1 : Nat} {v : Value} {h : Heap} {o d : Addr} {es es' : List DictEntry} {n n' : Nat}
    (h1 : Ev x (envX cn cs x.L a ccd cl) e m nw tk v tk1) (h2 : m sn = some (.ref o)) (m1 : (o, instObj C d) ∈ nw) (m2 : (d, dictOf es n) ∈ nw) (hl : (getL name es).isSome = true)
    (e9 : (putL name (PyData.keyHash x.w.params name) (.str name (tk1 + 1)) v es, putN name es n) = (es', n')) (U : Upd d (dictOf es n) (dictOf es' n') nw nw') (hz : Nat.ble es'.length 1000 = true) (F : Fr x.h₀ x.L h m) (N : News x.h₀ x.L h nw)
    (k : let nk : Led := nw'; ∀ h' tk', Fr x.h₀ x.L h' m → News x.h₀ x.L h' nk → wpAny (kMd x) (kAr x (envX cn cs x.L a ccd cl)) (execs rest (envX cn cs x.L a ccd cl)) Q E (kSt x h' tk')) :
    wpAny (kMd x) (kAr x (envX cn cs x.L a ccd cl)) (execs (.Assign [.Attribute (.Name sn sp) name apos] e pos :: rest) (envX cn cs x.L a ccd cl)) Q E (kSt x h tk) :=
  wpAny_execs_cons (plainObj_wpAny_Assign_Attribute (h1 h F N _ E (nameX_L F h2 (set_dict F W.X N (InstAt.of_news N m1 m2) rfl hs hp ht2 hh hl e9 U (Nat.le_of_ble_eq_true hz) (fun h' F' N' => k h' _ F' N')) hk hx hdb)) hw)
theorem cv_use (x : Cx) (cn : Str) (cs : Scope) (a : Addr) (ccd : Value) (cl : List (Str × Addr)) (hk : cs.kind = .function) {D D' : Nat} (W : Wf x D) (hD : Nat.ble D' D = true) {f : Nat} {vs : List Value} {nw : Led} {Ret : Value → Led → Prop} {m : Str → Option Value} {tk : Nat} {h : Heap} {Q E : Value → Shared → Prop}
    (C : Ct x.w x.mean x.mg x.mb D' f nw True vs Ret) (F : Fr x.h₀ x.L h m) (N : News x.h₀ x.L h nw) (k : ∀ v nw' h' tk', Ret v nw' → Fr x.h₀ x.L h' m → News x.h₀ x.L h' nw' → Q v (kSt x h' tk')) :
    wpAny (kMd x) (kAr x (envX cn cs x.L a ccd cl)) (call (.ref f) vs) Q E (kSt x h tk) :=
  C _ _ _ _ _ _ _ _ _ x.A₀ x.base x.h₀ x.L m _ Q E W.B F W.X N W.T hk trivial (Nat.lt_of_le_of_lt (Nat.add_le_add_left (Nat.le_of_ble_eq_true hD) _) W.d) (Nat.lt_of_le_of_lt (Nat.add_le_add_left (Nat.mul_le_mul_left 8 (Nat.le_of_ble_eq_true hD)) _) W.u) k
end
section
local macro_rules | `(tactic| walk_at $s:str) => do
  let z := Lean.Syntax.mkStrLit ("." ++ s.getString)
  `(tactic| k_extra $z)
local macro_rules | `(tactic| ke_room) => `(tactic| k_extra "T:ke_room")
local macro_rules | `(tactic| ktr_units) => `(tactic| k_extra "T:ktr_units")
local macro_rules | `(tactic| k_steps) => `(tactic| k_extra "T:k_steps")
local macro_rules | `(tactic| k_room) => `(tactic| k_extra "T:k_room")
local macro_rules | `(tactic| cell_enter) => `(tactic| k_extra "T:cell_enter")
local macro_rules | `(tactic| k_all) => `(tactic| k_extra "T:k_all")
local macro_rules | `(tactic| news_mem) => `(tactic| k_extra "T:news_mem")
local macro_rules | `(tactic| k_enter) => `(tactic| k_extra "T:k_enter")
local macro_rules | `(tactic| ktr_room) => `(tactic| k_extra "T:ktr_room")
local macro_rules | `(tactic| k_mem) => `(tactic| k_extra "T:k_mem")
local macro_rules | `(tactic| k_ne) => `(tactic| k_extra "T:k_ne")
local macro_rules | `(tactic| k_fmods) => `(tactic| k_extra "T:k_fmods")
local macro_rules | `(tactic| l_bnd) => `(tactic| k_extra "T:l_bnd")
local macro_rules | `(tactic| k_upd) => `(tactic| k_extra "T:k_upd")
local macro_rules | `(tactic| size_fits) => `(tactic| k_extra "T:size_fits")
local macro_rules | `(tactic| k_lt $h) => `(tactic| skip)
local macro_rules | `(tactic| k_lt2 $h) => `(tactic| ((replace $h := ltN $h); (have h9 := lt_trans_all (by with_reducible assumption) $h)))
example : True := by
  k_with "Z0" => ((try dsimp only [List.cons_append, List.nil_append]); (repeat (refine news_add ?hm9Fh ?_ (by k_asm); (case hm9Fh => walk_at "Mem"))); exact cb_drop (by k_asm) (fun q hq => by first | (exact hq) | walk_at "Mem" | (repeat (first | exact hq | exact List.mem_append_left _ hq | refine List.Mem.tail _ ?_))))
  k_with "Z1" => refine ct_of_body (by k_is) (by k_is) (fun s HX => by (first | exact BindsTo.of_eq rfl | exact binds_K HX rfl (by k_is) rfl rfl rfl)) (by exact locs rfl) rfl rfl rfl (by decide) (fun dp un gd outer A₀ base h₀ L s Q E => ?_)
  k_with "Z2" => refine cc_of_body (by k_is) (by k_is) (fun s HX => by (first | exact BindsTo.of_eq rfl | exact binds_K HX rfl (by k_is) rfl rfl rfl)) (by exact locs rfl) rfl rfl rfl (by decide) (fun dp un gd outer A₀ base h₀ L s Q E => ?_)
  k_with "Z3" => (first | k_asm | exact cb_drop (by k_asm) (fun q hq => by first | (exact hq) | walk_at "Mem" | (repeat (first | exact hq | exact List.mem_append_left _ hq | refine List.Mem.tail _ ?_))))
  k_with "Z4" => (first | walk_at "AllLt" | (exact ⟨by first | assumption | omega, by first | assumption | omega, by assumption⟩))
  k_with "Z5" => (first | assumption | walk_at "AllLt" | (exact ⟨by first | assumption | omega, by first | assumption | omega⟩))
  k_with "T:ktr_room" => first | exact room0 (by with_reducible assumption) | exact room1 (by with_reducible assumption) rfl | exact room2 (by with_reducible assumption) rfl | exact room3 (by with_reducible assumption) rfl | exact room4 (by with_reducible assumption) rfl | exact room5 (by with_reducible assumption) rfl | exact room6 (by with_reducible assumption) rfl | ((try simp only [depth_under_make, depth_under_kw, depth_in1, depth_deeper, depth_caller]); (try dsimp only [ktrTop]); (try simp only [recursionLimit]); omega)
  k_with "T:ktr_units" => first | exact room0 (by with_reducible assumption) | exact room1 (by with_reducible assumption) rfl | exact room2 (by with_reducible assumption) rfl | exact room3 (by with_reducible assumption) rfl | exact room4 (by with_reducible assumption) rfl | exact room5 (by with_reducible assumption) rfl | exact room6 (by with_reducible assumption) rfl | ((try simp only [units_under_make, units_in1, units_deeper, Around.mark_units, units_caller]); (try dsimp only [ktrTop]); (have hcL9 := cLine_is); omega)
  k_with "T:k_room" => ktr_room
  k_with "T:k_all" => first | with_reducible assumption | exact all_ne_lt (by with_reducible assumption) | exact allNe_of (by with_reducible assumption) | (refine' all_ne_sub ?hAe ?kAe; (case hAe => with_reducible assumption); (case kAe => (intro pZ hpZ; first | exact hpZ | exact (.tail _ hpZ) | exact (.tail _ (.tail _ hpZ)) | exact (.tail _ (.tail _ (.tail _ hpZ))) | exact (.tail _ (.tail _ (.tail _ (.tail _ hpZ)))) | exact (.tail _ (.tail _ (.tail _ (.tail _ (.tail _ hpZ))))) | exact (.tail _ (.tail _ (.tail _ (.tail _ (.tail _ (.tail _ hpZ)))))) | exact (.tail _ (.tail _ (.tail _ (.tail _ (.tail _ (.tail _ (.tail _ hpZ))))))) | exact (.tail _ (.tail _ (.tail _ (.tail _ (.tail _ (.tail _ (.tail _ (.tail _ hpZ)))))))) | exact (.tail _ (.tail _ (.tail _ (.tail _ (.tail _ (.tail _ (.tail _ (.tail _ (.tail _ hpZ))))))))) | exact (.tail _ (.tail _ (.tail _ (.tail _ (.tail _ (.tail _ (.tail _ (.tail _ (.tail _ (.tail _ hpZ)))))))))) | exact (.tail _ (.tail _ (.tail _ (.tail _ (.tail _ (.tail _ (.tail _ (.tail _ (.tail _ (.tail _ (.tail _ hpZ))))))))))) | exact (.tail _ (.tail _ (.tail _ (.tail _ (.tail _ (.tail _ (.tail _ (.tail _ (.tail _ (.tail _ (.tail _ (.tail _ hpZ)))))))))))) | exact (.tail _ (.tail _ (.tail _ (.tail _ (.tail _ (.tail _ (.tail _ (.tail _ (.tail _ (.tail _ (.tail _ (.tail _ (.tail _ hpZ)))))))))))))))) | exact List.forall_mem_nil _ | (refine' List.forall_mem_cons.mpr ⟨?aAe, ?bAe⟩; (case aAe => k_ne); (case bAe => k_all))
  k_with "T:k_ne" => (refine neN ?_; (try dsimp only); first | with_reducible assumption | exact Nat.ne_of_lt (by with_reducible assumption) | exact Nat.ne_of_gt (by with_reducible assumption) | exact Nat.ne_of_lt (lt_led (by with_reducible assumption) (by k_mem)) | exact Nat.ne_of_gt (lt_led (by with_reducible assumption) (by k_mem)) | exact ne_alt (by with_reducible assumption) (by k_mem) | exact Ne.symm (ne_alt (by with_reducible assumption) (by k_mem)) | (apply Ne.symm; with_reducible assumption) | exact ne_led (by with_reducible assumption) (by k_mem) | exact Ne.symm (ne_led (by with_reducible assumption) (by k_mem)) | omega)
  k_with "T:cell_enter" => first | (refine' code_defL ?k1Ag ?k2Ag ?k3Ag ?k4Ag ?k5Ag ?kAAg ?kFAg ?kKAg ?k6Ag ?k7Ag ?k8Ag ?k9Ag ?kBAg ?_ ?c2Ag ?c3Ag ?c4Ag ?c5Ag; (case kAAg => exact rfl); (case kFAg => exact rfl); (case kKAg => first | assumption | exact rfl); (case k1Ag => k_asm); (case k2Ag => k_asm); (case k3Ag => k_asm); (case k4Ag => k_asm); (case k5Ag => k_asm); (case k6Ag => k_is); (case k7Ag => k_is); (case k8Ag => ktr_room); (case k9Ag => first | exact BindsTo.of_eq rfl | exact binds_K (by k_in) rfl (by k_is) rfl rfl rfl); (case c5Ag => decide); (case kBAg => exact locs rfl); (case c2Ag => exact rfl); (case c3Ag => exact rfl); (case c4Ag => exact rfl); k_whole; intro bmZ nkZ g'Z L'Z h'Z enZ AkZ qkZ ekZ FG'Z F'Z N'Z B'Z X'Z T'Z) | (refine' code_defC ?k1Ag ?k2Ag ?k3Ag ?k4Ag ?k5Ag ?kAAg ?kFAg ?kKAg ?k6Ag ?k7Ag ?k8Ag ?k9Ag ?kBAg ?kDAg ?_ ?c2Ag ?c3Ag ?c4Ag; (case kAAg => exact rfl); (case kFAg => exact rfl); (case kKAg => assumption); (case k1Ag => k_asm); (case k2Ag => k_asm); (case k3Ag => k_asm); (case k4Ag => k_asm); (case k5Ag => k_asm); (case k6Ag => k_is); (case k7Ag => k_is); (case k8Ag => ktr_room); (case k9Ag => first | exact BindsTo.of_eq rfl | exact binds_K (by k_in) rfl (by k_is) rfl rfl rfl); (case kBAg => exact rfl); (case kDAg => decide +kernel); (case c2Ag => exact rfl); (case c3Ag => exact rfl); (case c4Ag => exact rfl); k_whole; intro g'Z L'Z h'Z tk'Z cells'Z FG'Z F'Z N'Z Y'Z B'Z X'Z T'Z l1Z; (try k_lt l1Z); k_cells Y'Z; (try simp only [List.cons_append, List.nil_append] at N'Z); (try dsimp only); (try k_fold))
  k_with "T:k_enter" => cell_enter
  k_with "T:k_steps" => repeat' (first | (k_unfold; (try dsimp only)) | (k_end; kc_close) | (walk1 <;> (try dsimp only)) | (dsimp only; walk1) | (leave1; (try dsimp only)) | fail "no step")
  k_with "T:news_mem" => k_mem
  k_with ".AllLt" => first | with_reducible assumption | exact allLt_of (by with_reducible assumption) | (refine' allLt_subL ?hAk ?kAk; (case hAk => with_reducible assumption); (case kAk => (intro pZ hpZ; first | exact hpZ | exact (.tail _ hpZ) | exact (.tail _ (.tail _ hpZ)) | exact (.tail _ (.tail _ (.tail _ hpZ))) | exact (.tail _ (.tail _ (.tail _ (.tail _ hpZ)))) | exact (.tail _ (.tail _ (.tail _ (.tail _ (.tail _ hpZ))))) | exact (.tail _ (.tail _ (.tail _ (.tail _ (.tail _ (.tail _ hpZ)))))) | exact (.tail _ (.tail _ (.tail _ (.tail _ (.tail _ (.tail _ (.tail _ hpZ))))))) | exact (.tail _ (.tail _ (.tail _ (.tail _ (.tail _ (.tail _ (.tail _ (.tail _ hpZ)))))))) | exact (.tail _ (.tail _ (.tail _ (.tail _ (.tail _ (.tail _ (.tail _ (.tail _ (.tail _ hpZ))))))))) | exact (.tail _ (.tail _ (.tail _ (.tail _ (.tail _ (.tail _ (.tail _ (.tail _ (.tail _ (.tail _ hpZ)))))))))) | exact (.tail _ (.tail _ (.tail _ (.tail _ (.tail _ (.tail _ (.tail _ (.tail _ (.tail _ (.tail _ (.tail _ hpZ))))))))))) | exact (.tail _ (.tail _ (.tail _ (.tail _ (.tail _ (.tail _ (.tail _ (.tail _ (.tail _ (.tail _ (.tail _ (.tail _ hpZ)))))))))))) | exact (.tail _ (.tail _ (.tail _ (.tail _ (.tail _ (.tail _ (.tail _ (.tail _ (.tail _ (.tail _ (.tail _ (.tail _ (.tail _ hpZ)))))))))))))))) | (refine' allLt_subA ?hAk ?kAk; (case hAk => with_reducible assumption); (case kAk => (intro pZ hpZ; first | exact hpZ | exact (.tail _ hpZ) | exact (.tail _ (.tail _ hpZ)) | exact (.tail _ (.tail _ (.tail _ hpZ))) | exact (.tail _ (.tail _ (.tail _ (.tail _ hpZ)))) | exact (.tail _ (.tail _ (.tail _ (.tail _ (.tail _ hpZ))))) | exact (.tail _ (.tail _ (.tail _ (.tail _ (.tail _ (.tail _ hpZ)))))) | exact (.tail _ (.tail _ (.tail _ (.tail _ (.tail _ (.tail _ (.tail _ hpZ))))))) | exact (.tail _ (.tail _ (.tail _ (.tail _ (.tail _ (.tail _ (.tail _ (.tail _ hpZ)))))))) | exact (.tail _ (.tail _ (.tail _ (.tail _ (.tail _ (.tail _ (.tail _ (.tail _ (.tail _ hpZ))))))))) | exact (.tail _ (.tail _ (.tail _ (.tail _ (.tail _ (.tail _ (.tail _ (.tail _ (.tail _ (.tail _ hpZ)))))))))) | exact (.tail _ (.tail _ (.tail _ (.tail _ (.tail _ (.tail _ (.tail _ (.tail _ (.tail _ (.tail _ (.tail _ hpZ))))))))))) | exact (.tail _ (.tail _ (.tail _ (.tail _ (.tail _ (.tail _ (.tail _ (.tail _ (.tail _ (.tail _ (.tail _ (.tail _ hpZ)))))))))))) | exact (.tail _ (.tail _ (.tail _ (.tail _ (.tail _ (.tail _ (.tail _ (.tail _ (.tail _ (.tail _ (.tail _ (.tail _ (.tail _ hpZ)))))))))))))))) | (refine' And.intro ?aAk ?bAk; (case aAk => ((try dsimp only); first | with_reducible assumption | exact lt_led (by with_reducible assumption) (by k_mem) | exact lt_alt (by with_reducible assumption) (by k_mem) | omega)); (case bAk => walk_at "AllLt"))
  k_with ".After" => (intros; (try dsimp only); (try k_fold))
  k_with "T:ke_room" => ktr_units
  k_with "T:k_mem" => first | exact List.Mem.head _ | exact List.Mem.tail _ (List.Mem.head _) | exact memAt 2 rfl | exact memAt 3 rfl | exact memAt 4 rfl | exact memAt 5 rfl | exact memAt 6 rfl | exact memAt 7 rfl | exact memAt 8 rfl | exact memAt 9 rfl | exact memAt 10 rfl | exact memAt 11 rfl | exact memAt 12 rfl | exact memAt 13 rfl | exact memAt 14 rfl | exact memAt 15 rfl
  k_with ".execs cons" => ((fail_if_success k_extra "nolet"); (with_reducible refine execs_consL ?_; intro qsZ))
  k_with ".storeName" => ((fail_if_success k_extra "nolet"); (k_here; k_dflt (refine' stT ?FAp ?NAp ?_ ?aAp ?bAp; (case FAp => k_asm); (case NAp => k_asm); (case aAp => rfl); (case bAp => rfl); k_whole; intro mkZ nkZ h'Z tk'Z F'Z N'Z; (try k_sweep))))
  k_with ".newTuple" => ((fail_if_success k_extra "nolet"); (k_here; k_dflt (refine' tupL ?FAq ?NAq ?_ ?zAq; (case FAq => k_asm); (case NAq => k_asm); (case zAq => kmk_size)); intro D'Z h'Z nkZ F'Z N'Z l1Z; (try k_sweep)))
  k_with ".newList" => ((fail_if_success k_extra "nolet"); (k_here; k_dflt (refine' listL ?k1Ar ?k2Ar ?_; (case k1Ar => k_asm); (case k2Ar => k_asm); k_whole); intro l'Z h'Z nkZ F'Z N'Z l1Z; (try k_sweep)))
  k_with ".call builtin:list.append" => ((fail_if_success k_extra "nolet"); (k_here; (with_reducible show wpAny _ _ (call (Value.builtin _) [Value.ref _, _]) _ _ _); k_dflt (refine' appL ?k1As ?k2As ?k3As ?_ ?zAs; (case k1As => k_asm); (case k2As => k_asm); (case k3As => k_upd); (case zAs => size_fits); k_whole); intro nkZ h'Z F'Z N'Z; (try k_sweep)))
  k_with ".setAttr ref" => ((fail_if_success k_extra "nolet"); (k_here; k_dflt (refine' setL ?ktAt ?k1At ?k2At ?k3At ?k4At ?k5At ?k6At ?k7At ?k8At ?k9At ?k10At ?k11At ?k12At ?k13At ?_; (case ktAt => (first | (dsimp only; exact rfl) | dsimp only | exact rfl)); (case k1At => k_asm); (case k2At => k_asm); (case k3At => k_asm); (case k4At => k_inst); (case k5At => exact rfl); (case k6At => k_is); (case k7At => k_is); (case k8At => k_is); (case k9At => k_is); (case k10At => k_get); (case k11At => k_put); (case k12At => k_upd); (case k13At => exact Nat.le_of_ble_eq_true rfl); k_whole); intro nkZ h'Z tk'Z F'Z N'Z; (try k_sweep)))
  k_with ".Pu" => first | with_reducible exact pu_eqI _ | with_reducible exact pu_eqS _ | with_reducible exact pu_neI _ | with_reducible exact pu_neS _ | with_reducible exact pu_ltI _ | with_reducible exact pu_leI _ | with_reducible exact pu_gtI _ | with_reducible exact pu_geI _ | with_reducible exact pu_notB _
  k_with ".Pn" => first | with_reducible exact pn_add _ | with_reducible exact pn_sub _ | with_reducible exact pn_neg _
  k_with ".BT" => first | exact rfl | with_reducible assumption | exact decide_eq_true (by omega)
  k_with ".BF" => first | exact rfl | with_reducible assumption | exact decide_eq_false (by omega)
  k_with ".Ev" => k_dflt (first | with_reducible exact ev_str _ _ _ _ _ _ _ _ | ((with_reducible refine' ev_cel _ _ _ _ _ _ _ ?aAy ?bAy ?cAy ?hcAy ?hdAy ?hmAy _ _ _); (case aAy => exact rfl); (case bAy => exact rfl); (case cAy => exact rfl); (case hcAy => exact rfl); (case hdAy => assumption); (case hmAy => k_mem)) | with_reducible exact ev_int _ _ _ _ _ _ _ _ | with_reducible exact ev_none _ _ _ _ _ _ _ | with_reducible exact ev_bool _ _ _ _ _ _ _ _ | ((with_reducible refine' ev_loc _ _ _ _ _ _ _ ?aAy ?bAy ?cAy ?vAy _ _ _); (case aAy => exact rfl); (case bAy => exact rfl); (case cAy => exact rfl); (case vAy => exact rfl)) | ((with_reducible refine' ev_attr _ _ _ _ _ _ _ ?aAy ?bAy ?cAy _ ?k1Ay ?k2Ay ?k3Ay ?k4Ay ?WAy ?h1Ay ?m1Ay ?m2Ay ?hlAy ?hvAy _ _ _); (case WAy => assumption); (case aAy => exact rfl); (case bAy => exact rfl); (case cAy => exact rfl); (case h1Ay => exact rfl); (case m1Ay => walk_at "Mem"); (case m2Ay => walk_at "Mem"); (case hlAy => k_get); (case k1Ay => k_is); (case k2Ay => k_is); (case k3Ay => k_is); (case k4Ay => k_is); (case hvAy => k_handed)) | ((with_reducible refine' ev_glob _ _ _ _ _ _ _ ?eAy ?aAy ?bAy ?cAy ?WAy _ _ _ _); (case WAy => assumption); (case aAy => exact rfl); (case bAy => exact rfl); (case cAy => exact rfl); (case eAy => k_is)) | ((with_reducible refine' ev_blt _ _ _ _ _ _ _ ?eAy ?fAy ?gAy ?aAy ?bAy ?cAy ?WAy _ _ _ _); (case WAy => assumption); (case aAy => exact rfl); (case bAy => exact rfl); (case cAy => exact rfl); (case eAy => k_is); (case fAy => boot_by_name); (case gAy => decide)) | ((with_reducible refine' ev_cmp _ _ _ _ _ _ ?_ ?_ ?_ ?_); rotate_right 3; (focus (walk_at "Ev"; done)); (focus (walk_at "Ev"; done)); (focus (walk_at "Pu"; done)); (focus (with_unfolding_all rfl; done))) | ((with_reducible refine' ev_bin _ _ _ _ _ _ ?_ ?_ ?_); rotate_right 3; (focus (walk_at "Ev"; done)); (focus (walk_at "Ev"; done)); (focus (walk_at "Pn"; done))) | ((with_reducible refine' ev_un _ _ _ _ _ ?_ ?_); rotate_right 2; (focus (walk_at "Ev"; done)); (focus (walk_at "Pn"; done))) | ((with_reducible refine' ev_unB _ _ _ _ _ ?_ ?_); rotate_right 2; (focus (walk_at "Ev"; done)); (focus (walk_at "Pu"; done))) | ((with_reducible refine' ev_ift _ _ _ _ _ _ ?_ ?_ ?_); rotate_right 3; (focus (walk_at "Tv"; done)); (focus (walk_at "BT"; done)); (focus (walk_at "Ev"; done))) | ((with_reducible refine' ev_iff _ _ _ _ _ _ ?_ ?_ ?_); rotate_right 3; (focus (walk_at "Tv"; done)); (focus (walk_at "BF"; done)); (focus (walk_at "Ev"; done))))
  k_with ".Tv" => k_dflt (first | ((with_reducible refine' tv_cmp _ _ _ _ _ _ _ ?_ ?_ ?_ ?_); rotate_right 3; (focus (walk_at "Ev"; done)); (focus (walk_at "Ev"; done)); (focus (walk_at "Pu"; done)); (focus (with_unfolding_all rfl; done))) | ((with_reducible refine' tv_not _ _ _ _ _ ?pAz); (case pAz => walk_at "Tv")) | with_reducible exact tv_and0 _ _ _ _ _ _ _ | with_reducible exact tv_or0 _ _ _ _ _ _ _ | ((with_reducible refine' tv_andf _ _ _ _ _ _ ?_ ?_); rotate_right 2; (focus (walk_at "Tv"; done)); (focus (walk_at "BF"; done))) | ((with_reducible refine' tv_andt _ _ _ _ _ _ ?_ ?_ ?_); rotate_right 3; (focus (walk_at "Tv"; done)); (focus (walk_at "BT"; done)); (focus (walk_at "Tv"; done))) | ((with_reducible refine' tv_ort _ _ _ _ _ _ ?_ ?_); rotate_right 2; (focus (walk_at "Tv"; done)); (focus (walk_at "BT"; done))) | ((with_reducible refine' tv_orf _ _ _ _ _ _ ?_ ?_ ?_); rotate_right 3; (focus (walk_at "Tv"; done)); (focus (walk_at "BF"; done)); (focus (walk_at "Tv"; done))) | ((with_reducible refine' tv_val _ _ _ ?_ ?_); rotate_right 1; (focus (walk_at "Ev"; done)); (focus (exact rfl; done))))
  k_with ".EvL" => k_dflt (first | with_reducible exact evl_nil _ _ _ _ _ _ | ((with_reducible refine' evl_cons _ _ _ _ _ ?_ ?_ ?_); rotate_right 2; (focus (walk_at "Ev"; done)); (focus (walk_at "EvL"; done)); (focus (exact rfl; done))))
  k_with ".eval Name" => ((fail_if_success k_extra "nolean"); (k_here; k_dflt ((with_reducible refine' ev_use _ _ _ _ _ ?pAB ?FAB ?NAB ?_); (case FAB => k_asm); (case NAB => k_asm); (case pAB => walk_at "Ev"))))
  k_with ".eval Attribute Name" => ((fail_if_success k_extra "nolean"); (k_here; k_dflt ((with_reducible refine' ev_use _ _ _ _ _ ?pAC ?FAC ?NAC ?_); (case FAC => k_asm); (case NAC => k_asm); (case pAC => walk_at "Ev"))))
  k_with ".eval IfExp" => ((fail_if_success k_extra "nolean"); (k_here; k_dflt ((with_reducible refine' ev_use _ _ _ _ _ ?pAD ?FAD ?NAD ?_); (case FAD => k_asm); (case NAD => k_asm); (case pAD => walk_at "Ev"))))
  k_with ".eval UnaryOp" => ((fail_if_success k_extra "nolean"); (k_here; k_dflt ((with_reducible refine' ev_use _ _ _ _ _ ?pAE ?FAE ?NAE ?_); (case FAE => k_asm); (case NAE => k_asm); (case pAE => walk_at "Ev"))))
  k_with ".eval Constant int" => ((fail_if_success k_extra "nolean"); (k_here; k_dflt ((with_reducible refine' ev_use _ _ _ _ _ ?pAF ?FAF ?NAF ?_); (case FAF => k_asm); (case NAF => k_asm); (case pAF => walk_at "Ev"))))
  k_with ".eval Constant str" => ((fail_if_success k_extra "nolean"); (k_here; k_dflt ((with_reducible refine' ev_use _ _ _ _ _ ?pAG ?FAG ?NAG ?_); (case FAG => k_asm); (case NAG => k_asm); (case pAG => walk_at "Ev"))))
  k_with ".eval Compare" => ((fail_if_success k_extra "nolean"); (k_here; k_dflt ((with_reducible refine' xc_cmp _ _ _ _ _ _ ?hmAH _ _ ?pAH ?qAH ?FAH ?NAH ?_); (case FAH => k_asm); (case NAH => k_asm); (case pAH => walk_at "Ev"); (case qAH => walk_at "Ev"); (case hmAH => with_unfolding_all rfl))))
  k_with ".isTrue Compare" => ((fail_if_success k_extra "nolean"); (k_here; k_dflt ((with_reducible refine' xt_cmp _ _ _ _ _ _ ?hmAI _ _ ?pAI ?qAI ?FAI ?NAI ?_); (case FAI => k_asm); (case NAI => k_asm); (case pAI => walk_at "Ev"); (case qAI => walk_at "Ev"); (case hmAI => with_unfolding_all rfl))))
  k_with ".eval Compare" => ((fail_if_success k_extra "nolean"); (k_here; k_dflt ((with_reducible refine' ev_use _ _ _ _ _ ?pAJ ?FAJ ?NAJ ?_); (case FAJ => k_asm); (case NAJ => k_asm); (case pAJ => walk_at "Ev"))))
  k_with ".eval BinOp" => ((fail_if_success k_extra "nolean"); (k_here; k_dflt ((with_reducible refine' xc_bin _ _ _ _ _ _ _ _ ?pAK ?qAK ?FAK ?NAK ?_); (case FAK => k_asm); (case NAK => k_asm); (case pAK => walk_at "Ev"); (case qAK => walk_at "Ev"))))
  k_with ".eval BinOp" => ((fail_if_success k_extra "nolean"); (k_here; k_dflt ((with_reducible refine' ev_use _ _ _ _ _ ?pAL ?FAL ?NAL ?_); (case FAL => k_asm); (case NAL => k_asm); (case pAL => walk_at "Ev"))))
  k_with ".eval Subscript" => ((fail_if_success k_extra "nolean"); (k_here; k_dflt ((with_reducible refine' xc_sub _ _ _ _ _ _ _ ?pAM ?qAM ?FAM ?NAM ?_); (case FAM => k_asm); (case NAM => k_asm); (case pAM => walk_at "Ev"); (case qAM => walk_at "Ev"))))
  k_with ".kArg" => (with_reducible refine karg_ _ _ _ _ _ _ ?_)
  k_with ".eval Call" => ((fail_if_success k_extra "nolean"); (k_here; k_dflt (first | ((with_reducible refine' xc_call _ _ _ _ _ _ _ ?eAO ?aAO ?bAO ?cAO ?hfAO _ _ _ _ ?heAO ?hpAO _ _ ?WAO ?haAO ?FAO ?NAO ?_); (case FAO => k_asm); (case NAO => k_asm); (case WAO => assumption); (case aAO => exact rfl); (case bAO => exact rfl); (case cAO => exact rfl); (case eAO => k_is); (case hfAO => k_is); (case haAO => walk_at "EvL"); (case heAO => exact rfl); (case hpAO => exact rfl)) | ((with_reducible refine' xc_call0 _ _ _ _ _ _ _ ?eAO ?aAO ?bAO ?cAO ?hfAO _ _ _ _ ?WAO ?FAO ?NAO ?_); (case FAO => k_asm); (case NAO => k_asm); (case WAO => assumption); (case aAO => exact rfl); (case bAO => exact rfl); (case cAO => exact rfl); (case eAO => k_is); (case hfAO => k_is)) | ((with_reducible refine' xc_callC _ _ _ _ _ _ _ ?eAO ?aAO ?bAO ?cAO ?hfAO _ _ _ _ ?heAO ?hpAO _ _ ?WAO ?FAO ?_); (case FAO => k_asm); (case WAO => assumption); (case aAO => exact rfl); (case bAO => exact rfl); (case cAO => exact rfl); (case eAO => k_is); (case hfAO => k_is); (case heAO => exact rfl); (case hpAO => exact rfl)))))
  k_with ".kCall" => (k_dflt ((with_reducible refine' kcall_ _ _ _ _ _ ?WAP ?FAP ?_); (case WAP => assumption); (case FAP => k_asm)))
  k_with ".kRet" => (with_reducible refine kret_ _ ?_)
  k_with ".kExp" => (with_reducible refine kexp_ _ _ _ _ _ ?_)
  k_with ".kAsn" => (k_dflt ((with_reducible refine' kasn_ _ _ _ _ _ _ _ ?aAS ?bAS _ _ _ ?FAS ?NAS ?_); (case FAS => k_asm); (case NAS => k_asm); (case aAS => exact rfl); (case bAS => exact rfl)); intro mkZ h'Z tk'Z F'Z N'Z)
  k_with ".execs nil" => ((fail_if_success k_extra "nolean"); (with_reducible refine xs_nil _ _ _ _ ?_))
  k_with ".execs cons" => ((fail_if_success k_extra "nolean"); (k_here; k_dflt (first | ((with_reducible refine' xs_ret _ _ _ _ _ _ _ ?pAU ?FAU ?NAU ?_); (case FAU => k_asm); (case NAU => k_asm); (case pAU => walk_at "Ev")) | (((with_reducible refine' xs_asn _ _ _ _ _ _ _ ?aAU ?bAU _ _ _ _ ?hsAU _ _ ?pAU ?FAU ?NAU ?_); (case FAU => k_asm); (case NAU => k_asm); (case pAU => walk_at "Ev"); (case aAU => exact rfl); (case bAU => exact rfl); (case hsAU => exact rfl)); intro mkZ h'Z tk'Z F'Z N'Z) | (((with_reducible refine' xs_set _ _ _ _ _ _ _ ?aAU ?bAU ?cAU _ ?k5AU ?k6AU ?k7AU ?k8AU _ _ _ _ _ ?hwAU _ _ ?WAU ?pAU ?h2AU ?m1AU ?m2AU ?k10AU ?k11AU ?k12AU ?hzAU ?FAU ?NAU ?_); (case WAU => assumption); (case FAU => k_asm); (case NAU => k_asm); (case pAU => walk_at "Ev"); (case aAU => exact rfl); (case bAU => exact rfl); (case cAU => exact rfl); (case h2AU => exact rfl); (case m1AU => walk_at "Mem"); (case m2AU => walk_at "Mem"); (case k5AU => k_is); (case k6AU => k_is); (case k7AU => k_is); (case k8AU => k_is); (case k10AU => k_get); (case k11AU => k_put); (case k12AU => k_upd); (case hzAU => exact rfl); (case hwAU => exact rfl)); intro nkZ h'Z tk'Z F'Z N'Z) | ((with_reducible refine' xs_iff _ _ _ _ _ _ _ ?hrAU _ _ ?pAU ?FAU ?NAU ?cAU ?_); (case FAU => k_asm); (case NAU => k_asm); (case pAU => walk_at "Tv"); (case cAU => walk_at "BF"); (case hrAU => walk_at "App")) | ((with_reducible refine' xs_ift _ _ _ _ _ _ _ ?hrAU _ _ ?pAU ?FAU ?NAU ?cAU ?_); (case FAU => k_asm); (case NAU => k_asm); (case pAU => walk_at "Tv"); (case cAU => walk_at "BT"); (case hrAU => walk_at "App")) | ((with_reducible refine' xs_ifb _ _ _ _ _ _ _ ?hr1AU ?hr2AU _ _ ?pAU ?FAU ?NAU ?_ ?_); (case FAU => k_asm); (case NAU => k_asm); (case pAU => walk_at "Tv"); (case hr1AU => walk_at "App"); (case hr2AU => walk_at "App"); all_goals intro hc9Z) | ((with_reducible refine' xs_retC _ _ _ _ _ _ _ ?_)) | ((with_reducible refine' xs_asnC _ _ _ _ _ _ _ ?hsAU _ _ ?_); (case hsAU => exact rfl)) | ((with_reducible refine' xs_expC _ _ _ _ _ ?hiAU ?hsAU _ _ ?_); (case hsAU => exact rfl); (case hiAU => exact rfl)))))
  k_with ".App" => first | exact List.nil_append _ | (dsimp only [List.cons_append, List.nil_append]; exact rfl) | exact rfl
  trivial
section
set_option maxHeartbeats 1000000
example : True := by
  k_with ".Mem" => ((fail_if_success k_extra "off KC"); first | exact List.Mem.head _ | assumption | (refine List.Mem.tail _ ?_; walk_at "Mem"))
  k_with ".spliced" => ((fail_if_success k_extra "off KC"); (k_here; k_dflt (first | ((with_reducible refine' evl_use _ _ _ _ _ _ ?pAX ?FAX ?NAX ?_); (case FAX => k_asm); (case NAX => k_asm); (case pAX => walk_at "EvL")) | ((with_reducible refine' xl_consP _ _ _ _ _ ?heAX _ _ ?pAX ?FAX ?NAX ?_); (case FAX => k_asm); (case NAX => k_asm); (case pAX => walk_at "Ev"); (case heAX => exact rfl)) | ((with_reducible refine' xl_consC _ _ _ _ _ ?heAX _ _ ?_); (case heAX => exact rfl)))))
  trivial
inductive IsMkRow (w : World) (v1 v2 : Value) (d : Obj) : Prop where
  | mk (t1 t2 : Tok) (q9 : d = dictOf [⟨PyData.keyHash w.params (Str.ofString "name"), .str (Str.ofString "name") t1, v1⟩, ⟨PyData.keyHash w.params (Str.ofString "parts"), .str (Str.ofString "parts") t2, v2⟩] 2) : IsMkRow w v1 v2 d
def S_iRow (kx : Cx) : Prop := ∀ (news : Led) (x dx : Nat) (v1 v2 : Value) (l1 : AllLt dx news) (l2 : dx < x), Bd kx 1 (Str.ofString "Row.__init__") (methScope "Row" "__init__") 259 258 (methBody "Row" "__init__") (fun y => [(Str.ofString "self", (.ref x : Value)), (Str.ofString "name", (v1 : Value)), (Str.ofString "parts", (v2 : Value))].reverse.lookup y) ((x, instObj 269 dx) :: (dx, dictOf [] 0) :: news)
   (fun v ns => v = .none ∧ ∃ d, ns = (x, instObj 269 dx) :: (dx, d) :: news ∧ IsMkRow kx.w v1 v2 d)
theorem kap_iRow_ex : ∃ x : Cx, (S_iRow x → ∀ y, S_iRow y) := by
  obtain ⟨x, h⟩ := cx_gen cx0 (fun _ => S_iRow)
  exact ⟨x, h 0 (fun j hj => absurd hj (Nat.not_lt_zero j))⟩
noncomputable def kap_iRow : Cx := Classical.choose kap_iRow_ex
theorem iRow_k : S_iRow kap_iRow := by
  intro news x dx v1 v2 l1 l2
  have e1 : methScope "Row" "__init__" = methScope "Row" "__init__" := rfl
  conv at e1 => rhs; whnf
  have e2 : methBody "Row" "__init__" = methBody "Row" "__init__" := rfl
  conv at e2 => rhs; whnf
  (try dsimp only at e1)
  (try dsimp only at e2)
  refine @bd_lit _ _ _ _ _ _ _ _ _ _ _ _ e1 e2 ?_
  clear e1 e2
  unfold Bd
  k_fill
  intro h tk HB HF HX HN HT hdp hun hE hret
  have HW : Wf kap_iRow 1 := ⟨HB, HX, HT, hdp, hun⟩
  refine frLet HF ?_
  intro mk HF9
  clear HF
  refine ledLet HN ?_
  intro nk HN9
  k_steps
  exact hret _ _ _ _ _ ⟨rfl, _, rfl, .mk _ _ rfl⟩ (by k_asm) (by k_asm)
theorem c_mkRow {w : World} {mean : ExcName → Option Value} {mg mb : Str → Option Value} {news : Led} {v1 v2 : Value} :
   Ct w mean mg mb 4 269 news True [v1, v2] (fun v ns => ∃ (x dx : Nat) (d : Obj), v = .ref x ∧ ns = (x, instObj 269 dx) :: (dx, d) :: news ∧ IsMkRow w v1 v2 d ∧ AllLt dx news ∧ dx < x) := by
  refine ct_cls (by k_is) (by k_is) (by k_is) (fun x dx l1 l2 dp un gd cn cs fa ccd cl outer A₀ base h₀ L m s Q E B F X N T hk9 hp hd9 hu hR => ?_)
  refine cc_of_body (Ret := fun v ns => v = .none ∧ ∃ d, ns = (x, instObj 269 dx) :: (dx, d) :: news ∧ IsMkRow w v1 v2 d) (by k_is) (by k_is) (fun s HX => BindsTo.of_eq rfl) (by exact locs rfl) rfl rfl rfl (by decide) (fun dp un gd outer A₀ base h₀ L s Q E => Classical.choose_spec kap_iRow_ex iRow_k ⟨w, mean, mg, mb, dp, un, gd, outer, A₀, base, h₀, L, s, Q, E⟩ news x dx v1 v2 l1 l2) dp un gd cn cs fa ccd cl outer A₀ base h₀ L m s Q E B F X N T hk9 hp hd9 hu (fun v ns h' tk' r F N => hR v ns h' tk' ⟨r.1, ?_⟩ F N)
  obtain ⟨_, d, e, r⟩ := r
  exact ⟨x, dx, d, rfl, e, r, l1, l2⟩
theorem c_mkRow_v (kx : Cx) (cn8 : Str) (cs8 : Scope) (a8 : Addr) (ccd8 : Value) (cl8 : List (Str × Addr)) (zk : cs8.kind = .function) {D8 : Nat} (zW : Wf kx D8) (zD : Nat.ble 4 D8 = true) {news : Led} {v1 v2 : Value} {m8 : Str → Option Value} {h9 : Heap} {tk9 : Nat} {Q8 E8 : Value → Shared → Prop} (zF : Fr kx.h₀ kx.L h9 m8) (zN : News kx.h₀ kx.L h9 news)
   (kk9 : ∀ (x dx : Nat) (d : Obj) (h' : Heap) (tk' : Nat), IsMkRow kx.w v1 v2 d → AllLt dx news → dx < x → let n' : Led := (x, instObj 269 dx) :: (dx, d) :: news; Fr kx.h₀ kx.L h' m8 → News kx.h₀ kx.L h' n' → Q8 (.ref x) (kSt kx h' tk')) : wpAny (kMd kx) (kAr kx (envX cn8 cs8 kx.L a8 ccd8 cl8)) (call (.ref 269) [v1, v2]) Q8 E8 (kSt kx h9 tk9) := by
  refine cv_use kx cn8 cs8 a8 ccd8 cl8 zk zW zD c_mkRow zF zN ?_
  rintro v news' h' tk' ⟨x, dx, d, rfl, rfl, r, l1, l2⟩ F N
  exact kk9 x dx d _ _ r l1 l2 F N


example : True := by
  k_with "off KC" => skip
  trivial
end
section
abbrev cenv (x : Cx) (nm : Str) (scope : Scope) (f c : Nat) : Env := envX nm scope x.L f (.ref c) (cellsFrom (x.L + 1) scope.names [])
def BdC (x : Cx) (D : Nat) (nm : Str) (scope : Scope) (f c : Nat) (body : List Stmt) (binds : List (Str × Value)) (news : Led) (Ret : Value → Led → Prop) : Prop :=
  ∀ (h : Heap) (tk : Nat) (cells : Led), Wf x D → Fr x.h₀ x.L h (bindL (cenv x nm scope f c).kindOf binds fun _ => none) → News x.h₀ x.L h (cells ++ news) → CellsAre (bindC (cenv x nm scope f c).kindOf binds fun _ => none) (cellsFrom (x.L + 1) scope.names []) cells → AllLt x.L news →
  PassesOwn (kMd x) (kAr x (cenv x nm scope f c)) (cenv x nm scope f c) x.E →
  (∀ m' v news' h' tk', Ret v news' → Fr x.h₀ x.L h' m' → News x.h₀ x.L h' news' → x.Q v (kSt x h' tk')) →
  wpAny (kMd x) (kAr x (cenv x nm scope f c)) (execs body (cenv x nm scope f c)) (fun fl s' => x.Q (flv fl) s') x.E (kSt x h tk)
theorem cc_of_bodyC {w : World} {mean : ExcName → Option Value} {mg mb : Str → Option Value} {D : Nat} {news : Led} {vs : List Value} {Ret : Value → Led → Prop} {qual name : Str} {params : Arguments} {body : List Stmt} {scope : Scope} {dV kV doc pm ct oc : Value} {an od : Option Addr} {osl : Array (Option Value)} {f c : Addr} {binds : List (Str × Value)}
    (ho : (hd.heap_39 w.params).lookup f = some ⟨oc, od, .func (fnOf name qual params body scope dV kV doc pm an (.ref c) ct), osl⟩) (hcd : codeIn (hd.heap_39 w.params) (.ref c) qual = true)
    (hbind : ∀ (s : Shared), (hd.heap_39 w.params).In s.heap → BindsTo s (fnOf name qual params body scope dV kV doc pm an (.ref c) ct) ⟨vs, []⟩ binds) (hkind : (binds.all fun y => scope.names.lookup y.1 == some .local || scope.names.lookup y.1 == some .cell) = true)
    (hnd : ((cellsFrom 0 scope.names []).map (·.1)).Nodup)
    (hco : scope.isCoroutine = false) (hgen : scope.isGenerator = false) (hk : scope.kind = .function)
    (hb : ∀ (dp un : Nat) (gd : Option (List Code)) (outer : List Env) (A₀ : Around) (base h₀ : Heap) (L : Addr) (s : Shared) (Q E : Value → Shared → Prop), BdC ⟨w, mean, mg, mb, dp, un, gd, outer, A₀, base, h₀, L, s, Q, E⟩ D qual scope f c body binds news Ret) : CtA w mean mg mb (D + 1) f news True vs Ret := by
  intro dp un gd cn cs fa ccd cl outer A₀ base h₀ L m s Q E HB HF HX HN HT hkind9 hp hdp hun hret
  refine (code_defC HB HF HX HN HT rfl rfl hkind9 ho hcd (Nat.lt_of_le_of_lt (Nat.le_add_right dp (D+1)) hdp) (hbind s (HX.keeps HF.keep)) hkind hnd (fun g L' h₁ tk cells FG F' N' Y B' X' T' l1 => ?_) hco hgen hk)
  have lv : ∀ v news' h' tk' m', Ret v news' → Fr g L' h' m' → News g L' h' news' → LeaveK h₀ L m g (fun r s' => match r with | .ok (.ret v) => Q v s' | .ok _ => False | .error e => E e s') v { s with heap := h', toks := tk' } := fun v news' h' tk' m' hR F N => leaveK_ F N (fun F2 N2 => hret v news' h' tk' hR F2 N2)
  refine wpAny_mono (hb (dp + 1) (un + 3) gd (envX cn cs L fa ccd cl :: outer) _ base g L' { s with heap := h₁, toks := tk } (fun v s' => LeaveK h₀ L m g (fun r s' => match r with | .ok (.ret v) => Q v s' | .ok _ => False | .error e => E e s') v s') _ h₁ _ cells ⟨B', X', T', ?d, ?u⟩ F' N' Y (allLt_of l1) ?pa ?r) (fun fl s' h => ?fl) (fun _ _ h => h)
  case d =>
    show dp + 1 + D < recursionLimit
    rw [Nat.add_assoc, Nat.add_comm 1 D]; exact hdp
  case u =>
    show un + 3 + 8 * D < cLine
    omega
  case r =>
    intro m' v news' h' tk' hR F N
    exact lv v news' h' tk' m' hR F N
  case fl => cases fl <;> exact h
  case pa => exact PassesOwn.leaving
theorem ct_of_bodyC {w : World} {mean : ExcName → Option Value} {mg mb : Str → Option Value} {D : Nat} {news : Led} {vs : List Value} {Ret : Value → Led → Prop} {qual name : Str} {params : Arguments} {body : List Stmt} {scope : Scope} {dV kV doc pm ct oc : Value} {an od : Option Addr} {osl : Array (Option Value)} {f c : Addr} {binds : List (Str × Value)}
    (ho : (hd.heap_39 w.params).lookup f = some ⟨oc, od, .func (fnOf name qual params body scope dV kV doc pm an (.ref c) ct), osl⟩) (hcd : codeIn (hd.heap_39 w.params) (.ref c) qual = true)
    (hbind : ∀ (s : Shared), (hd.heap_39 w.params).In s.heap → BindsTo s (fnOf name qual params body scope dV kV doc pm an (.ref c) ct) ⟨vs, []⟩ binds) (hkind : (binds.all fun y => scope.names.lookup y.1 == some .local || scope.names.lookup y.1 == some .cell) = true)
    (hnd : ((cellsFrom 0 scope.names []).map (·.1)).Nodup)
    (hco : scope.isCoroutine = false) (hgen : scope.isGenerator = false) (hk : scope.kind = .function)
    (hb : ∀ (dp un : Nat) (gd : Option (List Code)) (outer : List Env) (A₀ : Around) (base h₀ : Heap) (L : Addr) (s : Shared) (Q E : Value → Shared → Prop), BdC ⟨w, mean, mg, mb, dp, un, gd, outer, A₀, base, h₀, L, s, Q, E⟩ D qual scope f c body binds news Ret) : Ct w mean mg mb (D + 1) f news True vs Ret :=
  fun dp un gd cn cs fa ccd cl outer A₀ base h₀ L m s Q E B F X N T hk9 hp hd9 hu hR => wpAny_call (cc_of_bodyC ho hcd hbind hkind hnd hco hgen hk hb dp un gd cn cs fa ccd cl outer A₀ base h₀ L m s Q E B F X N T hk9 hp hd9 hu hR)
theorem ev_cel (x : Cx) (cn : Str) (cs : Scope) (a : Addr) (ccd : Value) (cl : List (Str × Addr)) (n : Str) (hk : cs.kind = .function) (hx : (envX cn cs x.L a ccd cl).kindOf n = some .cell) (hdb : (n == ("__debug__" : Str)) = false) {c : Addr} (hc : cl.lookup n = some c) {o : Obj} {v : Value} (hd : o.data = .cell (some v)) {nw : Led} (hm : (c, o) ∈ nw)
    (p : Pos) (m : Str → Option Value) (tk : Nat) : Ev x (envX cn cs x.L a ccd cl) (.Name n p) m nw tk v tk := fun h F N Q E k => nameX_C N hc hm hd k hk hx hdb
theorem fr_ext {h₀ h : Heap} {L : Addr} {m m' : Str → Option Value} (F : Fr h₀ L h m) (e : ∀ y, m y = m' y) : Fr h₀ L h m' := (funext e : m = m') ▸ F
end
example : True := by
  k_with ".Mem" => first | exact List.Mem.head _ | assumption | exact memAt 1 rfl | exact memDrop 1 rfl (by assumption) | exact memAt 2 rfl | exact memDrop 2 rfl (by assumption) | exact memAt 3 rfl | exact memDrop 3 rfl (by assumption) | exact memAt 4 rfl | exact memDrop 4 rfl (by assumption) | exact memAt 5 rfl | exact memDrop 5 rfl (by assumption) | exact memAt 6 rfl | exact memDrop 6 rfl (by assumption) | exact memAt 7 rfl | exact memDrop 7 rfl (by assumption) | exact memAt 8 rfl | exact memDrop 8 rfl (by assumption) | exact memAt 9 rfl | exact memDrop 9 rfl (by assumption) | exact memAt 10 rfl | exact memDrop 10 rfl (by assumption) | exact memAt 11 rfl | exact memDrop 11 rfl (by assumption) | exact memAt 12 rfl | exact memDrop 12 rfl (by assumption) | exact memAt 13 rfl | exact memDrop 13 rfl (by assumption) | exact memAt 14 rfl | exact memDrop 14 rfl (by assumption) | (refine List.Mem.tail _ ?_; walk_at "Mem")
  k_with ".spliced" => ((fail_if_success k_extra "nolean"); ((k_here; k_dflt (first | ((with_reducible refine' evl_use _ _ _ _ _ _ ?pAZ ?FAZ ?NAZ ?_); (case FAZ => k_asm); (case NAZ => k_asm); (case pAZ => walk_at "EvL")) | ((with_reducible refine' xl_consP _ _ _ _ _ ?heAZ _ _ ?pAZ ?FAZ ?NAZ ?_); (case FAZ => k_asm); (case NAZ => k_asm); (case pAZ => walk_at "Ev"); (case heAZ => exact rfl)) | ((with_reducible refine' xl_consC _ _ _ _ _ ?heAZ _ _ ?_); (case heAZ => exact rfl)))); (try dsimp only [List.cons_append, List.nil_append])))
  trivial
section
set_option maxHeartbeats 1000000
theorem ct_use {w : World} {mean : ExcName → Option Value} {mg mb : Str → Option Value} {D f : Nat} {news : Led} {pre : Prop} {vs : List Value} {Ret : Value → Led → Prop}
    (C : Ct w mean mg mb D f news pre vs Ret) {dp un : Nat} {gd : Option (List Code)} {cn : Str} {cs : Scope} {a : Addr} {ccd : Value} {cl : List (Str × Addr)} {outer : List Env} {A₀ : Around} {base h₀ : Heap} {L : Addr} {m : Str → Option Value} {s : Shared} {Q E : Value → Shared → Prop}
    (B : Below A₀ base outer h₀) (F : Fr h₀ L s.heap m) (X : (hd.heap_39 w.params).In h₀) (N : News h₀ L s.heap news) (T : Top hd.view_39 loo mean mg mb h₀) (hk : cs.kind = .function) (hp : pre) (hd : dp + D < recursionLimit) (hu : un + 8 * D < cLine)
    (hR : ∀ v news' h' tk', Ret v news' → Fr h₀ L h' m → News h₀ L h' news' → Q v { s with heap := h', toks := tk' }) :
    wpAny (model PySem.Challenge.rw_ok0177_01.row.prog w) (ktrTop dp un gd cn cs L a ccd cl outer) (call (.ref f) vs) Q E s := C _ _ _ _ _ _ _ _ _ _ _ _ _ _ _ _ _ B F X N T hk hp hd hu hR

inductive PenT (p x : Nat) (rest : Led) (B : Nat) (k : Int) (T : Led) : Prop where
  | mk (a b : Int) (n : Nat) (vs : List Value) (xs : List Int) (nx : Nat) (ta tb : Tok) (q9 : T = (p, listOf #[.ref x, .int a ta, .int b tb] n) :: (x, listOf vs.toArray nx) :: rest ∧ 0 ≤ a ∧ a ≤ k ∧ IntsAre vs xs ∧ xs.length ≤ 40 ∧ p ≠ x ∧ (∀ q ∈ rest, q.1 ≠ p) ∧ (∀ q ∈ rest, q.1 ≠ x) ∧ ∀ D, AllLt D T ↔ B ≤ D) : PenT p x rest B k T
theorem pen_le {p x : Nat} {rest : Led} {B D : Nat} {k : Int} {T : Led} (h : PenT p x rest B k T) (l : AllLt D T) : B ≤ D := by
  obtain ⟨_, _, _, _, _, _, _, _, _, _, _, _, _, _, _, _, h⟩ := h
  exact (h D).mp l
theorem allLt_app {D : Nat} : ∀ {a b : Led}, AllLt D (a ++ b) → AllLt D b
  | [], _, h => h
  | _ :: r, _, h => allLt_app (a := r) h.2
theorem pen_leA {p x : Nat} {rest : Led} {B D : Nat} {k : Int} {pre T : Led} (h : PenT p x rest B k T) (l : AllLt D (pre ++ T)) : B ≤ D := pen_le h (allLt_app l)
theorem pen_lt {p x : Nat} {rest : Led} {B D : Nat} {k : Int} {T : Led} (h : PenT p x rest B k T) (l : B ≤ D) : AllLt D T := by
  obtain ⟨_, _, _, _, _, _, _, _, _, _, _, _, _, _, _, _, h⟩ := h
  exact (h D).mpr l
theorem pen_ne {p x : Nat} {rest : Led} {B D : Nat} {k : Int} {T : Led} (h : PenT p x rest B k T) (l : B ≤ D) : ∀ q ∈ T, q.1 ≠ D := allNe_of (pen_lt h l)
theorem pen_ap {p x : Nat} {rest : Led} {B D : Nat} {k : Int} {T : Led} (h : PenT p x rest B k T) (l : B ≤ D) : D ≠ p ∧ D ≠ x := by
  obtain ⟨_, _, _, _, _, _, _, _, e, _, _, _, _, _, _, _, h⟩ := h
  have := (h D).mpr l
  subst e
  exact ⟨Nat.ne_of_gt this.1, Nat.ne_of_gt this.2.1⟩
theorem pen_addr {p x : Nat} {rest : Led} {B : Nat} {k k' : Int} {T T' : Led} (h : PenT p x rest B k T) (h' : PenT p x rest B k' T') : ∀ q ∈ T', ∃ o ∈ T, o.1 = q.1 := by
  obtain ⟨_, _, _, _, _, _, _, _, e, _⟩ := h
  obtain ⟨_, _, _, _, _, _, _, _, e', _⟩ := h'
  subst e e'
  intro q hq
  rcases List.mem_cons.mp hq with rfl | hq
  · exact ⟨_, .head _, rfl⟩
  rcases List.mem_cons.mp hq with rfl | hq
  · exact ⟨_, .tail _ (.head _), rfl⟩
  · exact ⟨q, .tail _ (.tail _ hq), rfl⟩
theorem pen_two {p x : Nat} {rest : Led} {B : Nat} {k : Int} {T : Led} (h : PenT p x rest B k T) : ∃ o o', (p, o) ∈ T ∧ (x, o') ∈ T := by
  obtain ⟨_, _, _, _, _, _, _, _, e, _⟩ := h
  subst e
  exact ⟨_, _, .head _, .tail _ (.head _)⟩
theorem seq0 (v : Value) (l : List Value) : seqIndex? 0 (v :: l).toArray.size = some 0 := by
  simp [seqIndex?]
theorem pop_room {v : Value} {k : Int} {vs : List Value} {ks : List Int} (h : IntsAre vs ks) (hl : (k :: ks).length ≤ 40) : ((v :: vs).toArray).toList.length ≤ sizeLine := by
  have := IntsAre.length h
  rw [sizeLine_eq]
  simp only [List.length_cons] at *
  omega
theorem mod_in {y m : Int} (h : 0 < m) : 0 ≤ Int.fmod y m ∧ Int.fmod y m < m := by
  rw [Int.fmod_eq_emod_of_nonneg _ (Int.le_of_lt h)]
  exact ⟨Int.emod_nonneg _ (Int.ne_of_gt h), Int.emod_lt_of_pos _ h⟩
example : True := by
  k_with ".call builtin:list.pop" => ((fail_if_success k_extra "off C1"); (k_here; (with_reducible show wpAny _ _ (call (Value.builtin _) [Value.ref _, Value.int _ _]) _ _ _); k_dflt (refine' kl_popAt ?FBa ?NBa ?fBa ?kBa ?eBa ?UBa ?zBa ?_; (case FBa => k_asm); (case NBa => k_asm); (case UBa => k_upd); (case fBa => rfl); (case kBa => exact seq0 _ _); (case eBa => rfl); (case zBa => exact pop_room (by assumption) (by assumption))); (intro h'Z F'Z N'Z; (try dsimp only [List.nil_append, List.cons_append] at N'Z))))
  trivial
inductive RT_drawK (p x : Nat) (R : Led) (a many : Int) (v : Value) (ns : Led) : Prop where
  | mk (r : Int) (tr : Tok) (b' : Int) (n' nx' : Nat) (vs' : List Value) (xs' : List Int) (ta' tb' : Tok) (e1 : v = .int r tr) (e2 : ns = (p, listOf #[.ref x, .int (a + 1) ta', .int b' tb'] n') :: (x, listOf vs'.toArray nx') :: R) (hI : IntsAre vs' xs') (hl : xs'.length ≤ 40) (hr : 0 ≤ r ∧ r < many) : RT_drawK p x R a many v ns
theorem c_drawK_i {p x : Nat} {R : Led} {a many : Int} {h₀ : Heap} {L : Addr} {m : Str → Option Value} {s : Shared} {Q : Value → Shared → Prop}
   (kk9 : ∀ v news' h' tk', (RT_drawK p x R a many) v news' → Fr h₀ L h' m → News h₀ L h' news' → Q v { s with heap := h', toks := tk' }) :
   ∀ {r : Int} {tr : Tok} {b' : Int} {n' nx' : Nat} {vs' : List Value} {xs' : List Int} {ta' tb' : Tok} {h' : Heap} {tk' : Nat}, Fr h₀ L h' m → News h₀ L h' ((p, listOf #[.ref x, .int (a + 1) ta', .int b' tb'] n') :: (x, listOf vs'.toArray nx') :: R) → IntsAre vs' xs' → xs'.length ≤ 40 → (0 ≤ r ∧ r < many) → Q (.int r tr) { s with heap := h', toks := tk' } := by
  intro r tr b' n' nx' vs' xs' ta' tb' h' tk' F N hI hl hr
  exact kk9 _ _ _ _ ⟨_, _, _, _, _, _, _, _, _, rfl, rfl, hI, hl, hr⟩ F N
def S_c_drawK (kx : Cx) : Prop := ∀ (R : Led) (p x n nx : Nat) (a b : Int) (ta tb u : Tok) (vs : List Value) (xs : List Int) (many : Int) (hI : IntsAre vs xs) (hl : xs.length ≤ 40) (ha1 : 0 ≤ a) (ha2 : a ≤ 1000) (hm1 : 0 < many) (hm2 : many ≤ 100) (hpx : p ≠ x) (hp1 : ∀ q ∈ R, q.1 ≠ p) (hp2 : ∀ q ∈ R, q.1 ≠ x), Bd kx 11 (Str.ofString "_law_draw") (scopeAt "_law_draw") 735 734 (bodyAt "_law_draw") (fun yq => [(Str.ofString "pen", (.ref p : Value)), (Str.ofString "many", (.int many u : Value))].reverse.lookup yq) ((p, listOf #[.ref x, .int a ta, .int b tb] n) :: (x, listOf vs.toArray nx) :: R) (RT_drawK p x R a many)
noncomputable def kap_c_drawK : Cx := kapOf S_c_drawK
theorem c_drawK_k : S_c_drawK kap_c_drawK := by
  intro R p x n nx a b ta tb u vs xs many hI hl ha1 ha2 hm1 hm2 hpx hp1 hp2
  have e1 : (scopeAt "_law_draw") = (scopeAt "_law_draw") := rfl
  conv at e1 => rhs; whnf
  have e2 : (bodyAt "_law_draw") = (bodyAt "_law_draw") := rfl
  conv at e2 => rhs; whnf
  (try dsimp only at e1)
  (try dsimp only at e2)
  refine @bd_lit _ _ _ _ _ _ _ _ _ _ _ _ e1 e2 ?_
  clear e1 e2
  unfold Bd
  k_fill
  intro h tk HB HF HX HN HT hdp hun hE hret
  have HW : Wf kap_c_drawK 11 := ⟨HB, HX, HT, hdp, hun⟩
  replace hret := fun mq => @c_drawK_i _ _ _ _ _ _ _ mq _ _ (hret mq)
  refine frLet HF ?_
  intro mk HF9
  clear HF
  refine ledLet (by with_reducible assumption) ?_
  intro nk HN9
  cases hI
  all_goals k_steps
  all_goals (refine' hret _ ?F ?N ?I ?l (mod_in hm1); (case F => k_asm); (case N => first | k_asm | exact cb_drop (by k_asm) (fun q hq => List.Mem.tail _ hq)); (case I => first | assumption | (constructor; assumption) | constructor); (case l => first | assumption | (simp only [List.length_cons] at *; omega)))
theorem c_drawK {w : World} {mean : ExcName → Option Value} {mg mb : Str → Option Value} {R : Led} {p x n nx : Nat} {a b : Int} {ta tb u : Tok} {vs : List Value} {xs : List Int} {many : Int} (hI : IntsAre vs xs) (hl : xs.length ≤ 40) (ha1 : 0 ≤ a) (ha2 : a ≤ 1000) (hm1 : 0 < many) (hm2 : many ≤ 100) (hpx : p ≠ x) (hp1 : ∀ q ∈ R, q.1 ≠ p) (hp2 : ∀ q ∈ R, q.1 ≠ x) :
   Ct w mean mg mb 12 735 ((p, listOf #[.ref x, .int a ta, .int b tb] n) :: (x, listOf vs.toArray nx) :: R) True [.ref p, .int many u] (RT_drawK p x R a many) := by
  k_extra "Z1"
  exact @kap_all S_c_drawK c_drawK_k ⟨w, mean, mg, mb, dp, un, gd, outer, A₀, base, h₀, L, s, Q, E⟩ R p x n nx a b ta tb u vs xs many hI hl ha1 ha2 hm1 hm2 hpx hp1 hp2
theorem ct_perm {w : World} {mean : ExcName → Option Value} {mg mb : Str → Option Value} {D f : Nat} {n1 n2 : Led} {vs : List Value} {R1 R2 : Value → Led → Prop} (hs : ∀ q ∈ n1, q ∈ n2) (hr : ∀ v k1, R1 v k1 → ∃ k2, R2 v k2 ∧ ∀ q ∈ k2, q ∈ k1) (C : Ct w mean mg mb D f n1 True vs R1) : Ct w mean mg mb D f n2 True vs R2 :=
  fun dp un gd cn cs a ccd cl outer A₀ base h₀ L m s Q E B F X N T hk hp hd hu hR => C dp un gd cn cs a ccd cl outer A₀ base h₀ L m s Q E B F X (fun q hq => N q (hs q hq)) T hk hp hd hu (fun v k1 h' tk' r F' N' => by obtain ⟨k2, r2, s2⟩ := hr v k1 r; exact hR v k2 h' tk' r2 F' (fun q hq => N' q (s2 q hq)))
theorem c_draw {w : World} {mean : ExcName → Option Value} {mg mb : Str → Option Value} {p x : Nat} {rest : Led} {B : Nat} {k : Int} {T : Led} (pre : Led) {many : Int} {u : Tok}
   (hT : PenT p x rest B k T) (hk : k ≤ 1000) (hap : ∀ q ∈ pre, q.1 ≠ p ∧ q.1 ≠ x) (hm : 0 < many ∧ many ≤ 100) :
   Ct w mean mg mb 12 735 (pre ++ T) True [.ref p, .int many u]
     (fun v ns => ∃ T' r t, v = .int r t ∧ 0 ≤ r ∧ r < many ∧ ns = pre ++ T' ∧ PenT p x rest B (k + 1) T') := by
  obtain ⟨a, b, n, vs, xs, nx, ta, tb, rfl, ha1, ha2, hI, hl, hpx, hq1, hq2, hB⟩ := hT
  obtain ⟨hm1, hm2⟩ := hm
  have hp1 : ∀ q ∈ rest ++ pre, q.1 ≠ p := fun q hq => by
    rcases List.mem_append.mp hq with h | h
    · exact hq1 q h
    · exact (hap q h).1
  have hp2 : ∀ q ∈ rest ++ pre, q.1 ≠ x := fun q hq => by
    rcases List.mem_append.mp hq with h | h
    · exact hq2 q h
    · exact (hap q h).2
  have hin : ∀ {P X : Addr × Obj} {q : Addr × Obj}, q ∈ P :: X :: (rest ++ pre) ↔ q ∈ pre ++ (P :: X :: rest) := fun {P X q} => by
    simp only [List.mem_append, List.mem_cons]
    constructor
    · rintro (h | h | h | h) <;> simp [h]
    · rintro (h | h | h | h) <;> simp [h]
  refine ct_perm (fun q hq => hin.mp hq) (fun v k1 r => ?_) (c_drawK hI hl (by omega) (by omega) hm1 hm2 hpx hp1 hp2)
  obtain ⟨r, tr, b', n', nx', vs', xs', ta', tb', rfl, rfl, hI', hl', hr1, hr2⟩ := r
  exact ⟨pre ++ ((p, listOf #[.ref x, .int (a + 1) ta', .int b' tb'] n') :: (x, listOf vs'.toArray nx') :: rest), ⟨_, r, tr, rfl, hr1, hr2, rfl, ⟨a + 1, b', n', vs', xs', nx', ta', tb', rfl, by omega, by omega, hI', hl', hpx, hq1, hq2, hB⟩⟩, fun q hq => hin.mpr hq⟩

example : True := by
  k_with "off C1" => skip
  trivial
end
section
set_option maxHeartbeats 1000000
example : True := by
  k_with "nolean" => fail_if_success k_extra "off C2"
  k_with "T:k_mem" => ((fail_if_success k_extra "off C2"); exact List.mem_append_left _ (by assumption))
  k_with ".call ref" => (k_here; (with_reducible show wpAny _ _ (call (Value.ref 735) _) _ _ _); k_dflt (refine' ct_use (c_draw _ ?hTBc ?hkBc ?hapBc ?hmBc) ?kBBc ?kFBc ?kXBc ?kNBc ?kTBc ?kkBc trivial ?kdBc ?kuBc ?_; (case kBBc => k_asm); (case kFBc => k_asm); (case kXBc => k_asm); (case kNBc => k_asm); (case kTBc => k_asm); (case kkBc => first | exact rfl | assumption); (case hTBc => assumption); (case hkBc => omega); (case hapBc => assumption); (case hmBc => (constructor <;> omega)); (case kdBc => ktr_room); (case kuBc => ktr_units); (intro v9Z ns9Z h9Z tk9Z hR9Z F9Z N9Z; obtain ⟨T9, r9, t9, hv9, hr9, hs9, hn9, hT9⟩ := hR9Z; subst hv9 hn9; (try dsimp only); (try k_fold))))
  trivial
theorem ints_get {vs : List Value} {xs : List Int} (h : IntsAre vs xs) : ∀ i : Nat, i < vs.length → ∃ r t, vs[i]? = some (.int r t) ∧ r ∈ xs := by
  induction h with
  | nil => intro i hi; exact absurd hi (Nat.not_lt_zero _)
  | cons k t r ih =>
    intro i hi
    cases i with
    | zero => exact ⟨_, _, rfl, .head _⟩
    | succ i =>
      obtain ⟨r', t', h1, h2⟩ := ih i (Nat.lt_of_succ_lt_succ hi)
      exact ⟨r', t', h1, .tail _ h2⟩
section
variable {prog : Program} {w : World} {A : Around} {E : Value → Shared → Prop} {s : Shared} {h₀ : Heap} {L : Addr} {m : Str → Option Value} {news : Led}
theorem item_ints {value slice : PySem.Expr} {l n : Nat} {vs : List Value} {xs : List Int} {k : Int} {u : Tok} {Q : Value → Shared → Prop} (N : News h₀ L s.heap news) (hm : (l, listOf vs.toArray n) ∈ news) (hI : IntsAre vs xs)
    (h0 : 0 ≤ k) (hk : k < (vs.toArray.size : Int)) (hsz : xs.length ≤ 100) (h : ∀ r t, r ∈ xs → Q (.int r t) s)
    (hs : subscripted slice false (.ref l) (.int k u) = operate [.ref l, .int k u] (getItem (.ref l) (.int k u)) := by with_unfolding_all rfl) :
    wpAny (model prog w) A (subscriptTail value slice (.ref l) (.int k u)) Q E s := by
  have hl := News.isList N hm
  have hlen := IntsAre.length hI
  rw [List.size_toArray] at hk
  obtain ⟨r, t, h1, h2⟩ := ints_get hI k.toNat (by omega)
  exact tail_any hl.typeIs slot_list_getitem.lookup (wpAny_getItem_list hl h0 (by omega) (by simpa using h1) (h r t h2)) hs
end
example : True := by
  k_with ".call builtin:len" => ((fail_if_success k_extra "off C2"); (k_here; (with_reducible show wpAny _ _ (call (Value.builtin "len") [Value.ref _]) _ _ _); k_dflt (refine' len_list (News.isList ?NBd (List.mem_append_left _ ?mBd)) ?fBd ?_; (case NBd => k_asm); (case mBd => assumption); (case fBd => (have hq9 := IntsAre.length (by assumption); rw [List.size_toArray]; omega)); k_whole)))
  k_with ".subscriptTail" => ((fail_if_success k_extra "off C2"); (k_here; (with_reducible show wpAny _ _ (subscriptTail _ _ (Value.ref _) (Value.int _ _)) _ _ _); k_dflt (refine' item_ints ?NBe (List.mem_append_left _ ?mBe) ?IBe ?aBe ?bBe ?cBe ?_ ?zBe; (case NBe => k_asm); (case mBe => assumption); (case IBe => assumption); (case aBe => assumption); (case bBe => assumption); (case cBe => assumption); (case zBe => with_unfolding_all rfl)); intro r9Z t9Z hr9Z))
  trivial
theorem c_pick {w : World} {mean : ExcName → Option Value} {mg mb : Str → Option Value} {p x : Nat} {rest : Led} {B : Nat} {k : Int} {T : Led} (pre : Led) {sl n : Nat} {vs : List Value} {xs : List Int}
   (hT : PenT p x rest B k T) (hk : k ≤ 1000) (hap : ∀ q ∈ pre, q.1 ≠ p ∧ q.1 ≠ x) (hs : (sl, listOf vs.toArray n) ∈ pre) (hI : IntsAre vs xs) (hl : 0 < xs.length ∧ xs.length ≤ 100) :
   Ct w mean mg mb 16 742 (pre ++ T) True [.ref p, .ref sl]
     (fun v ns => ∃ T' r t, v = .int r t ∧ r ∈ xs ∧ ns = pre ++ T' ∧ PenT p x rest B (k + 1) T') := by
  obtain ⟨hl1, hl2⟩ := hl
  have hq0 := IntsAre.length hI
  have hz1 : (0 : Int) < (vs.toArray.size : Int) := by rw [List.size_toArray]; omega
  have hz2 : (vs.toArray.size : Int) ≤ 100 := by rw [List.size_toArray]; omega
  unfold Ct
  k_fill
  intro dp un gd cn cs fa ccd cl outer A₀ base h₀ L m s Q E HB HF HX HN HT hkind hp hdp hun hret
  refine wpAny_call ?_
  k_dflt cell_enter
  k_steps
  all_goals exact hret _ _ _ _ ⟨_, _, _, rfl, by assumption, rfl, by assumption⟩ (by k_asm) (by k_asm)
def isI : Value → Bool
  | .int _ _ => true
  | _ => false
def intsOf : List Value → List Int
  | [] => []
  | .int i _ :: r => i :: intsOf r
  | _ :: r => intsOf r
theorem ints_of : ∀ {vs : List Value}, vs.all isI = true → IntsAre vs (intsOf vs)
  | [], _ => .nil
  | v :: r, h => by
    rw [List.all_cons, Bool.and_eq_true] at h
    cases v with
    | int i t => exact .cons i t (ints_of h.2)
    | _ => exact absurd h.1 (by simp [isI])
theorem c_pickL {w : World} {mean : ExcName → Option Value} {mg mb : Str → Option Value} {p x : Nat} {rest : Led} {B : Nat} {k : Int} {T : Led} (pre : Led) {sl n : Nat} {vs : List Value}
   (hT : PenT p x rest B k T) (hk : k ≤ 1000) (hap : ∀ q ∈ pre, q.1 ≠ p ∧ q.1 ≠ x) (hs : (sl, listOf vs.toArray n) ∈ pre) (hI : vs.all isI = true) (hl : (!vs.isEmpty && Nat.ble vs.length 100) = true) :
   Ct w mean mg mb 16 742 (pre ++ T) True [.ref p, .ref sl]
     (fun v ns => ∃ T' r t, v = .int r t ∧ r ∈ intsOf vs ∧ ns = pre ++ T' ∧ PenT p x rest B (k + 1) T') := by
  have h1 := ints_of hI
  have h2 := IntsAre.length h1
  obtain ⟨ha, hb⟩ := Bool.and_eq_true_iff.mp hl
  refine c_pick pre hT hk hap hs h1 ⟨?_, ?_⟩
  · cases vs with
    | nil => cases ha
    | cons v r => rw [List.length_cons] at h2; omega
  · have := Nat.le_of_ble_eq_true hb
    omega

example : True := by
  k_with "off C2" => skip
  trivial
end
section
set_option maxHeartbeats 1000000
example : True := by
  k_with "T:k_mem" => ((fail_if_success k_extra "off C2s"); exact List.mem_append_left _ (by assumption))
  trivial
def isS : Value → Bool
  | .str _ _ => true
  | _ => false
def strsOf : List Value → List Str
  | [] => []
  | .str i _ :: r => i :: strsOf r
  | _ :: r => strsOf r
theorem strs_get {vs : List Value} : vs.all isS = true → ∀ i : Nat, i < vs.length → ∃ r t, vs[i]? = some (.str r t) ∧ r ∈ strsOf vs := by
  induction vs with
  | nil => intro _ i hi; exact absurd hi (Nat.not_lt_zero _)
  | cons v vs ih =>
    intro h i hi
    rw [List.all_cons, Bool.and_eq_true] at h
    cases v with
    | str o t =>
      cases i with
      | zero => exact ⟨_, _, rfl, .head _⟩
      | succ i =>
        obtain ⟨r', t', h1, h2⟩ := ih h.2 i (Nat.lt_of_succ_lt_succ hi)
        exact ⟨r', t', h1, .tail _ h2⟩
    | _ => exact absurd h.1 (by simp [isS])
section
variable {prog : Program} {w : World} {A : Around} {E : Value → Shared → Prop} {s : Shared} {h₀ : Heap} {L : Addr} {m : Str → Option Value} {news : Led} {K : Frag}
theorem item_topS {value slice : PySem.Expr} {a n : Nat} {l : List Value} {dd : Option Addr} {sl : Array (Option Value)} {k : Int} {u : Tok} {Q : Value → Shared → Prop} (F : Fr h₀ L s.heap m) (X₀ : K.In h₀) (hl : K.lookup a = some ⟨.type "tuple", dd, .seq l.toArray n, sl⟩)
    (hall : l.all isS = true) (hn : Nat.ble l.length 100 = true) (h0 : 0 ≤ k) (hk : k < (l.length : Int)) (h : ∀ o t, o ∈ strsOf l → Q (.str o t) s)
    (hs : subscripted slice false (.ref a) (.int k u) = operate [.ref a, .int k u] (getItem (.ref a) (.int k u)) := by with_unfolding_all rfl) :
    wpAny (model prog w) A (subscriptTail value slice (.ref a) (.int k u)) Q E s := by
  obtain ⟨r, t, h1, h2⟩ := strs_get hall k.toNat (by omega)
  have hn' := Nat.le_of_ble_eq_true hn
  refine topTup_K F X₀ hl (by omega) (by omega) (j := k.toNat) ?_ h1 (h r t h2) hs
  simp only [seqIndex?]
  rw [if_neg (by omega : ¬ k < 0), if_pos (by simp only [Bool.and_eq_true, decide_eq_true_eq]; omega)]
end
example : True := by
  k_with ".subscriptTail" => ((fail_if_success k_extra "off C2s"); (k_here; (with_reducible show wpAny _ _ (subscriptTail _ _ (Value.ref 723) (Value.int _ _)) _ _ _); k_dflt (refine' item_topS ?FBg ?XBg ?lBg ?alBg ?nBg ?aBg ?bBg ?_ ?zBg; (case FBg => k_asm); (case XBg => k_asm); (case lBg => k_is); (case alBg => rfl); (case nBg => rfl); (case aBg => assumption); (case bBg => (simp only [List.length_cons, List.length_nil]; omega)); (case zBg => with_unfolding_all rfl)); intro r9Z t9Z hr9Z; (simp only [strsOf] at hr9Z)))
  trivial
def S_c_pickS (kx : Cx) : Prop := ∀ (p x : Nat) (rest : Led) (B : Nat) (k : Int) (T : Led) (pre : Led) (hT : PenT p x rest B k T) (hk : k ≤ 1000) (hap : ∀ q ∈ pre, q.1 ≠ p ∧ q.1 ≠ x), Bd kx 15 (Str.ofString "_law_pick") (scopeAt "_law_pick") 742 741 (bodyAt "_law_pick") (fun yq => [(Str.ofString "pen", (.ref p : Value)), (Str.ofString "some", (.ref 723 : Value))].reverse.lookup yq) (pre ++ T)      (fun v ns => ∃ T' r t, v = .str r t ∧ r ∈ ([Str.ofString "eq", Str.ofString "gt", Str.ofString "ge", Str.ofString "set", Str.ofString "ne", Str.ofString "sgt", Str.ofString "sge", Str.ofString "lt", Str.ofString "le", Str.ofString "slt", Str.ofString "sle"] : List Str) ∧ ns = pre ++ T' ∧ PenT p x rest B (k + 1) T')
noncomputable def kap_c_pickS : Cx := kapOf S_c_pickS
theorem c_pickS_k : S_c_pickS kap_c_pickS := by
  intro p x rest B k T pre hT hk hap
  have e1 : (scopeAt "_law_pick") = (scopeAt "_law_pick") := rfl
  conv at e1 => rhs; whnf
  have e2 : (bodyAt "_law_pick") = (bodyAt "_law_pick") := rfl
  conv at e2 => rhs; whnf
  (try dsimp only at e1)
  (try dsimp only at e2)
  refine @bd_lit _ _ _ _ _ _ _ _ _ _ _ _ e1 e2 ?_
  clear e1 e2
  unfold Bd
  k_fill
  intro h tk HB HF HX HN HT hdp hun hE hret
  have HW : Wf kap_c_pickS 15 := ⟨HB, HX, HT, hdp, hun⟩
  refine frLet HF ?_
  intro mk HF9
  clear HF
  refine ledLet (by with_reducible assumption) ?_
  intro nk HN9
  k_steps
  all_goals exact hret _ _ _ _ _ ⟨_, _, _, rfl, by assumption, rfl, by assumption⟩ (by k_asm) (by k_asm)
theorem c_pickS {w : World} {mean : ExcName → Option Value} {mg mb : Str → Option Value} {p x : Nat} {rest : Led} {B : Nat} {k : Int} {T : Led} (pre : Led)
   (hT : PenT p x rest B k T) (hk : k ≤ 1000) (hap : ∀ q ∈ pre, q.1 ≠ p ∧ q.1 ≠ x) :
   Ct w mean mg mb 16 742 (pre ++ T) True [.ref p, .ref 723]
     (fun v ns => ∃ T' r t, v = .str r t ∧ r ∈ ([Str.ofString "eq", Str.ofString "gt", Str.ofString "ge", Str.ofString "set", Str.ofString "ne", Str.ofString "sgt", Str.ofString "sge", Str.ofString "lt", Str.ofString "le", Str.ofString "slt", Str.ofString "sle"] : List Str) ∧ ns = pre ++ T' ∧ PenT p x rest B (k + 1) T') := by
  k_extra "Z1"
  exact @kap_all S_c_pickS c_pickS_k ⟨w, mean, mg, mb, dp, un, gd, outer, A₀, base, h₀, L, s, Q, E⟩ p x rest B k T pre hT hk hap
example : True := by
  k_with "off C2s" => skip
  trivial
end
section
set_option maxHeartbeats 1000000
local macro_rules | `(tactic| k_lt $h) => `(tactic| (replace $h := allLt_of $h; (try simp only [AllLt, and_true] at $h:ident); (repeat (have h9 := And.left $h; replace $h := And.right $h)); (try (first | replace $h := pen_le (by assumption) $h | replace $h := pen_leA (by assumption) $h))))
section
variable {prog : Program} {w : World} {A : Around} {E : Value → Shared → Prop} {s : Shared}
example : True := by
  k_with "nolean" => fail_if_success k_extra "off C3"
  k_with "nolet" => fail_if_success k_extra "off C3"
  k_with ".storeName" => ((fail_if_success k_extra "off C3"); (k_here; k_dflt (refine' stL ?FBh ?NBh ?_ ?aBh ?bBh; (case FBh => k_asm); (case NBh => k_asm); (case aBh => rfl); (case bBh => rfl); k_whole; intro mkZ nkZ h'Z F'Z N'Z; (try k_sweep))))
  k_with "T:k_all" => ((fail_if_success k_extra "off C3"); exact pen_ne (by assumption) (by first | assumption | omega))
  k_with ".call ref" => (k_here; (with_reducible show wpAny _ _ (call (Value.ref 742) _) _ _ _); k_dflt ((first | (refine' ct_use (c_pickL [] ?hTBj ?hkBj ?hapBj ?hsBj ?hIBj ?hlBj) ?kBBj ?kFBj ?kXBj ?kNBj ?kTBj ?kkBj trivial ?kdBj ?kuBj ?_; (case kNBj => k_asm); (case hTBj => assumption)) | (refine' ct_use (c_pickL [_] ?hTBj ?hkBj ?hapBj ?hsBj ?hIBj ?hlBj) ?kBBj ?kFBj ?kXBj ?kNBj ?kTBj ?kkBj trivial ?kdBj ?kuBj ?_; (case kNBj => k_asm); (case hTBj => assumption)) | (refine' ct_use (c_pickL [_, _] ?hTBj ?hkBj ?hapBj ?hsBj ?hIBj ?hlBj) ?kBBj ?kFBj ?kXBj ?kNBj ?kTBj ?kkBj trivial ?kdBj ?kuBj ?_; (case kNBj => k_asm); (case hTBj => assumption)) | (refine' ct_use (c_pickL [_, _, _] ?hTBj ?hkBj ?hapBj ?hsBj ?hIBj ?hlBj) ?kBBj ?kFBj ?kXBj ?kNBj ?kTBj ?kkBj trivial ?kdBj ?kuBj ?_; (case kNBj => k_asm); (case hTBj => assumption)) | (refine' ct_use (c_pickL [_, _, _, _] ?hTBj ?hkBj ?hapBj ?hsBj ?hIBj ?hlBj) ?kBBj ?kFBj ?kXBj ?kNBj ?kTBj ?kkBj trivial ?kdBj ?kuBj ?_; (case kNBj => k_asm); (case hTBj => assumption)) | (refine' ct_use (c_pickL [_, _, _, _, _] ?hTBj ?hkBj ?hapBj ?hsBj ?hIBj ?hlBj) ?kBBj ?kFBj ?kXBj ?kNBj ?kTBj ?kkBj trivial ?kdBj ?kuBj ?_; (case kNBj => k_asm); (case hTBj => assumption)) | (refine' ct_use (c_pickL [_, _, _, _, _, _] ?hTBj ?hkBj ?hapBj ?hsBj ?hIBj ?hlBj) ?kBBj ?kFBj ?kXBj ?kNBj ?kTBj ?kkBj trivial ?kdBj ?kuBj ?_; (case kNBj => k_asm); (case hTBj => assumption)) | (refine' ct_use (c_pickL (_ :: _) ?hTBj ?hkBj ?hapBj ?hsBj ?hIBj ?hlBj) ?kBBj ?kFBj ?kXBj ?kNBj ?kTBj ?kkBj trivial ?kdBj ?kuBj ?_; (case kNBj => k_asm); (case hTBj => assumption))); (case kBBj => k_asm); (case kFBj => k_asm); (case kXBj => k_asm); (case kTBj => k_asm); (case kkBj => first | exact rfl | assumption); (case hsBj => (first | exact List.Mem.head _ | exact List.Mem.tail _ (List.Mem.head _) | exact List.Mem.tail _ (List.Mem.tail _ (List.Mem.head _)))); (case hkBj => omega); (case hapBj => (repeat (first | exact List.forall_mem_nil _ | (refine List.forall_mem_cons.mpr (And.intro ?_ ?_)) | assumption | exact pen_ap (by assumption) (by first | assumption | omega)))); (case hIBj => rfl); (case hlBj => rfl); (case kdBj => ktr_room); (case kuBj => ktr_units); (intro v9Z ns9Z h9Z tk9Z hR9Z F9Z N9Z; obtain ⟨T9, r9, t9, hv9, hr9, hn9, hT9⟩ := hR9Z; subst hv9 hn9; (simp only [intsOf] at hr9); (try dsimp only [List.nil_append, List.cons_append] at N9Z); (try dsimp only); (try k_fold))))
  trivial
theorem pow2_at (n r : Int) {t u : Tok} {Q : Value → Shared → Prop} (hn : 0 ≤ n) (hn2 : n ≤ 1000000) (e : (2 : Int) ^ n.toNat = r) (h : Q (.int r s.toks) { s with toks := s.toks + 1 }) :
    wpAny (model prog w) A (binaryOp .Pow (.int 2 t) (.int n u)) Q E s := pow_int_small hn hn2 (by decide) (e ▸ h)
theorem pow2_31 {t u : Tok} {Q : Value → Shared → Prop} (h : Q (.int 2147483648 s.toks) { s with toks := s.toks + 1 }) : wpAny (model prog w) A (binaryOp .Pow (.int 2 t) (.int 31 u)) Q E s := pow2_at 31 _ (by decide) (by decide) (by decide) h
theorem pow2_32 {t u : Tok} {Q : Value → Shared → Prop} (h : Q (.int 4294967296 s.toks) { s with toks := s.toks + 1 }) : wpAny (model prog w) A (binaryOp .Pow (.int 2 t) (.int 32 u)) Q E s := pow2_at 32 _ (by decide) (by decide) (by decide) h
theorem pow2_63 {t u : Tok} {Q : Value → Shared → Prop} (h : Q (.int 9223372036854775808 s.toks) { s with toks := s.toks + 1 }) : wpAny (model prog w) A (binaryOp .Pow (.int 2 t) (.int 63 u)) Q E s := pow2_at 63 _ (by decide) (by decide) (by decide) h
theorem pow2_64 {t u : Tok} {Q : Value → Shared → Prop} (h : Q (.int 18446744073709551616 s.toks) { s with toks := s.toks + 1 }) : wpAny (model prog w) A (binaryOp .Pow (.int 2 t) (.int 64 u)) Q E s := pow2_at 64 _ (by decide) (by decide) (by decide) h
end
example : True := by
  k_with ".binaryOp Pow int int" => ((fail_if_success k_extra "off C3"); (k_here; first | with_reducible refine pow2_31 ?_ | with_reducible refine pow2_32 ?_ | with_reducible refine pow2_63 ?_ | with_reducible refine pow2_64 ?_))
  trivial
theorem worth_in {r : Int} (h : r ∈ ([0, 1, 2147483648, 2147483648 - 1, 4294967296 - 1, 4294967296, 4294967296 + 1, 9223372036854775808, 9223372036854775808 - 1, 18446744073709551616 - 1, 18446744073709551616 - 2147483648, 77] : List Int)) : 0 ≤ r ∧ r < 2 ^ 64 := by
  simp only [List.mem_cons, List.not_mem_nil, or_false] at h
  rcases h with h | h | h | h | h | h | h | h | h | h | h | h <;> subst h <;> decide
def S_c_worth (kx : Cx) : Prop := ∀ (p x : Nat) (rest : Led) (B : Nat) (k : Int) (T : Led) (pre : Led) (hT : PenT p x rest B k T) (hk : k ≤ 1000) (hap : ∀ q ∈ pre, q.1 ≠ p ∧ q.1 ≠ x), Bd kx 19 (Str.ofString "_law_worth") (scopeAt "_law_worth") 749 748 (bodyAt "_law_worth") (fun yq => [(Str.ofString "pen", (.ref p : Value))].reverse.lookup yq) (pre ++ T)      (fun v ns => ∃ T' r t, v = .int r t ∧ 0 ≤ r ∧ r < 2 ^ 64 ∧ ns = pre ++ T' ∧ PenT p x rest B (k + 1) T')
noncomputable def kap_c_worth : Cx := kapOf S_c_worth
theorem c_worth_k : S_c_worth kap_c_worth := by
  intro p x rest B k T pre hT hk hap
  have e1 : (scopeAt "_law_worth") = (scopeAt "_law_worth") := rfl
  conv at e1 => rhs; whnf
  have e2 : (bodyAt "_law_worth") = (bodyAt "_law_worth") := rfl
  conv at e2 => rhs; whnf
  (try dsimp only at e1)
  (try dsimp only at e2)
  refine @bd_lit _ _ _ _ _ _ _ _ _ _ _ _ e1 e2 ?_
  clear e1 e2
  unfold Bd
  k_fill
  intro h tk HB HF HX HN HT hdp hun hE hret
  have HW : Wf kap_c_worth 19 := ⟨HB, HX, HT, hdp, hun⟩
  refine frLet HF ?_
  intro mk HF9
  clear HF
  refine ledLet (by with_reducible assumption) ?_
  intro nk HN9
  k_steps
  all_goals (refine' hret _ _ _ _ _ ⟨_, _, _, rfl, (worth_in (by assumption)).1, (worth_in (by assumption)).2, rfl, ?hT⟩ ?F ?N; (case hT => assumption); (case F => k_asm); (case N => exact cb_drop (by k_asm) (fun q hq => List.Mem.tail _ hq)))
theorem c_worth {w : World} {mean : ExcName → Option Value} {mg mb : Str → Option Value} {p x : Nat} {rest : Led} {B : Nat} {k : Int} {T : Led} (pre : Led)
   (hT : PenT p x rest B k T) (hk : k ≤ 1000) (hap : ∀ q ∈ pre, q.1 ≠ p ∧ q.1 ≠ x) :
   Ct w mean mg mb 20 749 (pre ++ T) True [.ref p]
     (fun v ns => ∃ T' r t, v = .int r t ∧ 0 ≤ r ∧ r < 2 ^ 64 ∧ ns = pre ++ T' ∧ PenT p x rest B (k + 1) T') := by
  k_extra "Z1"
  exact @kap_all S_c_worth c_worth_k ⟨w, mean, mg, mb, dp, un, gd, outer, A₀, base, h₀, L, s, Q, E⟩ p x rest B k T pre hT hk hap
example : True := by
  k_with "off C3" => skip
  trivial
end
section
set_option maxHeartbeats 1000000
section
variable {prog : Program} {w : World} {A : Around} {s : Shared} {h₀ : Heap} {L : Addr} {m : Str → Option Value} {env : Env}
example : True := by
  k_with "nolean" => fail_if_success k_extra "off C4"
  trivial
theorem compEnd_mono {s₁ : Shared} {I C D : Addr} {oI oC oD : Obj} {S : Led → Prop} {R R' : Value → Led → Prop} (h : ∀ y n, R y n → R' y n) {y : Value} {s₂ : Shared}
    (x : LCg.CompEnd h₀ L m s₁ I oI C oC D oD S R y s₂) : LCg.CompEnd h₀ L m s₁ I oI C oC D oD S R' y s₂ := by
  obtain ⟨h', tk, n', e, F, N, o, hS, r⟩ := x
  exact ⟨h', tk, n', e, F, N, o, hS, h _ _ r⟩
theorem comp_ind {elt : PySem.Expr} {x : Str} {scope : Scope} {cl : List (Str × Addr)} {S : Led → Prop} {P : Nat → Value → Prop} {Fin : List Value → Led → Prop} (Inv : Nat → List Value → Led → Prop) {n : Nat} {news : Led}
    (h0 : Inv 0 [] news)
    (step : ∀ i ys nw, i < n → Inv i ys nw → ∀ v I oI C oC D m₂ h tk (E' : Value → Shared → Prop), P i v → LCg.NsObj oC m₂ → m₂ x = some v → Fr h₀ L h m → News h₀ L h ((I, oI) :: (C, oC) :: (D, LCg.lst ys) :: nw) → LCg.Off3 I C D nw → ((@Ne Nat I C) ∧ (@Ne Nat I D) ∧ (@Ne Nat C D)) →
      wpAny (model prog w) A (eval elt (compEnvC scope cl C env)) (LCg.CompEnd h₀ L m { s with heap := h, toks := tk } I oI C oC D (LCg.lst ys) S (fun y news' => Inv (i + 1) (ys ++ [y]) news')) E' { s with heap := h, toks := tk })
    (fin : ∀ ys nw, Inv n ys nw → Fin ys nw) : LCg.CompRest prog w A h₀ L m env elt x scope cl s S P Fin n 0 [] news := by
  have go : ∀ k i ys nw, i + k = n → Inv i ys nw → LCg.CompRest prog w A h₀ L m env elt x scope cl s S P Fin k i ys nw := by
    intro k
    induction k with
    | zero =>
      intro i ys nw e hI
      obtain rfl : i = n := e
      exact LCg.CompRest.zero (fin _ _ hI)
    | succ k ih =>
      intro i ys nw e hI
      refine LCg.CompRest.succ fun v I oI C oC D m₂ h tk E' a1 a2 a3 a4 a5 a6 a7 => ?_
      exact wpAny_mono (step i ys nw (by omega) hI v I oI C oC D m₂ h tk E' a1 a2 a3 a4 a5 a6 a7) (fun y s' hc => compEnd_mono (fun y n' hi => ih (i + 1) _ n' (by omega) hi) hc) fun _ _ z => z
  exact go n 0 [] news (by omega) h0
end
def HeldInv (p x : Nat) (rest : Led) (B : Nat) (k : Int) (pre : Led) (i : Nat) (ys : List Value) (nw : Led) : Prop :=
  ∃ T xs, nw = pre ++ T ∧ PenT p x rest B (k + i) T ∧ IntsAre ys xs ∧ xs.length = i ∧ ∀ r ∈ xs, 0 ≤ r ∧ r < 2 ^ 64
theorem ints_snoc {ys : List Value} {xs : List Int} {r : Int} {t : Tok} (h : IntsAre ys xs) : IntsAre (ys ++ [.int r t]) (xs ++ [r]) := by
  induction h with
  | nil => exact .cons _ _ .nil
  | cons a b _ ih => exact .cons a b ih
theorem held_step {p x : Nat} {rest : Led} {B : Nat} {k : Int} {pre : Led} {i : Nat} {ys : List Value} {xs : List Int} {T' : Led} {r : Int} {t : Tok} (hT : PenT p x rest B (k + i + 1) T') (h : IntsAre ys xs) (hl : xs.length = i) (hb : ∀ r ∈ xs, 0 ≤ r ∧ r < 2 ^ 64) (h0 : 0 ≤ r) (h1 : r < 2 ^ 64) :
    HeldInv p x rest B k pre (i + 1) (ys ++ [.int r t]) (pre ++ T') :=
  ⟨T', xs ++ [r], rfl, by have e : k + ((i + 1 : Nat) : Int) = k + i + 1 := by omega
                          rw [e]; exact hT, ints_snoc h, by simp [hl], fun q hq => by
    rcases List.mem_append.mp hq with hq | hq
    · exact hb q hq
    · rw [List.mem_singleton.mp hq]; exact ⟨h0, h1⟩⟩
theorem off3_mem {I C D : Addr} {l : Led} (h : LCg.Off3 I C D l) : ∀ q ∈ l, q.1 ≠ I ∧ q.1 ≠ C ∧ q.1 ≠ D := LCg.Off3.mem h
theorem off_pen {I C D p x : Nat} {rest : Led} {B : Nat} {k : Int} {pre T : Led} (o : LCg.Off3 I C D (pre ++ T)) (h : PenT p x rest B k T) : (I ≠ p ∧ I ≠ x) ∧ (C ≠ p ∧ C ≠ x) ∧ (D ≠ p ∧ D ≠ x) := by
  obtain ⟨_, _, h1, h2⟩ := pen_two h
  have a := off3_mem o _ (List.mem_append_right _ h1)
  have b := off3_mem o _ (List.mem_append_right _ h2)
  exact ⟨⟨Ne.symm a.1, Ne.symm b.1⟩, ⟨Ne.symm a.2.1, Ne.symm b.2.1⟩, ⟨Ne.symm a.2.2, Ne.symm b.2.2⟩⟩
theorem off_next {I C D p x : Nat} {rest : Led} {B : Nat} {k k' : Int} {pre T T' : Led} (o : LCg.Off3 I C D (pre ++ T)) (h : PenT p x rest B k T) (h' : PenT p x rest B k' T') : LCg.Off3 I C D (pre ++ T') := by
  refine LCg.Off3.of fun q hq => ?_
  rcases List.mem_append.mp hq with hq | hq
  · exact off3_mem o q (List.mem_append_left _ hq)
  · obtain ⟨o', h1, h2⟩ := pen_addr h h' q hq
    rw [← h2]
    exact off3_mem o o' (List.mem_append_right _ h1)
theorem off1_mem {D : Addr} : ∀ {l : Led}, LCg.Off1 D l → ∀ q ∈ l, q.1 ≠ D
  | [], _, _, h => (nomatch h)
  | _ :: _, o, q, h => by
    rcases List.mem_cons.mp h with rfl | h
    · exact o.1
    · exact off1_mem o.2 q h
theorem off1_pen {D p x : Nat} {rest : Led} {B : Nat} {k : Int} {pre T : Led} (o : LCg.Off1 D (pre ++ T)) (h : PenT p x rest B k T) : (D ≠ p ∧ D ≠ x) ∧ ∀ T' k', PenT p x rest B k' T' → ∀ q ∈ T', q.1 ≠ D := by
  obtain ⟨_, _, h1, h2⟩ := pen_two h
  refine ⟨⟨Ne.symm (off1_mem o _ (List.mem_append_right _ h1)), Ne.symm (off1_mem o _ (List.mem_append_right _ h2))⟩, fun T' k' h' q hq => ?_⟩
  obtain ⟨o', a, b⟩ := pen_addr h h' q hq
  rw [← b]
  exact off1_mem o _ (List.mem_append_right _ a)
theorem held_zero {p x : Nat} {rest : Led} {B : Nat} {k : Int} {T : Led} (pre : Led) (h : PenT p x rest B k T) : HeldInv p x rest B k pre 0 [] (pre ++ T) :=
  ⟨T, [], rfl, by rw [show ((0 : Nat) : Int) = 0 from rfl, Int.add_zero]; exact h, .nil, rfl, fun _ h => (nomatch h)⟩
theorem compEnd_all {h₀ : Heap} {L I C D : Addr} {m : Str → Option Value} {s₁ : Shared} {oI oC oD : Obj} {rest : Value → Led → Prop} {y : Value} {h' : Heap} {tk : Nat} {news' : Led}
    (F : Fr h₀ L h' m) (N : News h₀ L h' ((I, oI) :: (C, oC) :: (D, oD) :: news')) (off : LCg.Off3 I C D news') (r : rest y news') :
    LCg.CompEnd h₀ L m s₁ I oI C oC D oD (fun _ => True) rest y { s₁ with heap := h', toks := tk } := LCg.CompEnd.intro F N news' (fun _ hp => hp) off trivial r
theorem apart_use {D p x : Nat} {rest : Led} {B : Nat} (h : ∀ T' k', PenT p x rest B k' T' → ∀ q ∈ T', q.1 ≠ D) {T : Led} {k : Int} (hT : PenT p x rest B k T) : ∀ q ∈ T, q.1 ≠ D := h T k hT

example : True := by
  k_with "off C4" => skip
  trivial
end
section
set_option maxHeartbeats 1000000
def ops : List Str := [Str.ofString "eq", Str.ofString "gt", Str.ofString "ge", Str.ofString "set", Str.ofString "ne", Str.ofString "sgt", Str.ofString "sge", Str.ofString "lt", Str.ofString "le", Str.ofString "slt", Str.ofString "sle"]
def jtext (n : Int) : Str := Txt.strip (Txt.slice (Str.ofString "ja  eq  gt  ge  set ne  sgt sge callexitlt  le  slt sle ") (some (4 * n)) (some (4 * n + 4)))
theorem none_op {o : Str} (ho : o ∈ ops) (h : ∀ v ∈ rangeKs 0 (14 - 0 : Int).toNat, (Txt.strip (Txt.slice (Str.ofString "ja  eq  gt  ge  set ne  sgt sge callexitlt  le  slt sle ") (some (4 * v)) (some (4 * v + 4))) == o) = false) : False := by
  have go : ∀ n : Int, n ∈ rangeKs 0 (14 - 0 : Int).toNat → jtext n = o → False := fun n hn e => by
    have := h n hn
    rw [← e] at this
    exact absurd (beq_self_eq_true (jtext n)) (by rw [show (jtext n == jtext n) = false from this]; decide)
  simp only [ops, List.mem_cons, List.not_mem_nil, or_false] at ho
  rcases ho with rfl | rfl | rfl | rfl | rfl | rfl | rfl | rfl | rfl | rfl | rfl
  · exact go 1 (by decide +kernel) (by decide +kernel)
  · exact go 2 (by decide +kernel) (by decide +kernel)
  · exact go 3 (by decide +kernel) (by decide +kernel)
  · exact go 4 (by decide +kernel) (by decide +kernel)
  · exact go 5 (by decide +kernel) (by decide +kernel)
  · exact go 6 (by decide +kernel) (by decide +kernel)
  · exact go 7 (by decide +kernel) (by decide +kernel)
  · exact go 10 (by decide +kernel) (by decide +kernel)
  · exact go 11 (by decide +kernel) (by decide +kernel)
  · exact go 12 (by decide +kernel) (by decide +kernel)
  · exact go 13 (by decide +kernel) (by decide +kernel)
def S_c_spot (kx : Cx) : Prop := ∀ (news : Led) (o : Str) (t u : Tok) (ho : o ∈ ops), Bd kx 7 (Str.ofString "spot_of") (scopeAt "spot_of") 200 199 (bodyAt "spot_of") (fun yq => [(Str.ofString "names", (.str (Str.ofString "ja  eq  gt  ge  set ne  sgt sge callexitlt  le  slt sle ") u : Value)), (Str.ofString "name", (.str o t : Value))].reverse.lookup yq) news      (fun v ns => (∃ n t, v = .int n t ∧ 0 ≤ n ∧ n < 14 ∧ jtext n = o) ∧ ns = news)
noncomputable def kap_c_spot : Cx := kapOf S_c_spot
theorem c_spot_k : S_c_spot kap_c_spot := by
  intro news o t u ho
  have e1 : (scopeAt "spot_of") = (scopeAt "spot_of") := rfl
  conv at e1 => rhs; whnf
  have e2 : (bodyAt "spot_of") = (bodyAt "spot_of") := rfl
  conv at e2 => rhs; whnf
  (try dsimp only at e1)
  (try dsimp only at e2)
  refine @bd_lit _ _ _ _ _ _ _ _ _ _ _ _ e1 e2 ?_
  clear e1 e2
  unfold Bd
  k_fill
  intro h tk HB HF HX HN HT hdp hun hE hret
  have HW : Wf kap_c_spot 7 := ⟨HB, HX, HT, hdp, hun⟩
  (k_with "pyIter ref" => k_search (fun pre => ∀ v ∈ pre, (Txt.strip (Txt.slice (Str.ofString "ja  eq  gt  ge  set ne  sgt sge callexitlt  le  slt sle ") (some (4 * v)) (some (4 * v + 4))) == o) = false))
  refine frLet HF ?_
  intro mk HF9
  clear HF
  refine ledLet (by with_reducible assumption) ?_
  intro nk HN9
  k_steps
  · refine hret _ _ _ _ _ ⟨⟨_, _, rfl, by omega, by omega, beq_iff_eq.mp (by assumption)⟩, rfl⟩ (by k_asm) (by first | k_asm | exact cb_drop (by k_asm) (fun q hq => List.mem_append_left _ hq))
  · exact (none_op ho kInv).elim
theorem c_spot {w : World} {mean : ExcName → Option Value} {mg mb : Str → Option Value} {news : Led} {o : Str} {t u : Tok} (ho : o ∈ ops) :
   Ct w mean mg mb 8 200 news True [.str (Str.ofString "ja  eq  gt  ge  set ne  sgt sge callexitlt  le  slt sle ") u, .str o t]
     (fun v ns => (∃ n t, v = .int n t ∧ 0 ≤ n ∧ n < 14 ∧ jtext n = o) ∧ ns = news) := by
  k_extra "Z1"
  exact @kap_all S_c_spot c_spot_k ⟨w, mean, mg, mb, dp, un, gd, outer, A₀, base, h₀, L, s, Q, E⟩ news o t u ho
def spot (o : Str) : Int := if o = Str.ofString "eq" then 1 else if o = Str.ofString "gt" then 2 else if o = Str.ofString "ge" then 3 else if o = Str.ofString "set" then 4 else if o = Str.ofString "ne" then 5 else if o = Str.ofString "sgt" then 6 else if o = Str.ofString "sge" then 7 else if o = Str.ofString "lt" then 10 else if o = Str.ofString "le" then 11 else if o = Str.ofString "slt" then 12 else 13
theorem jtext_spot {n : Int} (h0 : 0 ≤ n) (h1 : n < 14) {o : Str} (ho : o ∈ ops) (e : jtext n = o) : n = spot o := by
  subst e
  revert ho
  exact int_below (P := fun n => jtext n ∈ ops → n = spot (jtext n)) (k := 14) (by decide +kernel) h0 h1
theorem jtext_of {o : Str} (ho : o ∈ ops) : jtext (spot o) = o := by
  simp only [ops, List.mem_cons, List.not_mem_nil, or_false] at ho
  rcases ho with rfl | rfl | rfl | rfl | rfl | rfl | rfl | rfl | rfl | rfl | rfl <;> decide +kernel
theorem spot_in {o : Str} (ho : o ∈ ops) : 1 ≤ spot o ∧ spot o ≤ 13 ∧ spot o ≠ 8 ∧ spot o ≠ 9 := by
  simp only [ops, List.mem_cons, List.not_mem_nil, or_false] at ho
  rcases ho with rfl | rfl | rfl | rfl | rfl | rfl | rfl | rfl | rfl | rfl | rfl <;> decide +kernel
theorem c_spotJ {w : World} {mean : ExcName → Option Value} {mg mb : Str → Option Value} {news : Led} {o : Str} {t u : Tok} (ho : o ∈ ops) :
   Ct w mean mg mb 8 200 news True [.str (Str.ofString "ja  eq  gt  ge  set ne  sgt sge callexitlt  le  slt sle ") u, .str o t]
     (fun v ns => (∃ t, v = .int (spot o) t) ∧ ns = news) := by
  intro dp un gd cn cs fa ccd cl outer A₀ base h₀ L m s Q E HB HF HX HN HT hkind hp hdp hun hret
  refine c_spot ho dp un gd cn cs fa ccd cl outer A₀ base h₀ L m s Q E HB HF HX HN HT hkind hp hdp hun ?_
  rintro v ns h' tk ⟨⟨n, t, rfl, h0, h1, e⟩, rfl⟩ F N
  exact hret _ _ _ _ ⟨⟨t, by rw [jtext_spot h0 h1 ho e]⟩, rfl⟩ F N
end
section
set_option maxHeartbeats 1000000
theorem pow2_m63 {prog : Program} {w : World} {A : Around} {E : Value → Shared → Prop} {s : Shared} {t u : Tok} {Q : Value → Shared → Prop} (h : Q (.int 9223372036854775808 s.toks) { s with toks := s.toks + 1 }) : wpAny (model prog w) A (binaryOp .Pow (.int 2 t) (.int (64 - 1) u)) Q E s := pow2_at (64 - 1) _ (by decide) (by decide) (by decide) h
theorem pow2_m31 {prog : Program} {w : World} {A : Around} {E : Value → Shared → Prop} {s : Shared} {t u : Tok} {Q : Value → Shared → Prop} (h : Q (.int 2147483648 s.toks) { s with toks := s.toks + 1 }) : wpAny (model prog w) A (binaryOp .Pow (.int 2 t) (.int (32 - 1) u)) Q E s := pow2_at (32 - 1) _ (by decide) (by decide) (by decide) h
example : True := by
  k_with ".binaryOp Pow int int" => ((fail_if_success k_extra "off C6"); (k_here; first | with_reducible refine pow2_31 ?_ | with_reducible refine pow2_32 ?_ | with_reducible refine pow2_63 ?_ | with_reducible refine pow2_64 ?_ | with_reducible refine pow2_m63 ?_ | with_reducible refine pow2_m31 ?_))
  trivial
def sgn64 (x : Int) : Int := if 9223372036854775808 ≤ x.fmod 18446744073709551616 then x.fmod 18446744073709551616 - 18446744073709551616 else x.fmod 18446744073709551616
theorem c_signed64 {w : World} {mean : ExcName → Option Value} {mg mb : Str → Option Value} {news : Led} {x : Int} {t u : Tok} (hx : -(2^64) < x ∧ x < 2^64) :
   Ct w mean mg mb 12 756 news True [.int x t, .int 64 u] (fun v ns => (∃ t, v = .int (sgn64 x) t) ∧ ns = news) := by
  unfold Ct
  k_fill
  intro dp un gd cn cs fa ccd cl outer A₀ base h₀ L m s Q E HB HF HX HN HT hkind hp hdp hun hret
  obtain ⟨hx0, hx1⟩ := hx
  refine wpAny_call ?_
  k_dflt cell_enter
  k_steps
  all_goals exact hret _ _ _ _ ⟨⟨_, by first | rw [sgn64, if_pos (by assumption)] | rw [sgn64, if_neg (by assumption)]⟩, rfl⟩ (by k_asm) (by k_asm)
def sgn32 (x : Int) : Int := if 2147483648 ≤ x.fmod 4294967296 then x.fmod 4294967296 - 4294967296 else x.fmod 4294967296
theorem c_signed32 {w : World} {mean : ExcName → Option Value} {mg mb : Str → Option Value} {news : Led} {x : Int} {t u : Tok} (hx : -(2^64) < x ∧ x < 2^64) :
   Ct w mean mg mb 12 756 news True [.int x t, .int 32 u] (fun v ns => (∃ t, v = .int (sgn32 x) t) ∧ ns = news) := by
  unfold Ct
  k_fill
  intro dp un gd cn cs fa ccd cl outer A₀ base h₀ L m s Q E HB HF HX HN HT hkind hp hdp hun hret
  obtain ⟨hx0, hx1⟩ := hx
  refine wpAny_call ?_
  k_dflt cell_enter
  k_steps
  all_goals exact hret _ _ _ _ ⟨⟨_, by first | rw [sgn32, if_pos (by assumption)] | rw [sgn32, if_neg (by assumption)]⟩, rfl⟩ (by k_asm) (by k_asm)
def condB (nm : Str) (c z sg ov : Bool) : Bool :=
  if (nm == Str.ofString "e") = true then z else if (nm == Str.ofString "ne") = true then !z else if (nm == Str.ofString "b") = true then c else if (nm == Str.ofString "ae") = true then !c
  else if (nm == Str.ofString "be") = true then c || z else if (nm == Str.ofString "a") = true then !c && !z else if (nm == Str.ofString "l") = true then sg != ov else if (nm == Str.ofString "ge") = true then !(sg != ov)
  else if (nm == Str.ofString "le") = true then (sg != ov) || z else !(sg != ov) && !z
theorem or_t {a b : Bool} (h : a = true) : a = (a || b) := by rw [h]; rfl
theorem or_f {a b : Bool} (h : a = false) : b = (a || b) := by rw [h]; rfl
theorem and_t {a b : Bool} (h : a = true) : b = (a && b) := by rw [h]; rfl
theorem and_f {a b : Bool} (h : a = false) : a = (a && b) := by rw [h]; rfl
theorem not_t {a : Bool} (h : a = false) : (!a) = true := by rw [h]; rfl
theorem not_f {a : Bool} (h : a = true) : (!a) = false := by rw [h]; rfl
theorem ne_of_f {a : Bool} (h : a = false) : ¬ a = true := by rw [h]; decide
def uncV (nm : Str) (c z : Bool) : Value :=
  if (nm == Str.ofString "e") = true then .bool z else if (nm == Str.ofString "ne") = true then .bool !z else if (nm == Str.ofString "b") = true then .bool c else if (nm == Str.ofString "ae") = true then .bool !c
  else if (nm == Str.ofString "be") = true then .bool (c || z) else if (nm == Str.ofString "a") = true then .bool (!c && !z) else .none
theorem unc_cond {nm : Str} {c z sg ov : Bool} : uncV nm c z = .none ∧ condB nm c z sg ov = (if (nm == Str.ofString "l") = true then sg != ov else if (nm == Str.ofString "ge") = true then !(sg != ov) else if (nm == Str.ofString "le") = true then (sg != ov) || z else !(sg != ov) && !z) ∨ uncV nm c z = .bool (condB nm c z sg ov) := by
  unfold uncV condB
  cases (nm == Str.ofString "e") with
  | true => exact .inr rfl
  | false =>
  cases (nm == Str.ofString "ne") with
  | true => exact .inr rfl
  | false =>
  cases (nm == Str.ofString "b") with
  | true => exact .inr rfl
  | false =>
  cases (nm == Str.ofString "ae") with
  | true => exact .inr rfl
  | false =>
  cases (nm == Str.ofString "be") with
  | true => exact .inr rfl
  | false =>
  cases (nm == Str.ofString "a") with
  | true => exact .inr rfl
  | false => exact .inl ⟨rfl, rfl⟩
def S_c_known (kx : Cx) : Prop := ∀ (news : Led) (b : Bool), Bd kx 3 (Str.ofString "known") (scopeAt "known") 552 551 (bodyAt "known") (fun yq => [(Str.ofString "flag", (.bool b : Value))].reverse.lookup yq) news (fun v ns => v = .bool b ∧ ns = news)
noncomputable def kap_c_known : Cx := kapOf S_c_known
theorem c_known_k : S_c_known kap_c_known := by
  intro news b
  have e1 : (scopeAt "known") = (scopeAt "known") := rfl
  conv at e1 => rhs; whnf
  have e2 : (bodyAt "known") = (bodyAt "known") := rfl
  conv at e2 => rhs; whnf
  (try dsimp only at e1)
  (try dsimp only at e2)
  refine @bd_lit _ _ _ _ _ _ _ _ _ _ _ _ e1 e2 ?_
  clear e1 e2
  unfold Bd
  k_fill
  intro h tk HB HF HX HN HT hdp hun hE hret
  have HW : Wf kap_c_known 3 := ⟨HB, HX, HT, hdp, hun⟩
  refine frLet HF ?_
  intro mk HF9
  clear HF
  refine ledLet (by with_reducible assumption) ?_
  intro nk HN9
  k_steps
  all_goals exact hret _ _ _ _ _ ⟨rfl, rfl⟩ (by k_asm) (by k_asm)
theorem c_known {w : World} {mean : ExcName → Option Value} {mg mb : Str → Option Value} {news : Led} {b : Bool} :
   Ct w mean mg mb 4 552 news True [.bool b] (fun v ns => v = .bool b ∧ ns = news) := by
  k_extra "Z1"
  exact @kap_all S_c_known c_known_k ⟨w, mean, mg, mb, dp, un, gd, outer, A₀, base, h₀, L, s, Q, E⟩ news b
theorem c_known_u {w : World} {mean : ExcName → Option Value} {mg mb : Str → Option Value} {news : Led} {b : Bool} {dp8 un8 : Nat} {gd8 : Option (List Code)} {cn8 : Str} {cs8 : Scope} {a8 : Addr} {ccd8 : Value} {cl8 : List (Str × Addr)} {outer8 : List Env} {A8 : Around} {base8 h8 : Heap} {L8 : Addr} {m8 : Str → Option Value} {s8 : Shared} {Q8 E8 : Value → Shared → Prop}
   (zB : Below A8 base8 outer8 h8 := by k_asm) (zF : Fr h8 L8 s8.heap m8 := by k_asm) (zX : (hd.heap_39 w.params).In h8 := by k_asm) (zN : News h8 L8 s8.heap (news) := by k_asm) (zT : Top hd.view_39 loo mean mg mb h8 := by k_asm) (zk : cs8.kind = .function := by first | exact rfl | assumption)  (zd : dp8 + 4 < recursionLimit := by ktr_room) (zu : un8 + 8 * 4 < cLine := by ktr_units)
   (kk9 : ∀ (h' : Heap) (tk' : Nat), let n' : Led := (news); Fr h8 L8 h' m8 → News h8 L8 h' n' → Q8 (.bool b) { s8 with heap := h', toks := tk' }) :
   wpAny (model PySem.Challenge.rw_ok0177_01.row.prog w) (ktrTop dp8 un8 gd8 cn8 cs8 L8 a8 ccd8 cl8 outer8) (call (.ref 552) [.bool b]) Q8 E8 s8 := by
  refine ct_use (c_known) zB zF zX zN zT zk trivial zd zu ?_
  rintro v news' h' tk' ⟨rfl, rfl⟩ F N
  exact kk9 _ _ F N
theorem c_known_v (kx : Cx) (cn8 : Str) (cs8 : Scope) (a8 : Addr) (ccd8 : Value) (cl8 : List (Str × Addr)) (zk : cs8.kind = .function) {D8 : Nat} (zW : Wf kx D8) (zD : Nat.ble 4 D8 = true) {news : Led} {b : Bool} {m8 : Str → Option Value} {h9 : Heap} {tk9 : Nat} {Q8 E8 : Value → Shared → Prop} (zF : Fr kx.h₀ kx.L h9 m8) (zN : News kx.h₀ kx.L h9 (news)) 
   (kk9 : ∀ (h' : Heap) (tk' : Nat), let n' : Led := (news); Fr kx.h₀ kx.L h' m8 → News kx.h₀ kx.L h' n' → Q8 (.bool b) (kSt kx h' tk')) : wpAny (kMd kx) (kAr kx (envX cn8 cs8 kx.L a8 ccd8 cl8)) (call (.ref 552) [.bool b]) Q8 E8 (kSt kx h9 tk9) := by
  refine cv_use kx cn8 cs8 a8 ccd8 cl8 zk zW zD (c_known) zF zN ?_
  rintro v news' h' tk' ⟨rfl, rfl⟩ F N
  exact kk9 _ _ F N
example : True := by
  k_with ".call ref" => (k_here; (with_reducible show wpAny _ _ (call (Value.ref 552) [_]) _ _ _); k_dflt (refine c_known_u (kk9 := ?_)); walk_at "After")
  k_with ".call ref" => (k_here; (with_reducible show wpAny _ _ (call (Value.ref 552) [_]) _ _ _); k_dflt (refine c_known_v _ _ _ _ _ _ rfl (zW := by assumption) (zD := by exact rfl) (zF := by k_asm) (zN := by k_asm) (kk9 := ?_)); walk_at "After")
  trivial
def S_c_unc (kx : Cx) : Prop := ∀ (news : Led) (nm : Str) (tn : Tok) (fx dx : Nat) (c z sg ov : Bool) (h1 h2 h3 h4 : Int) (t1 t2 t3 t4 : Tok) (hm1 : (fx, instObj 506 dx) ∈ news) (hm2 : (dx, dictOf [⟨h1, .str (Str.ofString "carry") t1, .bool c⟩, ⟨h2, .str (Str.ofString "zero") t2, .bool z⟩, ⟨h3, .str (Str.ofString "sign") t3, .bool sg⟩, ⟨h4, .str (Str.ofString "over") t4, .bool ov⟩] 4) ∈ news), Bd kx 7 (Str.ofString "unsigned_condition") (scopeAt "unsigned_condition") 559 558 (bodyAt "unsigned_condition") (fun yq => [(Str.ofString "name", (.str nm tn : Value)), (Str.ofString "flags", (.ref fx : Value))].reverse.lookup yq) news (fun v ns => v = uncV nm c z ∧ ns = news)
noncomputable def kap_c_unc : Cx := kapOf S_c_unc
theorem c_unc_k : S_c_unc kap_c_unc := by
  intro news nm tn fx dx c z sg ov h1 h2 h3 h4 t1 t2 t3 t4 hm1 hm2
  have e1 : (scopeAt "unsigned_condition") = (scopeAt "unsigned_condition") := rfl
  conv at e1 => rhs; whnf
  have e2 : (bodyAt "unsigned_condition") = (bodyAt "unsigned_condition") := rfl
  conv at e2 => rhs; whnf
  (try dsimp only at e1)
  (try dsimp only at e2)
  refine @bd_lit _ _ _ _ _ _ _ _ _ _ _ _ e1 e2 ?_
  clear e1 e2
  unfold Bd
  k_fill
  intro h tk HB HF HX HN HT hdp hun hE hret
  have HW : Wf kap_c_unc 7 := ⟨HB, HX, HT, hdp, hun⟩
  refine frLet HF ?_
  intro mk HF9
  clear HF
  refine ledLet (by with_reducible assumption) ?_
  intro nk HN9
  k_steps
  all_goals (refine hret _ _ _ _ _ ⟨?_, rfl⟩ (by k_asm) (by k_asm); unfold uncV; (repeat (first | rw [if_pos (by assumption)] | rw [if_neg (ne_of_f (by assumption))])); all_goals (first | rfl | exact congrArg Value.bool (or_t (by assumption)) | exact congrArg Value.bool (or_f (by assumption)) | exact congrArg Value.bool (and_t (not_t (by assumption))) | exact congrArg Value.bool (and_f (not_f (by assumption)))))
theorem c_unc {w : World} {mean : ExcName → Option Value} {mg mb : Str → Option Value} {news : Led} {nm : Str} {tn : Tok} {fx dx : Nat} {c z sg ov : Bool} {h1 h2 h3 h4 : Int} {t1 t2 t3 t4 : Tok} (hm1 : (fx, instObj 506 dx) ∈ news) (hm2 : (dx, dictOf [⟨h1, .str (Str.ofString "carry") t1, .bool c⟩, ⟨h2, .str (Str.ofString "zero") t2, .bool z⟩, ⟨h3, .str (Str.ofString "sign") t3, .bool sg⟩, ⟨h4, .str (Str.ofString "over") t4, .bool ov⟩] 4) ∈ news) :
   Ct w mean mg mb 8 559 news True [.str nm tn, .ref fx] (fun v ns => v = uncV nm c z ∧ ns = news) := by
  k_extra "Z1"
  exact @kap_all S_c_unc c_unc_k ⟨w, mean, mg, mb, dp, un, gd, outer, A₀, base, h₀, L, s, Q, E⟩ news nm tn fx dx c z sg ov h1 h2 h3 h4 t1 t2 t3 t4 hm1 hm2
theorem c_unc_u {w : World} {mean : ExcName → Option Value} {mg mb : Str → Option Value} {news : Led} {nm : Str} {tn : Tok} {fx dx : Nat} {c z sg ov : Bool} {h1 h2 h3 h4 : Int} {t1 t2 t3 t4 : Tok} {dp8 un8 : Nat} {gd8 : Option (List Code)} {cn8 : Str} {cs8 : Scope} {a8 : Addr} {ccd8 : Value} {cl8 : List (Str × Addr)} {outer8 : List Env} {A8 : Around} {base8 h8 : Heap} {L8 : Addr} {m8 : Str → Option Value} {s8 : Shared} {Q8 E8 : Value → Shared → Prop}
   (zB : Below A8 base8 outer8 h8 := by k_asm) (zF : Fr h8 L8 s8.heap m8 := by k_asm) (zX : (hd.heap_39 w.params).In h8 := by k_asm) (zN : News h8 L8 s8.heap (news) := by k_asm) (zT : Top hd.view_39 loo mean mg mb h8 := by k_asm) (zk : cs8.kind = .function := by first | exact rfl | assumption) (hm1 : (fx, instObj 506 dx) ∈ news) (hm2 : (dx, dictOf [⟨h1, .str (Str.ofString "carry") t1, .bool c⟩, ⟨h2, .str (Str.ofString "zero") t2, .bool z⟩, ⟨h3, .str (Str.ofString "sign") t3, .bool sg⟩, ⟨h4, .str (Str.ofString "over") t4, .bool ov⟩] 4) ∈ news) (zd : dp8 + 8 < recursionLimit := by ktr_room) (zu : un8 + 8 * 8 < cLine := by ktr_units)
   (kk9 : ∀ (h' : Heap) (tk' : Nat), let n' : Led := (news); Fr h8 L8 h' m8 → News h8 L8 h' n' → Q8 (uncV nm c z) { s8 with heap := h', toks := tk' }) :
   wpAny (model PySem.Challenge.rw_ok0177_01.row.prog w) (ktrTop dp8 un8 gd8 cn8 cs8 L8 a8 ccd8 cl8 outer8) (call (.ref 559) [.str nm tn, .ref fx]) Q8 E8 s8 := by
  refine ct_use (c_unc (hm1 := hm1) (hm2 := hm2)) zB zF zX zN zT zk trivial zd zu ?_
  rintro v news' h' tk' ⟨rfl, rfl⟩ F N
  exact kk9 _ _ F N
example : True := by
  k_with ".call ref" => (k_here; (with_reducible show wpAny _ _ (call (Value.ref 559) [_, _]) _ _ _); k_dflt (refine c_unc_u (hm1 := by walk_at "Mem") (hm2 := by walk_at "Mem") (kk9 := ?_)); (intro h9Z tk9Z nkZ F9Z N9Z; (rw [(by assumption : uncV _ _ _ = _)])))
  trivial
theorem c_cond {w : World} {mean : ExcName → Option Value} {mg mb : Str → Option Value} {news : Led} {nm : Str} {tn : Tok} {fx dx : Nat} {c z sg ov : Bool} {h1 h2 h3 h4 : Int} {t1 t2 t3 t4 : Tok}
   (hm1 : (fx, instObj 506 dx) ∈ news) (hm2 : (dx, dictOf [⟨h1, .str (Str.ofString "carry") t1, .bool c⟩, ⟨h2, .str (Str.ofString "zero") t2, .bool z⟩, ⟨h3, .str (Str.ofString "sign") t3, .bool sg⟩, ⟨h4, .str (Str.ofString "over") t4, .bool ov⟩] 4) ∈ news) :
   Ct w mean mg mb 12 566 news True [.str nm tn, .ref fx] (fun v ns => v = .bool (condB nm c z sg ov) ∧ ns = news) := by
  unfold Ct
  k_fill
  intro dp un gd cn cs fa ccd cl outer A₀ base h₀ L m s Q E HB HF HX HN HT hkind hp hdp hun hret
  have hu := @unc_cond nm c z sg ov
  revert hret
  generalize condB nm c z sg ov = r at hu
  intro hret
  rcases hu with ⟨e9, rfl⟩ | e9
  all_goals refine wpAny_call ?_
  all_goals k_dflt cell_enter
  all_goals k_steps
  all_goals (first | exact hret _ _ _ _ ⟨rfl, rfl⟩ (by k_asm) (by k_asm) | skip)
  all_goals (refine hret _ _ _ _ ⟨congrArg Value.bool ?_, rfl⟩ (by k_asm) (by k_asm); (repeat (first | rw [if_pos (by assumption)] | rw [if_neg (ne_of_f (by assumption))])); all_goals (first | rfl | exact or_t (by assumption) | exact or_f (by assumption) | exact and_t (by assumption) | exact and_f (by assumption) | exact and_t (not_t (by assumption)) | exact and_f (not_f (by assumption))))
example : True := by
  k_with "off C6" => skip
  trivial
end
section
set_option maxHeartbeats 1000000
example : True := by
  k_with "nolean" => fail_if_success k_extra "off Copq"
  trivial
theorem unrEnd_pre {h₀ : Heap} {L I : Addr} {it : Obj} {rest : (Str → Option Value) → Led → Prop} {s₁ : Shared} {h' : Heap} {tk : Nat} {m' : Str → Option Value} (pre : Led) {post : Led} (F : Fr h₀ L h' m') (N : News h₀ L h' (pre ++ (I, it) :: post))
    (off : ∀ p ∈ pre ++ post, p.1 ≠ I) (r : rest m' (pre ++ post)) : UnrEnd h₀ L s₁ I it rest { s₁ with heap := h', toks := tk } :=
  UnrEnd.intro F N (pre ++ post) (fun p hp => by
    rcases List.mem_cons.mp hp with rfl | hp
    · exact List.mem_append_right _ (.head _)
    · rcases List.mem_append.mp hp with hp | hp
      · exact List.mem_append_left _ hp
      · exact List.mem_append_right _ (.tail _ hp)) off r

example : True := by
  k_with "off Copq" => skip
  trivial
end
section
set_option maxHeartbeats 8000000
def saysP (t : Str) (a b : Int) (bits : Bool) : Bool :=
  if t = Str.ofString "eq" then a == b else if t = Str.ofString "ne" then a != b else if t = Str.ofString "gt" then decide (b < a) else if t = Str.ofString "ge" then decide (b ≤ a)
  else if t = Str.ofString "lt" then decide (a < b) else if t = Str.ofString "le" then decide (a ≤ b) else bits
def isSg (o : Str) : Bool := ([Str.ofString "sgt", Str.ofString "sge", Str.ofString "slt", Str.ofString "sle"].any fun x => x == o)
def bitsB (n : Nat) (x y : Int) : Bool := !decide (List.foldl (fun l' k' => if (x.fdiv (2 ^ k'.toNat)).fmod 2 = 1 ∧ (y.fdiv (2 ^ k'.toNat)).fmod 2 = 1 then l' ++ [k'] else if (x.fdiv (2 ^ k'.toNat)).fmod 2 = 1 ∧ ¬(y.fdiv (2 ^ k'.toNat)).fmod 2 = 1 then l' else l') [] (rangeKs 0 n) = [])
theorem sp0 {t : Str} {a b : Int} {c : Bool} (h0 : t = Str.ofString "eq") : (a == b) = saysP t a b c := (if_pos h0).symm
theorem sp1 {t : Str} {a b : Int} {c : Bool} (h0 : ¬ t = Str.ofString "eq") (h1 : t = Str.ofString "ne") : (a != b) = saysP t a b c := ((if_neg h0).trans (if_pos h1)).symm
theorem sp2 {t : Str} {a b : Int} {c : Bool} (h0 : ¬ t = Str.ofString "eq") (h1 : ¬ t = Str.ofString "ne") (h2 : t = Str.ofString "gt") : (decide (b < a)) = saysP t a b c := ((if_neg h0).trans ((if_neg h1).trans (if_pos h2))).symm
theorem sp3 {t : Str} {a b : Int} {c : Bool} (h0 : ¬ t = Str.ofString "eq") (h1 : ¬ t = Str.ofString "ne") (h2 : ¬ t = Str.ofString "gt") (h3 : t = Str.ofString "ge") : (decide (b ≤ a)) = saysP t a b c := ((if_neg h0).trans ((if_neg h1).trans ((if_neg h2).trans (if_pos h3)))).symm
theorem sp4 {t : Str} {a b : Int} {c : Bool} (h0 : ¬ t = Str.ofString "eq") (h1 : ¬ t = Str.ofString "ne") (h2 : ¬ t = Str.ofString "gt") (h3 : ¬ t = Str.ofString "ge") (h4 : t = Str.ofString "lt") : (decide (a < b)) = saysP t a b c := ((if_neg h0).trans ((if_neg h1).trans ((if_neg h2).trans ((if_neg h3).trans (if_pos h4))))).symm
theorem sp5 {t : Str} {a b : Int} {c : Bool} (h0 : ¬ t = Str.ofString "eq") (h1 : ¬ t = Str.ofString "ne") (h2 : ¬ t = Str.ofString "gt") (h3 : ¬ t = Str.ofString "ge") (h4 : ¬ t = Str.ofString "lt") (h5 : t = Str.ofString "le") : (decide (a ≤ b)) = saysP t a b c := ((if_neg h0).trans ((if_neg h1).trans ((if_neg h2).trans ((if_neg h3).trans ((if_neg h4).trans (if_pos h5)))))).symm
theorem sp6 {t : Str} {a b : Int} {c : Bool} (h0 : ¬ t = Str.ofString "eq") (h1 : ¬ t = Str.ofString "ne") (h2 : ¬ t = Str.ofString "gt") (h3 : ¬ t = Str.ofString "ge") (h4 : ¬ t = Str.ofString "lt") (h5 : ¬ t = Str.ofString "le") : c = saysP t a b c := ((if_neg h0).trans ((if_neg h1).trans ((if_neg h2).trans ((if_neg h3).trans ((if_neg h4).trans (if_neg h5)))))).symm
theorem op_short {o : Str} (ho : o ∈ ops) : o.length ≤ 3 := by
  simp only [ops, List.mem_cons, List.not_mem_nil, or_false] at ho
  rcases ho with rfl | rfl | rfl | rfl | rfl | rfl | rfl | rfl | rfl | rfl | rfl <;> decide +kernel
example : True := by
  k_with "T:k_fmods" => ((fail_if_success k_extra "off C7_64"); skip)
  k_with ".UnrEnd" => ((fail_if_success k_extra "off C7_64"); (k_here; k_dflt (first | (refine' unrEnd_pre [] ?FBq ?NBq ?ofBq ?_; (case FBq => k_asm); (case NBq => k_asm); (case ofBq => (simp only [List.nil_append, List.cons_append]; k_all))) | (refine' unrEnd_pre [_] ?FBq ?NBq ?ofBq ?_; (case FBq => k_asm); (case NBq => k_asm); (case ofBq => (simp only [List.nil_append, List.cons_append]; k_all))) | (refine' unrEnd_pre [_, _] ?FBq ?NBq ?ofBq ?_; (case FBq => k_asm); (case NBq => k_asm); (case ofBq => (simp only [List.nil_append, List.cons_append]; k_all))) | (refine' unrEnd_pre [_, _, _] ?FBq ?NBq ?ofBq ?_; (case FBq => k_asm); (case NBq => k_asm); (case ofBq => (simp only [List.nil_append, List.cons_append]; k_all))) | (refine' unrEnd_pre [_, _, _, _] ?FBq ?NBq ?ofBq ?_; (case FBq => k_asm); (case NBq => k_asm); (case ofBq => (simp only [List.nil_append, List.cons_append]; k_all))) | (refine' unrEnd_pre [_, _, _, _, _] ?FBq ?NBq ?ofBq ?_; (case FBq => k_asm); (case NBq => k_asm); (case ofBq => (simp only [List.nil_append, List.cons_append]; k_all))) | (refine' unrEnd_pre [_, _, _, _, _, _] ?FBq ?NBq ?ofBq ?_; (case FBq => k_asm); (case NBq => k_asm); (case ofBq => (simp only [List.nil_append, List.cons_append]; k_all)))); (try simp only [List.nil_append, List.cons_append])))
  k_with ".CompEnd" => ((fail_if_success k_extra "off C7_64"); (k_here; k_dflt (refine' compEnd_all ?FBr ?NBr ?ofBr ?_; (case FBr => k_asm); (case NBr => k_asm); (case ofBr => assumption))))
  trivial
def pwN (n : Int) : Int := if n = 64 then 18446744073709551616 else 4294967296
def sgnN (n x : Int) : Int := if n = 64 then sgn64 x else sgn32 x
def Sz (n : Int) : Prop := n = 64 ∨ n = 32
theorem Sz.up {n : Int} (h : Sz n) : 0 ≤ n ∧ n ≤ 64 := by rcases h with rfl | rfl <;> decide
theorem pwN_ne {n : Int} : pwN n ≠ 0 := by unfold pwN; split <;> decide
section
variable {prog : Program} {w : World} {A : Around} {E : Value → Shared → Prop} {s : Shared}
theorem pow2_n {n : Int} (hn : Sz n) {t u : Tok} {Q : Value → Shared → Prop} (h : Q (.int (pwN n) s.toks) { s with toks := s.toks + 1 }) : wpAny (model prog w) A (binaryOp .Pow (.int 2 t) (.int n u)) Q E s := by
  rcases hn with rfl | rfl
  · exact pow2_64 h
  · exact pow2_32 h
theorem mod_pw {n x : Int} {t u : Tok} {Q : Value → Shared → Prop} (h : Q (.int (x.fmod (pwN n)) s.toks) { s with toks := s.toks + 1 }) : wpAny (model prog w) A (binaryOp .Mod (.int x t) (.int (pwN n) u)) Q E s := mod_int' pwN_ne h
end
theorem c_signedN {w : World} {mean : ExcName → Option Value} {mg mb : Str → Option Value} {news : Led} {n x : Int} {t u : Tok} (hn : Sz n) (hx : -(2^64) < x ∧ x < 2^64) :
   Ct w mean mg mb 12 756 news True [.int x t, .int n u] (fun v ns => (∃ t, v = .int (sgnN n x) t) ∧ ns = news) := by
  rcases hn with rfl | rfl
  · exact c_signed64 hx
  · exact c_signed32 hx
example : True := by
  k_with ".binaryOp Pow int int" => ((fail_if_success k_extra "off C7_64"); (k_here; k_dflt (refine pow2_n (by assumption) ?_)))
  k_with ".binaryOp Mod int int" => ((fail_if_success k_extra "off C7_64"); (k_here; k_dflt (with_reducible refine mod_pw ?_)))
  k_with ".call ref" => (k_here; (with_reducible show wpAny _ _ (call (Value.ref 756) [_, Value.int _ _]) _ _ _); k_dflt (refine' cv_use _ _ _ _ _ _ ?kkBu ?WBu ?hDBu (c_signedN ?hnBu ?hxBu) ?kFBu ?kNBu ?_; (case kkBu => exact rfl); (case WBu => assumption); (case hDBu => exact rfl); (case hnBu => assumption); (case kFBu => k_asm); (case kNBu => k_asm); (case hxBu => assumption); (intro v9Z ns9Z h9Z tk9Z hR9Z F9Z N9Z; obtain ⟨⟨t9, hv9⟩, hn9⟩ := hR9Z; subst hv9 hn9; (try dsimp only); (try k_fold))))
  trivial
def saysN (n : Int) (o : Str) (x y : Int) : Bool := if isSg o = true then saysP (Txt.slice o (some 1) none) (sgnN n x) (sgnN n y) (bitsB (n - 0).toNat x y) else saysP o (x.fmod (pwN n)) (y.fmod (pwN n)) (bitsB (n - 0).toNat x y)
def BodyK (x : Cx) (D : Nat) (env : Env) (body : List Stmt) (m : Str → Option Value) (nw : Led) (Ret : Value → Led → Prop) : Prop :=
  ∀ (h : Heap) (tk : Nat), Wf x D → Fr x.h₀ x.L h m → News x.h₀ x.L h nw → PassesOwn (kMd x) (kAr x env) env x.E →
  (∀ m' v news' h' tk', Ret v news' → Fr x.h₀ x.L h' m' → News x.h₀ x.L h' news' → x.Q v (kSt x h' tk')) →
  wpAny (kMd x) (kAr x env) (execs body env) (fun fl s' => x.Q (flv fl) s') x.E (kSt x h tk)
theorem bodyK_lit {x : Cx} {D : Nat} {nm : Str} {scope scope' : Scope} {f c : Nat} {body body' : List Stmt} {m : Str → Option Value} {nw : Led} {Ret : Value → Led → Prop} (e1 : scope = scope') (e2 : body = body') (h : BodyK x D (cenv x nm scope' f c) body' m nw Ret) : BodyK x D (cenv x nm scope f c) body m nw Ret := e1 ▸ e2 ▸ h
def keyB (t : Str) : Bool := [Str.ofString "eq", Str.ofString "ne", Str.ofString "gt", Str.ofString "ge", Str.ofString "lt", Str.ofString "le", Str.ofString "set"].any fun x => x == t
theorem op_keys : (ops.all fun o => if isSg o = true then keyB (Txt.slice o (some 1) none) else keyB o) = true := by decide +kernel
theorem keyB_no {t : Str} (h : keyB t = true) (a : ¬ t = Str.ofString "eq") (b : ¬ t = Str.ofString "ne") (c : ¬ t = Str.ofString "gt") (d : ¬ t = Str.ofString "ge") (e : ¬ t = Str.ofString "lt") (f : ¬ t = Str.ofString "le") (g : ¬ t = Str.ofString "set") : False := by
  obtain ⟨x, hx, e9⟩ := List.any_eq_true.mp h
  have e8 : t = x := (beq_iff_eq.mp e9).symm
  subst e8
  simp only [List.mem_cons, List.not_mem_nil, or_false] at hx
  rcases hx with h | h | h | h | h | h | h
  · exact a h
  · exact b h
  · exact c h
  · exact d h
  · exact e h
  · exact f h
  · exact g h
abbrev msay (l r n : Int) (t : Str) (tl tr tn tt : Tok) : Str → Option Value := fun y => if y = Str.ofString "left" then some (.int l tl) else if y = Str.ofString "right" then some (.int r tr) else if y = Str.ofString "op" then some (.str t tt) else if y = Str.ofString "size" then some (.int n tn) else none
theorem fr_say {h₀ h : Heap} {L : Addr} {m : Str → Option Value} {l r n : Int} {t : Str} {tl tr tn tt : Tok} (F : Fr h₀ L h m) (e1 : m (Str.ofString "left") = some (.int l tl)) (e2 : m (Str.ofString "right") = some (.int r tr)) (e3 : m (Str.ofString "op") = some (.str t tt)) (e4 : m (Str.ofString "size") = some (.int n tn)) (e5 : ∀ y, ¬ y = Str.ofString "left" → ¬ y = Str.ofString "right" → ¬ y = Str.ofString "op" → ¬ y = Str.ofString "size" → m y = none) : Fr h₀ L h (msay l r n t tl tr tn tt) := by
  refine fr_ext F fun y => ?_
  unfold msay
  by_cases h1 : y = Str.ofString "left"
  · rw [if_pos h1, h1, e1]
  rw [if_neg h1]
  by_cases h2 : y = Str.ofString "right"
  · rw [if_pos h2, h2, e2]
  rw [if_neg h2]
  by_cases h3 : y = Str.ofString "op"
  · rw [if_pos h3, h3, e3]
  rw [if_neg h3]
  by_cases h4 : y = Str.ofString "size"
  · rw [if_pos h4, h4, e4]
  rw [if_neg h4]
  exact e5 y h1 h2 h3 h4
example (p : Params) : hd.heap_39 p = hd.heap_39 p ∧ PySem.Challenge.rw_ok0177_01 = PySem.Challenge.rw_ok0177_01 := by k_fill; exact ⟨rfl, rfl⟩
theorem kb_lt {n k : Int} (h : k < 0 + ↑(n - 0).toNat) (hn : 0 ≤ n ∧ n ≤ 64) : k < 9000 := by omega
theorem kb_le {n k : Int} (h : k < 0 + ↑(n - 0).toNat) (hn : 0 ≤ n ∧ n ≤ 64) : k ≤ 1000000 := by omega
example : True := by
  k_with "T:l_bnd" => ((fail_if_success k_extra "off C7_64"); first | with_reducible assumption | exact kb_lt (by assumption) (by assumption) | exact kb_le (by assumption) (by assumption))
  trivial
def S_ret (kx : Cx) : Prop := ∀ (news : Led) (o1 o2 : Obj) (n : Int) (o : Str) (x y l r : Int) (t u tl tr tn tt : Tok), o1.data = .cell (some (.int y u)) → o2.data = .cell (some (.int x t)) → AllLt kx.L news → Sz n → keyB o = true → BodyK kx 15 (cenv kx (Str.ofString "_law_says") (scopeAt "_law_says") 761 760) ((bodyAt "_law_says").drop 2) (msay l r n o tl tr tn tt) ((kx.L + 1 + 1, o1) :: (kx.L + 1, o2) :: news) (fun v ns => v = .bool (saysP o l r (bitsB (n - 0).toNat x y)) ∧ ns = news)
noncomputable def kap_ret : Cx := kapOf S_ret
set_option maxHeartbeats 8000000 in
theorem says_ret_k : S_ret kap_ret := by
  intro news o1 o2 n o x y l r t u tl tr tn tt d1 d2 Hl hn hop
  have e1 : (scopeAt "_law_says") = (scopeAt "_law_says") := rfl
  conv at e1 => rhs; whnf
  have e2 : ((bodyAt "_law_says").drop 2) = ((bodyAt "_law_says").drop 2) := rfl
  conv at e2 => rhs; whnf
  (try dsimp only at e1)
  (try dsimp only at e2)
  refine @bodyK_lit _ _ _ _ _ _ _ _ _ _ _ _ e1 e2 ?_
  clear e1 e2
  unfold BodyK
  intro h tk HW HF HN hE hret
  have HX := HW.X
  have HT := HW.T
  have HB := HW.B
  have hdp := HW.d
  have hun := HW.u
  have hn2 := hn.up
  refine frLet HF ?_
  intro mk HF9
  clear HF
  refine ledLet HN ?_
  intro nk HN9
  k_steps
  all_goals (first
    | (exfalso; exact keyB_no hop (by assumption) (by assumption) (by assumption) (by assumption) (by assumption) (by assumption) (by assumption))
    | (refine' hret _ _ _ _ _ ⟨congrArg Value.bool ?va, rfl⟩ ?bas ?led
       case bas => k_asm
       case led => (exact cb_drop (by k_asm) (fun q hq => by first | (exact hq) | walk_at "Mem" | (repeat (first | exact hq | exact List.mem_append_left _ hq | refine List.Mem.tail _ ?_))))
       case va => (first | exact sp0 (by assumption) | exact sp1 (by assumption) (by assumption) | exact sp2 (by assumption) (by assumption) (by assumption) | exact sp3 (by assumption) (by assumption) (by assumption) (by assumption) | exact sp4 (by assumption) (by assumption) (by assumption) (by assumption) (by assumption) | exact sp5 (by assumption) (by assumption) (by assumption) (by assumption) (by assumption) (by assumption) | exact sp6 (by assumption) (by assumption) (by assumption) (by assumption) (by assumption) (by assumption))))
theorem says_ret (kx : Cx) : S_ret kx := @kap_all S_ret says_ret_k kx
example : True := by
  k_with "off C7_64" => skip
  trivial
end
section
set_option maxHeartbeats 8000000
example : True := by
  k_with "T:k_fmods" => ((fail_if_success k_extra "off C7_32"); skip)
  k_with ".UnrEnd" => ((fail_if_success k_extra "off C7_32"); (k_here; k_dflt (first | (refine' unrEnd_pre [] ?FBx ?NBx ?ofBx ?_; (case FBx => k_asm); (case NBx => k_asm); (case ofBx => (simp only [List.nil_append, List.cons_append]; k_all))) | (refine' unrEnd_pre [_] ?FBx ?NBx ?ofBx ?_; (case FBx => k_asm); (case NBx => k_asm); (case ofBx => (simp only [List.nil_append, List.cons_append]; k_all))) | (refine' unrEnd_pre [_, _] ?FBx ?NBx ?ofBx ?_; (case FBx => k_asm); (case NBx => k_asm); (case ofBx => (simp only [List.nil_append, List.cons_append]; k_all))) | (refine' unrEnd_pre [_, _, _] ?FBx ?NBx ?ofBx ?_; (case FBx => k_asm); (case NBx => k_asm); (case ofBx => (simp only [List.nil_append, List.cons_append]; k_all))) | (refine' unrEnd_pre [_, _, _, _] ?FBx ?NBx ?ofBx ?_; (case FBx => k_asm); (case NBx => k_asm); (case ofBx => (simp only [List.nil_append, List.cons_append]; k_all))) | (refine' unrEnd_pre [_, _, _, _, _] ?FBx ?NBx ?ofBx ?_; (case FBx => k_asm); (case NBx => k_asm); (case ofBx => (simp only [List.nil_append, List.cons_append]; k_all))) | (refine' unrEnd_pre [_, _, _, _, _, _] ?FBx ?NBx ?ofBx ?_; (case FBx => k_asm); (case NBx => k_asm); (case ofBx => (simp only [List.nil_append, List.cons_append]; k_all)))); (try simp only [List.nil_append, List.cons_append])))
  k_with ".CompEnd" => ((fail_if_success k_extra "off C7_32"); (k_here; k_dflt (refine' compEnd_all ?FBy ?NBy ?ofBy ?_; (case FBy => k_asm); (case NBy => k_asm); (case ofBy => assumption))))
  k_with ".binaryOp Pow int int" => ((fail_if_success k_extra "off C7_32"); (k_here; k_dflt (refine pow2_n (by assumption) ?_)))
  k_with ".binaryOp Mod int int" => ((fail_if_success k_extra "off C7_32"); (k_here; k_dflt (with_reducible refine mod_pw ?_)))
  k_with "T:l_bnd" => ((fail_if_success k_extra "off C7_32"); first | with_reducible assumption | exact kb_lt (by assumption) (by assumption) | exact kb_le (by assumption) (by assumption))
  trivial
def S_says (kx : Cx) : Prop := ∀ (news : Led) (o1 o2 : Obj) (n : Int) (o : Str) (x y : Int) (q t u v : Tok), o1.data = .cell (some (.int y u)) → o2.data = .cell (some (.int x t)) → AllLt kx.L news → Sz n → o ∈ ops → (-(2^64) < x ∧ x < 2^64) → (-(2^64) < y ∧ y < 2^64) → BodyK kx 15 (cenv kx (Str.ofString "_law_says") (scopeAt "_law_says") 761 760) (bodyAt "_law_says") (fun y => if y = Str.ofString "size" then some (.int n v) else if y = Str.ofString "op" then some (.str o q) else none) ((kx.L + 1 + 1, o1) :: (kx.L + 1, o2) :: news) (fun v ns => v = .bool (saysN n o x y) ∧ ns = news)
noncomputable def kap_says : Cx := kapOf S_says
theorem isSg_t {o : Str} (h : o ∈ ops) (a : ([Str.ofString "sgt", Str.ofString "sge", Str.ofString "slt", Str.ofString "sle"].any fun x => x == o) = true) : keyB (Txt.slice o (some 1) none) = true := by
  have k := List.all_eq_true.mp op_keys o h
  rwa [if_pos (show isSg o = true from a)] at k
theorem isSg_f {o : Str} (h : o ∈ ops) (a : ([Str.ofString "sgt", Str.ofString "sge", Str.ofString "slt", Str.ofString "sle"].any fun x => x == o) = false) : keyB o = true := by
  have k := List.all_eq_true.mp op_keys o h
  rwa [if_neg (ne_of_f (show isSg o = false from a))] at k
theorem sayN_t {n x y : Int} {o : Str} {b : Bool} (a : ([Str.ofString "sgt", Str.ofString "sge", Str.ofString "slt", Str.ofString "sle"].any fun x => x == o) = true) (h : b = saysP (Txt.slice o (some 1) none) (sgnN n x) (sgnN n y) (bitsB (n - 0).toNat x y)) : b = saysN n o x y := h.trans (if_pos (show isSg o = true from a)).symm
theorem sayN_f {n x y : Int} {o : Str} {b : Bool} (a : ([Str.ofString "sgt", Str.ofString "sge", Str.ofString "slt", Str.ofString "sle"].any fun x => x == o) = false) (h : b = saysP o (x.fmod (pwN n)) (y.fmod (pwN n)) (bitsB (n - 0).toNat x y)) : b = saysN n o x y := h.trans (if_neg (ne_of_f (show isSg o = false from a))).symm
theorem split2 {b : List Stmt} {s1 s2 : Stmt} {r : List Stmt} (e : b = s1 :: s2 :: r) : b.drop 2 = r := by rw [e]; rfl
set_option maxHeartbeats 8000000 in
theorem c_says_k : S_says kap_says := by
  intro news o1 o2 n o x y q t u v d1 d2 Hl hn hop hx hy
  have e1 : (scopeAt "_law_says") = (scopeAt "_law_says") := rfl
  conv at e1 => rhs; whnf
  have e2 : (bodyAt "_law_says") = (bodyAt "_law_says") := rfl
  conv at e2 => rhs; whnf
  (try dsimp only at e1)
  (try dsimp only at e2)
  have e3 := split2 e2
  obtain ⟨R, hR⟩ : ∃ R, R = (bodyAt "_law_says").drop 2 := ⟨_, rfl⟩
  rw [← e3, ← hR] at e2
  clear e3
  refine @bodyK_lit _ _ _ _ _ _ _ _ _ _ _ _ e1 e2 ?_
  clear e2
  unfold BodyK
  intro h tk HW HF HN hE hret
  have ho := op_short hop
  have HX := HW.X
  have HT := HW.T
  have HB := HW.B
  have hdp := HW.d
  have hun := HW.u
  refine frLet HF ?_
  intro mk HF9
  clear HF
  refine ledLet HN ?_
  intro nk HN9
  k_steps
  all_goals subst hR
  · rename Fr _ _ _ _ => kF
    rename News _ _ _ _ => kN
    have F9 := fr_say kF rfl rfl rfl rfl (fun y a b c d => (by first | exact (if_neg a).trans ((if_neg b).trans ((if_neg c).trans ((if_neg a).trans ((if_neg b).trans ((if_neg d).trans (if_neg c)))))) | exact (if_neg c).trans ((if_neg b).trans ((if_neg a).trans ((if_neg a).trans ((if_neg b).trans ((if_neg d).trans (if_neg c))))))))
    exact bodyK_lit e1.symm rfl (says_ret kap_says news o1 o2 n _ x y _ _ t u _ _ _ _ d1 d2 Hl hn (isSg_t hop (by assumption))) _ _ HW F9 (cb_drop kN (fun q hq => by first | (exact hq) | walk_at "Mem" | (repeat (first | exact hq | refine List.Mem.tail _ ?_)))) hE (fun mq v ns hh kk hq F9 N9 => hret mq v ns hh kk ⟨hq.1.trans (congrArg Value.bool (sayN_t (by assumption) rfl)), hq.2⟩ F9 N9)
  · rename Fr _ _ _ _ => kF
    rename News _ _ _ _ => kN
    have F9 := fr_say kF rfl rfl rfl rfl (fun y a b c d => (by first | exact (if_neg a).trans ((if_neg b).trans ((if_neg d).trans (if_neg c))) | exact (if_neg b).trans ((if_neg a).trans ((if_neg d).trans (if_neg c)))))
    exact bodyK_lit e1.symm rfl (says_ret kap_says news o1 o2 n _ x y _ _ t u _ _ _ _ d1 d2 Hl hn (isSg_f hop (by assumption))) _ _ HW F9 (cb_drop kN (fun q hq => by first | (exact hq) | walk_at "Mem" | (repeat (first | exact hq | refine List.Mem.tail _ ?_)))) hE (fun mq v ns hh kk hq F9 N9 => hret mq v ns hh kk ⟨hq.1.trans (congrArg Value.bool (sayN_f (by assumption) rfl)), hq.2⟩ F9 N9)
theorem c_saysN {w : World} {mean : ExcName → Option Value} {mg mb : Str → Option Value} {news : Led} {n : Int} {o : Str} {x y : Int} {q t u v : Tok} (hn : Sz n) (hop : o ∈ ops) (hx : -(2^64) < x ∧ x < 2^64) (hy : -(2^64) < y ∧ y < 2^64) :
   Ct w mean mg mb 16 761 news True [.str o q, .int x t, .int y u, .int n v] (fun v ns => v = .bool (saysN n o x y) ∧ ns = news) := by
  refine ct_of_bodyC (c := 760) (by k_is) (by k_is) (fun s HX => by (first | exact BindsTo.of_eq rfl | exact binds_K HX rfl (by k_is) rfl rfl rfl)) (by exact rfl) (by decide +kernel) rfl rfl (by decide) (fun dp un gd outer A₀ base h₀ L s Q E => ?_)
  intro h tk cells HW HF HN HY Hl hE hret
  obtain ⟨o1, o2, rfl, d1, d2⟩ : ∃ o1 o2, cells = [(L + 1 + 1, o1), (L + 1, o2)] ∧ o1.data = .cell (some (.int y u)) ∧ o2.data = .cell (some (.int x t)) := CellsAre.two HY
  exact @kap_all S_says c_says_k _ news o1 o2 n o x y q t u v d1 d2 Hl hn hop hx hy h tk HW HF HN hE hret
def says64 (o : Str) (x y : Int) : Bool := if isSg o = true then saysP (Txt.slice o (some 1) none) (sgn64 x) (sgn64 y) (bitsB (64 - 0 : Int).toNat x y) else saysP o (x.fmod 18446744073709551616) (y.fmod 18446744073709551616) (bitsB (64 - 0 : Int).toNat x y)
def says32 (o : Str) (x y : Int) : Bool := if isSg o = true then saysP (Txt.slice o (some 1) none) (sgn32 x) (sgn32 y) (bitsB (32 - 0 : Int).toNat x y) else saysP o (x.fmod 4294967296) (y.fmod 4294967296) (bitsB (32 - 0 : Int).toNat x y)
theorem says_rx {x : Int} (h : 0 ≤ x ∧ x < 2^64) : -(2^64) < x ∧ x < 2^64 := ⟨Int.lt_of_lt_of_le (by decide) h.1, h.2⟩
theorem says_ry {x : Int} (h : -(2^31) ≤ x ∧ x < 2^64) : -(2^64) < x ∧ x < 2^64 := ⟨Int.lt_of_lt_of_le (by decide) h.1, h.2⟩
theorem c_says64 {w : World} {mean : ExcName → Option Value} {mg mb : Str → Option Value} {news : Led} {o : Str} {x y : Int} {q t u v : Tok} (hop : o ∈ ops) (hx : 0 ≤ x ∧ x < 2^64) (hy : -(2^31) ≤ y ∧ y < 2^64) :
   Ct w mean mg mb 16 761 news True [.str o q, .int x t, .int y u, .int 64 v] (fun v ns => v = .bool (says64 o x y) ∧ ns = news) := c_saysN (.inl rfl) hop (says_rx hx) (says_ry hy)
theorem c_says32 {w : World} {mean : ExcName → Option Value} {mg mb : Str → Option Value} {news : Led} {o : Str} {x y : Int} {q t u v : Tok} (hop : o ∈ ops) (hx : 0 ≤ x ∧ x < 2^64) (hy : -(2^31) ≤ y ∧ y < 2^64) :
   Ct w mean mg mb 16 761 news True [.str o q, .int x t, .int y u, .int 32 v] (fun v ns => v = .bool (says32 o x y) ∧ ns = news) := c_saysN (.inr rfl) hop (says_rx hx) (says_ry hy)
example : True := by
  k_with "off C7_32" => skip
  trivial
end
section
set_option maxHeartbeats 1000000
example : True := by
  k_with ".call ref" => (k_here; (with_reducible show wpAny _ _ (call (Value.ref 200) [_, _]) _ _ _); k_dflt (refine' ct_use (c_spotJ ?hxBC) ?kBBC ?kFBC ?kXBC ?kNBC ?kTBC ?kkBC trivial ?kdBC ?kuBC ?_; (case kBBC => k_asm); (case kFBC => k_asm); (case kXBC => k_asm); (case kNBC => k_asm); (case kTBC => k_asm); (case kkBC => first | exact rfl | assumption); (case hxBC => assumption); (case kdBC => ktr_room); (case kuBC => ktr_units); (intro v9Z ns9Z h9Z tk9Z hR9Z F9Z N9Z; obtain ⟨⟨t9, hv9⟩, hn9⟩ := hR9Z; subst hv9 hn9; (try dsimp only); (try k_fold))))
  trivial
theorem not_odd {o : Str} (ho : o ∈ ops) : (o == Str.ofString "ja") = false ∧ (o == Str.ofString "call") = false ∧ (o == Str.ofString "exit") = false := by
  simp only [ops, List.mem_cons, List.not_mem_nil, or_false] at ho
  rcases ho with rfl | rfl | rfl | rfl | rfl | rfl | rfl | rfl | rfl | rfl | rfl <;> decide +kernel
def S_c_bcode64 (kx : Cx) : Prop := ∀ (news : Led) (o : Str) (t u : Tok) (ho : o ∈ ops), Bd kx 11 (Str.ofString "branch_code") (scopeAt "branch_code") 214 213 (bodyAt "branch_code") (fun yq => [(Str.ofString "name", (.str o t : Value)), (Str.ofString "size", (.int 64 u : Value))].reverse.lookup yq) news (fun v ns => (∃ t, v = .int (spot o * 16 + 5) t) ∧ ns = news)
noncomputable def kap_c_bcode64 : Cx := kapOf S_c_bcode64
theorem c_bcode64_k : S_c_bcode64 kap_c_bcode64 := by
  intro news o t u ho
  have e1 : (scopeAt "branch_code") = (scopeAt "branch_code") := rfl
  conv at e1 => rhs; whnf
  have e2 : (bodyAt "branch_code") = (bodyAt "branch_code") := rfl
  conv at e2 => rhs; whnf
  (try dsimp only at e1)
  (try dsimp only at e2)
  refine @bd_lit _ _ _ _ _ _ _ _ _ _ _ _ e1 e2 ?_
  clear e1 e2
  unfold Bd
  k_fill
  intro h tk HB HF HX HN HT hdp hun hE hret
  have HW : Wf kap_c_bcode64 11 := ⟨HB, HX, HT, hdp, hun⟩
  obtain ⟨n1, n2, n3⟩ := not_odd ho
  obtain ⟨m1, m2, m3, m4⟩ := spot_in ho
  refine frLet HF ?_
  intro mk HF9
  clear HF
  refine ledLet (by with_reducible assumption) ?_
  intro nk HN9
  k_steps
  all_goals (first
    | contradiction
    | (refine' hret _ _ _ _ _ ⟨⟨_, rfl⟩, rfl⟩ ?bas ?led
       case bas => k_asm
       case led => k_extra "Z3"))
theorem c_bcode64 {w : World} {mean : ExcName → Option Value} {mg mb : Str → Option Value} {news : Led} {o : Str} {t u : Tok} (ho : o ∈ ops) :
   Ct w mean mg mb 12 214 news True [.str o t, .int 64 u] (fun v ns => (∃ t, v = .int (spot o * 16 + 5) t) ∧ ns = news) := by
  k_extra "Z1"
  exact @kap_all S_c_bcode64 c_bcode64_k ⟨w, mean, mg, mb, dp, un, gd, outer, A₀, base, h₀, L, s, Q, E⟩ news o t u ho
def S_c_bcode32 (kx : Cx) : Prop := ∀ (news : Led) (o : Str) (t u : Tok) (ho : o ∈ ops), Bd kx 11 (Str.ofString "branch_code") (scopeAt "branch_code") 214 213 (bodyAt "branch_code") (fun yq => [(Str.ofString "name", (.str o t : Value)), (Str.ofString "size", (.int 32 u : Value))].reverse.lookup yq) news (fun v ns => (∃ t, v = .int (spot o * 16 + 6) t) ∧ ns = news)
noncomputable def kap_c_bcode32 : Cx := kapOf S_c_bcode32
theorem c_bcode32_k : S_c_bcode32 kap_c_bcode32 := by
  intro news o t u ho
  have e1 : (scopeAt "branch_code") = (scopeAt "branch_code") := rfl
  conv at e1 => rhs; whnf
  have e2 : (bodyAt "branch_code") = (bodyAt "branch_code") := rfl
  conv at e2 => rhs; whnf
  (try dsimp only at e1)
  (try dsimp only at e2)
  refine @bd_lit _ _ _ _ _ _ _ _ _ _ _ _ e1 e2 ?_
  clear e1 e2
  unfold Bd
  k_fill
  intro h tk HB HF HX HN HT hdp hun hE hret
  have HW : Wf kap_c_bcode32 11 := ⟨HB, HX, HT, hdp, hun⟩
  obtain ⟨n1, n2, n3⟩ := not_odd ho
  obtain ⟨m1, m2, m3, m4⟩ := spot_in ho
  refine frLet HF ?_
  intro mk HF9
  clear HF
  refine ledLet (by with_reducible assumption) ?_
  intro nk HN9
  k_steps
  all_goals (first
    | contradiction
    | (refine' hret _ _ _ _ _ ⟨⟨_, rfl⟩, rfl⟩ ?bas ?led
       case bas => k_asm
       case led => k_extra "Z3"))
theorem c_bcode32 {w : World} {mean : ExcName → Option Value} {mg mb : Str → Option Value} {news : Led} {o : Str} {t u : Tok} (ho : o ∈ ops) :
   Ct w mean mg mb 12 214 news True [.str o t, .int 32 u] (fun v ns => (∃ t, v = .int (spot o * 16 + 6) t) ∧ ns = news) := by
  k_extra "Z1"
  exact @kap_all S_c_bcode32 c_bcode32_k ⟨w, mean, mg, mb, dp, un, gd, outer, A₀, base, h₀, L, s, Q, E⟩ news o t u ho
end
section
set_option maxHeartbeats 1000000
example : True := by
  k_with ".call ref" => (k_here; (with_reducible show wpAny _ _ (call (Value.ref 214) [_, Value.int 64 _]) _ _ _); k_dflt (refine' ct_use (c_bcode64 ?hxBD) ?kBBD ?kFBD ?kXBD ?kNBD ?kTBD ?kkBD trivial ?kdBD ?kuBD ?_; (case kBBD => k_asm); (case kFBD => k_asm); (case kXBD => k_asm); (case kNBD => k_asm); (case kTBD => k_asm); (case kkBD => first | exact rfl | assumption); (case hxBD => assumption); (case kdBD => ktr_room); (case kuBD => ktr_units); (intro v9Z ns9Z h9Z tk9Z hR9Z F9Z N9Z; obtain ⟨⟨t9, hv9⟩, hn9⟩ := hR9Z; subst hv9 hn9; (try dsimp only); (try k_fold))))
  k_with ".call ref" => (k_here; (with_reducible show wpAny _ _ (call (Value.ref 214) [_, Value.int 32 _]) _ _ _); k_dflt (refine' ct_use (c_bcode32 ?hxBE) ?kBBE ?kFBE ?kXBE ?kNBE ?kTBE ?kkBE trivial ?kdBE ?kuBE ?_; (case kBBE => k_asm); (case kFBE => k_asm); (case kXBE => k_asm); (case kNBE => k_asm); (case kTBE => k_asm); (case kkBE => first | exact rfl | assumption); (case hxBE => assumption); (case kdBE => ktr_room); (case kuBE => ktr_units); (intro v9Z ns9Z h9Z tk9Z hR9Z F9Z N9Z; obtain ⟨⟨t9, hv9⟩, hn9⟩ := hR9Z; subst hv9 hn9; (try dsimp only); (try k_fold))))
  trivial
inductive IsOrd (c dst src off imm more : Int) (d : Obj) : Prop where
  | mk (h1 h2 h3 h4 h5 h6 : Int) (t1 t2 t3 t4 t5 t6 v1 v2 v3 v4 v5 v6 : Tok) (q9 : d = dictOf [⟨h1, .str (Str.ofString "code") t1, .int c v1⟩, ⟨h2, .str (Str.ofString "dst") t2, .int dst v2⟩, ⟨h3, .str (Str.ofString "src") t3, .int src v3⟩, ⟨h4, .str (Str.ofString "off") t4, .int off v4⟩, ⟨h5, .str (Str.ofString "imm") t5, .int imm v5⟩, ⟨h6, .str (Str.ofString "more") t6, .int more v6⟩] 6) : IsOrd c dst src off imm more d
theorem isOrd_mk {c dst src off imm more h1 h2 h3 h4 h5 h6 : Int} {t1 t2 t3 t4 t5 t6 v1 v2 v3 v4 v5 v6 : Tok} : IsOrd c dst src off imm more (dictOf [⟨h1, .str (Str.ofString "code") t1, .int c v1⟩, ⟨h2, .str (Str.ofString "dst") t2, .int dst v2⟩, ⟨h3, .str (Str.ofString "src") t3, .int src v3⟩, ⟨h4, .str (Str.ofString "off") t4, .int off v4⟩, ⟨h5, .str (Str.ofString "imm") t5, .int imm v5⟩, ⟨h6, .str (Str.ofString "more") t6, .int more v6⟩] 6) := ⟨_, _, _, _, _, _, _, _, _, _, _, _, _, _, _, _, _, _, rfl⟩
def S_c_breg64 (kx : Cx) : Prop := ∀ (news : Led) (o : Str) (d s9 f9 : Int) (t u t1 t2 t3 : Tok) (ho : o ∈ ops), Bd kx 19 (Str.ofString "branch_reg") (scopeAt "branch_reg") 230 229 (bodyAt "branch_reg") (fun yq => [(Str.ofString "op", (.str o t : Value)), (Str.ofString "dst", (.int d t1 : Value)), (Str.ofString "src", (.int s9 t2 : Value)), (Str.ofString "away", (.int f9 t3 : Value)), (Str.ofString "size", (.int 64 u : Value))].reverse.lookup yq) news (fun v ns => ∃ ox dx d', v = .ref ox ∧ ns = (ox, instObj 133 dx) :: (dx, d') :: news ∧ IsOrd (spot o * 16 + 5 + 8) d s9 f9 0 0 d')
noncomputable def kap_c_breg64 : Cx := kapOf S_c_breg64
theorem c_breg64_k : S_c_breg64 kap_c_breg64 := by
  intro news o d s9 f9 t u t1 t2 t3 ho
  have e1 : (scopeAt "branch_reg") = (scopeAt "branch_reg") := rfl
  conv at e1 => rhs; whnf
  have e2 : (bodyAt "branch_reg") = (bodyAt "branch_reg") := rfl
  conv at e2 => rhs; whnf
  (try dsimp only at e1)
  (try dsimp only at e2)
  refine @bd_lit _ _ _ _ _ _ _ _ _ _ _ _ e1 e2 ?_
  clear e1 e2
  unfold Bd
  k_fill
  intro h tk HB HF HX HN HT hdp hun hE hret
  have HW : Wf kap_c_breg64 19 := ⟨HB, HX, HT, hdp, hun⟩
  refine frLet HF ?_
  intro mk HF9
  clear HF
  refine ledLet (by with_reducible assumption) ?_
  intro nk HN9
  k_steps
  all_goals (refine' hret _ _ _ _ _ ⟨_, _, _, rfl, rfl, isOrd_mk⟩ ?bas ?led
             case bas => k_asm
             case led => k_extra "Z3")
theorem c_breg64 {w : World} {mean : ExcName → Option Value} {mg mb : Str → Option Value} {news : Led} {o : Str} {d s9 f9 : Int} {t u t1 t2 t3 : Tok} (ho : o ∈ ops) :
   Ct w mean mg mb 20 230 news True [.str o t, .int d t1, .int s9 t2, .int f9 t3, .int 64 u] (fun v ns => ∃ ox dx d', v = .ref ox ∧ ns = (ox, instObj 133 dx) :: (dx, d') :: news ∧ IsOrd (spot o * 16 + 5 + 8) d s9 f9 0 0 d') := by
  k_extra "Z1"
  exact @kap_all S_c_breg64 c_breg64_k ⟨w, mean, mg, mb, dp, un, gd, outer, A₀, base, h₀, L, s, Q, E⟩ news o d s9 f9 t u t1 t2 t3 ho
def S_c_breg32 (kx : Cx) : Prop := ∀ (news : Led) (o : Str) (d s9 f9 : Int) (t u t1 t2 t3 : Tok) (ho : o ∈ ops), Bd kx 19 (Str.ofString "branch_reg") (scopeAt "branch_reg") 230 229 (bodyAt "branch_reg") (fun yq => [(Str.ofString "op", (.str o t : Value)), (Str.ofString "dst", (.int d t1 : Value)), (Str.ofString "src", (.int s9 t2 : Value)), (Str.ofString "away", (.int f9 t3 : Value)), (Str.ofString "size", (.int 32 u : Value))].reverse.lookup yq) news (fun v ns => ∃ ox dx d', v = .ref ox ∧ ns = (ox, instObj 133 dx) :: (dx, d') :: news ∧ IsOrd (spot o * 16 + 6 + 8) d s9 f9 0 0 d')
noncomputable def kap_c_breg32 : Cx := kapOf S_c_breg32
theorem c_breg32_k : S_c_breg32 kap_c_breg32 := by
  intro news o d s9 f9 t u t1 t2 t3 ho
  have e1 : (scopeAt "branch_reg") = (scopeAt "branch_reg") := rfl
  conv at e1 => rhs; whnf
  have e2 : (bodyAt "branch_reg") = (bodyAt "branch_reg") := rfl
  conv at e2 => rhs; whnf
  (try dsimp only at e1)
  (try dsimp only at e2)
  refine @bd_lit _ _ _ _ _ _ _ _ _ _ _ _ e1 e2 ?_
  clear e1 e2
  unfold Bd
  k_fill
  intro h tk HB HF HX HN HT hdp hun hE hret
  have HW : Wf kap_c_breg32 19 := ⟨HB, HX, HT, hdp, hun⟩
  refine frLet HF ?_
  intro mk HF9
  clear HF
  refine ledLet (by with_reducible assumption) ?_
  intro nk HN9
  k_steps
  all_goals (refine' hret _ _ _ _ _ ⟨_, _, _, rfl, rfl, isOrd_mk⟩ ?bas ?led
             case bas => k_asm
             case led => k_extra "Z3")
theorem c_breg32 {w : World} {mean : ExcName → Option Value} {mg mb : Str → Option Value} {news : Led} {o : Str} {d s9 f9 : Int} {t u t1 t2 t3 : Tok} (ho : o ∈ ops) :
   Ct w mean mg mb 20 230 news True [.str o t, .int d t1, .int s9 t2, .int f9 t3, .int 32 u] (fun v ns => ∃ ox dx d', v = .ref ox ∧ ns = (ox, instObj 133 dx) :: (dx, d') :: news ∧ IsOrd (spot o * 16 + 6 + 8) d s9 f9 0 0 d') := by
  k_extra "Z1"
  exact @kap_all S_c_breg32 c_breg32_k ⟨w, mean, mg, mb, dp, un, gd, outer, A₀, base, h₀, L, s, Q, E⟩ news o d s9 f9 t u t1 t2 t3 ho
def S_c_bimm64 (kx : Cx) : Prop := ∀ (news : Led) (o : Str) (d s9 f9 : Int) (t u t1 t2 t3 : Tok) (ho : o ∈ ops), Bd kx 19 (Str.ofString "branch_imm") (scopeAt "branch_imm") 238 237 (bodyAt "branch_imm") (fun yq => [(Str.ofString "op", (.str o t : Value)), (Str.ofString "dst", (.int d t1 : Value)), (Str.ofString "imm", (.int s9 t2 : Value)), (Str.ofString "away", (.int f9 t3 : Value)), (Str.ofString "size", (.int 64 u : Value))].reverse.lookup yq) news (fun v ns => ∃ ox dx d', v = .ref ox ∧ ns = (ox, instObj 133 dx) :: (dx, d') :: news ∧ IsOrd (spot o * 16 + 5) d 0 f9 s9 0 d')
noncomputable def kap_c_bimm64 : Cx := kapOf S_c_bimm64
theorem c_bimm64_k : S_c_bimm64 kap_c_bimm64 := by
  intro news o d s9 f9 t u t1 t2 t3 ho
  have e1 : (scopeAt "branch_imm") = (scopeAt "branch_imm") := rfl
  conv at e1 => rhs; whnf
  have e2 : (bodyAt "branch_imm") = (bodyAt "branch_imm") := rfl
  conv at e2 => rhs; whnf
  (try dsimp only at e1)
  (try dsimp only at e2)
  refine @bd_lit _ _ _ _ _ _ _ _ _ _ _ _ e1 e2 ?_
  clear e1 e2
  unfold Bd
  k_fill
  intro h tk HB HF HX HN HT hdp hun hE hret
  have HW : Wf kap_c_bimm64 19 := ⟨HB, HX, HT, hdp, hun⟩
  refine frLet HF ?_
  intro mk HF9
  clear HF
  refine ledLet (by with_reducible assumption) ?_
  intro nk HN9
  k_steps
  all_goals (refine' hret _ _ _ _ _ ⟨_, _, _, rfl, rfl, isOrd_mk⟩ ?bas ?led
             case bas => k_asm
             case led => k_extra "Z3")
theorem c_bimm64 {w : World} {mean : ExcName → Option Value} {mg mb : Str → Option Value} {news : Led} {o : Str} {d s9 f9 : Int} {t u t1 t2 t3 : Tok} (ho : o ∈ ops) :
   Ct w mean mg mb 20 238 news True [.str o t, .int d t1, .int s9 t2, .int f9 t3, .int 64 u] (fun v ns => ∃ ox dx d', v = .ref ox ∧ ns = (ox, instObj 133 dx) :: (dx, d') :: news ∧ IsOrd (spot o * 16 + 5) d 0 f9 s9 0 d') := by
  k_extra "Z1"
  exact @kap_all S_c_bimm64 c_bimm64_k ⟨w, mean, mg, mb, dp, un, gd, outer, A₀, base, h₀, L, s, Q, E⟩ news o d s9 f9 t u t1 t2 t3 ho
def S_c_bimm32 (kx : Cx) : Prop := ∀ (news : Led) (o : Str) (d s9 f9 : Int) (t u t1 t2 t3 : Tok) (ho : o ∈ ops), Bd kx 19 (Str.ofString "branch_imm") (scopeAt "branch_imm") 238 237 (bodyAt "branch_imm") (fun yq => [(Str.ofString "op", (.str o t : Value)), (Str.ofString "dst", (.int d t1 : Value)), (Str.ofString "imm", (.int s9 t2 : Value)), (Str.ofString "away", (.int f9 t3 : Value)), (Str.ofString "size", (.int 32 u : Value))].reverse.lookup yq) news (fun v ns => ∃ ox dx d', v = .ref ox ∧ ns = (ox, instObj 133 dx) :: (dx, d') :: news ∧ IsOrd (spot o * 16 + 6) d 0 f9 s9 0 d')
noncomputable def kap_c_bimm32 : Cx := kapOf S_c_bimm32
theorem c_bimm32_k : S_c_bimm32 kap_c_bimm32 := by
  intro news o d s9 f9 t u t1 t2 t3 ho
  have e1 : (scopeAt "branch_imm") = (scopeAt "branch_imm") := rfl
  conv at e1 => rhs; whnf
  have e2 : (bodyAt "branch_imm") = (bodyAt "branch_imm") := rfl
  conv at e2 => rhs; whnf
  (try dsimp only at e1)
  (try dsimp only at e2)
  refine @bd_lit _ _ _ _ _ _ _ _ _ _ _ _ e1 e2 ?_
  clear e1 e2
  unfold Bd
  k_fill
  intro h tk HB HF HX HN HT hdp hun hE hret
  have HW : Wf kap_c_bimm32 19 := ⟨HB, HX, HT, hdp, hun⟩
  refine frLet HF ?_
  intro mk HF9
  clear HF
  refine ledLet (by with_reducible assumption) ?_
  intro nk HN9
  k_steps
  all_goals (refine' hret _ _ _ _ _ ⟨_, _, _, rfl, rfl, isOrd_mk⟩ ?bas ?led
             case bas => k_asm
             case led => k_extra "Z3")
theorem c_bimm32 {w : World} {mean : ExcName → Option Value} {mg mb : Str → Option Value} {news : Led} {o : Str} {d s9 f9 : Int} {t u t1 t2 t3 : Tok} (ho : o ∈ ops) :
   Ct w mean mg mb 20 238 news True [.str o t, .int d t1, .int s9 t2, .int f9 t3, .int 32 u] (fun v ns => ∃ ox dx d', v = .ref ox ∧ ns = (ox, instObj 133 dx) :: (dx, d') :: news ∧ IsOrd (spot o * 16 + 6) d 0 f9 s9 0 d') := by
  k_extra "Z1"
  exact @kap_all S_c_bimm32 c_bimm32_k ⟨w, mean, mg, mb, dp, un, gd, outer, A₀, base, h₀, L, s, Q, E⟩ news o d s9 f9 t u t1 t2 t3 ho
end
section
set_option maxHeartbeats 1000000
theorem dneg {n : Int} (h0 : 0 ≤ n) (h1 : n < 14) (e : Txt.strip (Txt.slice (Str.ofString "add sub mul div or  and lsh rsh neg mod xor mov arshend ") (some (4 * n)) (some (4 * n + 4))) = Str.ofString "neg") : n = 8 := by
  revert e
  exact int_below (P := fun n => Txt.strip (Txt.slice (Str.ofString "add sub mul div or  and lsh rsh neg mod xor mov arshend ") (some (4 * n)) (some (4 * n + 4))) = Str.ofString "neg" → n = 8) (k := 14) (by decide +kernel) h0 h1
theorem none_neg (h : ∀ v ∈ rangeKs 0 (14 - 0 : Int).toNat, (Txt.strip (Txt.slice (Str.ofString "add sub mul div or  and lsh rsh neg mod xor mov arshend ") (some (4 * v)) (some (4 * v + 4))) == Str.ofString "neg") = false) : False := absurd (h 8 (by decide +kernel)) (by decide +kernel)
def S_c_spotN (kx : Cx) : Prop := ∀ (news : Led) (t u : Tok), Bd kx 7 (Str.ofString "spot_of") (scopeAt "spot_of") 200 199 (bodyAt "spot_of") (fun yq => [(Str.ofString "names", (.str (Str.ofString "add sub mul div or  and lsh rsh neg mod xor mov arshend ") u : Value)), (Str.ofString "name", (.str (Str.ofString "neg") t : Value))].reverse.lookup yq) news      (fun v ns => (∃ t, v = .int 8 t) ∧ ns = news)
noncomputable def kap_c_spotN : Cx := kapOf S_c_spotN
theorem c_spotN_k : S_c_spotN kap_c_spotN := by
  intro news t u
  have e1 : (scopeAt "spot_of") = (scopeAt "spot_of") := rfl
  conv at e1 => rhs; whnf
  have e2 : (bodyAt "spot_of") = (bodyAt "spot_of") := rfl
  conv at e2 => rhs; whnf
  (try dsimp only at e1)
  (try dsimp only at e2)
  refine @bd_lit _ _ _ _ _ _ _ _ _ _ _ _ e1 e2 ?_
  clear e1 e2
  unfold Bd
  k_fill
  intro h tk HB HF HX HN HT hdp hun hE hret
  have HW : Wf kap_c_spotN 7 := ⟨HB, HX, HT, hdp, hun⟩
  (k_with "pyIter ref" => k_search (fun pre => ∀ v ∈ pre, (Txt.strip (Txt.slice (Str.ofString "add sub mul div or  and lsh rsh neg mod xor mov arshend ") (some (4 * v)) (some (4 * v + 4))) == Str.ofString "neg") = false))
  refine frLet HF ?_
  intro mk HF9
  clear HF
  refine ledLet (by with_reducible assumption) ?_
  intro nk HN9
  k_steps
  · refine hret _ _ _ _ _ ⟨⟨_, congrArg (Value.int · _) (dneg (by omega) (by omega) (beq_iff_eq.mp (by assumption)))⟩, rfl⟩ (by k_asm) (by first | k_asm | exact cb_drop (by k_asm) (fun q hq => List.mem_append_left _ hq))
  · exact (none_neg kInv).elim
theorem c_spotN {w : World} {mean : ExcName → Option Value} {mg mb : Str → Option Value} {news : Led} {t u : Tok} :
   Ct w mean mg mb 8 200 news True [.str (Str.ofString "add sub mul div or  and lsh rsh neg mod xor mov arshend ") u, .str (Str.ofString "neg") t]
     (fun v ns => (∃ t, v = .int 8 t) ∧ ns = news) := by
  k_extra "Z1"
  exact @kap_all S_c_spotN c_spotN_k ⟨w, mean, mg, mb, dp, un, gd, outer, A₀, base, h₀, L, s, Q, E⟩ news t u
example : True := by
  k_with ".call ref" => (k_here; (with_reducible show wpAny _ _ (call (Value.ref 200) [_, _]) _ _ _); k_dflt (refine' ct_use c_spotN ?kBBF ?kFBF ?kXBF ?kNBF ?kTBF ?kkBF trivial ?kdBF ?kuBF ?_; (case kBBF => k_asm); (case kFBF => k_asm); (case kXBF => k_asm); (case kNBF => k_asm); (case kTBF => k_asm); (case kkBF => first | exact rfl | assumption); (case kdBF => ktr_room); (case kuBF => ktr_units); (intro v9Z ns9Z h9Z tk9Z hR9Z F9Z N9Z; obtain ⟨⟨t9, hv9⟩, hn9⟩ := hR9Z; subst hv9 hn9; (try dsimp only); (try k_fold))))
  trivial
theorem c_neg0 {w : World} {mean : ExcName → Option Value} {mg mb : Str → Option Value} {news : Led} {t : Tok} :
   Ct w mean mg mb 24 222 news True [.int 0 t] (fun v ns => ∃ ox dx d', v = .ref ox ∧ ns = (ox, instObj 133 dx) :: (dx, d') :: news ∧ IsOrd 135 0 0 0 0 0 d') := by
  unfold Ct
  k_fill
  intro dp un gd cn cs fa ccd cl outer A₀ base h₀ L m s Q E HB HF HX HN HT hkind hp hdp hun hret
  refine wpAny_call ?_
  k_dflt cell_enter
  k_steps
  all_goals first
   | (refine' hret _ _ _ _ ⟨_, _, _, rfl, rfl, isOrd_mk⟩ ?bas ?led
      case bas => k_asm
      case led => k_extra "Z3")
end
section
set_option maxHeartbeats 1000000
def S_c_leave (kx : Cx) : Prop := ∀ (news : Led), Bd kx 23 (Str.ofString "leave") (scopeAt "leave") 245 244 (bodyAt "leave") (fun yq => [].reverse.lookup yq) news (fun v ns => ∃ ox dx d', v = .ref ox ∧ ns = (ox, instObj 133 dx) :: (dx, d') :: news ∧ IsOrd 149 0 0 0 0 0 d')
noncomputable def kap_c_leave : Cx := kapOf S_c_leave
theorem c_leave_k : S_c_leave kap_c_leave := by
  intro news
  have e1 : (scopeAt "leave") = (scopeAt "leave") := rfl
  conv at e1 => rhs; whnf
  have e2 : (bodyAt "leave") = (bodyAt "leave") := rfl
  conv at e2 => rhs; whnf
  (try dsimp only at e1)
  (try dsimp only at e2)
  refine @bd_lit _ _ _ _ _ _ _ _ _ _ _ _ e1 e2 ?_
  clear e1 e2
  unfold Bd
  k_fill
  intro h tk HB HF HX HN HT hdp hun hE hret
  have HW : Wf kap_c_leave 23 := ⟨HB, HX, HT, hdp, hun⟩
  refine frLet HF ?_
  intro mk HF9
  clear HF
  refine ledLet (by with_reducible assumption) ?_
  intro nk HN9
  k_steps
  all_goals first
   | (refine' hret _ _ _ _ _ ⟨_, _, _, rfl, rfl, isOrd_mk⟩ ?bas ?led
      case bas => k_asm
      case led => k_extra "Z3")
theorem c_leave {w : World} {mean : ExcName → Option Value} {mg mb : Str → Option Value} {news : Led} :
   Ct w mean mg mb 24 245 news True [] (fun v ns => ∃ ox dx d', v = .ref ox ∧ ns = (ox, instObj 133 dx) :: (dx, d') :: news ∧ IsOrd 149 0 0 0 0 0 d') := by
  k_extra "Z1"
  exact @kap_all S_c_leave c_leave_k ⟨w, mean, mg, mb, dp, un, gd, outer, A₀, base, h₀, L, s, Q, E⟩ news
end
section
set_option maxHeartbeats 1000000
def S_c_host (kx : Cx) : Prop := ∀ (news : Led) (d : Int) (t : Tok) (h0 : 0 ≤ d) (h1 : d < 11), Bd kx 7 (Str.ofString "host_register") (scopeAt "host_register") 337 336 (bodyAt "host_register") (fun yq => [(Str.ofString "number", (.int d t : Value))].reverse.lookup yq) news (fun v ns => (∃ t, v = .int ([0,7,6,2,1,8,3,13,14,15,5].getD d.toNat 0) t) ∧ ns = news)
noncomputable def kap_c_host : Cx := kapOf S_c_host
theorem c_host_k : S_c_host kap_c_host := by
  intro news d t h0 h1
  have e1 : (scopeAt "host_register") = (scopeAt "host_register") := rfl
  conv at e1 => rhs; whnf
  have e2 : (bodyAt "host_register") = (bodyAt "host_register") := rfl
  conv at e2 => rhs; whnf
  (try dsimp only at e1)
  (try dsimp only at e2)
  refine @bd_lit _ _ _ _ _ _ _ _ _ _ _ _ e1 e2 ?_
  clear e1 e2
  unfold Bd
  k_fill
  intro h tk HB HF HX HN HT hdp hun hE hret
  have HW : Wf kap_c_host 7 := ⟨HB, HX, HT, hdp, hun⟩
  refine frLet HF ?_
  intro mk HF9
  clear HF
  refine ledLet (by with_reducible assumption) ?_
  intro nk HN9
  k_steps
  all_goals first
   | (refine' hret _ _ _ _ _ ⟨⟨_, rfl⟩, rfl⟩ ?bas ?led
      case bas => k_asm
      case led => k_extra "Z3")
theorem c_host {w : World} {mean : ExcName → Option Value} {mg mb : Str → Option Value} {news : Led} {d : Int} {t : Tok} (h0 : 0 ≤ d) (h1 : d < 11) :
   Ct w mean mg mb 8 337 news True [.int d t] (fun v ns => (∃ t, v = .int ([0,7,6,2,1,8,3,13,14,15,5].getD d.toNat 0) t) ∧ ns = news) := by
  k_extra "Z1"
  exact @kap_all S_c_host c_host_k ⟨w, mean, mg, mb, dp, un, gd, outer, A₀, base, h₀, L, s, Q, E⟩ news d t h0 h1
theorem c_host_v (kx : Cx) (cn8 : Str) (cs8 : Scope) (a8 : Addr) (ccd8 : Value) (cl8 : List (Str × Addr)) (zk : cs8.kind = .function) {D8 : Nat} (zW : Wf kx D8) (zD : Nat.ble 8 D8 = true) {news : Led} {d : Int} {t : Tok} {m8 : Str → Option Value} {h9 : Heap} {tk9 : Nat} {Q8 E8 : Value → Shared → Prop} (zF : Fr kx.h₀ kx.L h9 m8) (zN : News kx.h₀ kx.L h9 (news)) (h0 : 0 ≤ d) (h1 : d < 11)
   (kk9 : ∀ (t : Tok) (h' : Heap) (tk' : Nat), let n' : Led := (news); Fr kx.h₀ kx.L h' m8 → News kx.h₀ kx.L h' n' → Q8 (.int ([0,7,6,2,1,8,3,13,14,15,5].getD d.toNat 0) t) (kSt kx h' tk')) : wpAny (kMd kx) (kAr kx (envX cn8 cs8 kx.L a8 ccd8 cl8)) (call (.ref 337) [.int d t]) Q8 E8 (kSt kx h9 tk9) := by
  refine cv_use kx cn8 cs8 a8 ccd8 cl8 zk zW zD (c_host (h0 := h0) (h1 := h1)) zF zN ?_
  rintro v news' h' tk' ⟨⟨t, rfl⟩, rfl⟩ F N
  exact kk9 t _ _ F N
end
section
set_option maxHeartbeats 1000000
def S_c_class5 (kx : Cx) : Prop := ∀ (news : Led) (ox dx : Nat) (d' : Obj) (c dst src off imm more : Int) (hm1 : (ox, instObj 133 dx) ∈ news) (hm2 : (dx, d') ∈ news) (hd : IsOrd c dst src off imm more d') (hk : Builtin.bitAnd c 7 = 5), Bd kx 11 (Str.ofString "class_of") (scopeAt "class_of") 144 143 (bodyAt "class_of") (fun yq => [(Str.ofString "order", (.ref ox : Value))].reverse.lookup yq) (news) (fun v ns => ∃ (t : Tok), v = .str (Str.ofString "jmp") t ∧ ns = news)
noncomputable def kap_c_class5 : Cx := kapOf S_c_class5
theorem c_class5_k : S_c_class5 kap_c_class5 := by
  intro news ox dx d' c dst src off imm more hm1 hm2 hd hk
  have e1 : (scopeAt "class_of") = (scopeAt "class_of") := rfl
  conv at e1 => rhs; whnf
  have e2 : (bodyAt "class_of") = (bodyAt "class_of") := rfl
  conv at e2 => rhs; whnf
  (try dsimp only at e1)
  (try dsimp only at e2)
  refine @bd_lit _ _ _ _ _ _ _ _ _ _ _ _ e1 e2 ?_
  clear e1 e2
  unfold Bd
  k_fill
  intro h tk HB HF HX HN HT hdp hun hE hret
  have HW : Wf kap_c_class5 11 := ⟨HB, HX, HT, hdp, hun⟩
  obtain ⟨h1, h2, h3, h4, h5, h6, t1, t2, t3, t4, t5, t6, v1, v2, v3, v4, v5, v6, rfl⟩ := hd
  have HN1 := news_add hm1 (news_add hm2 HN HN) HN
  clear HN
  refine frLet HF ?_
  intro mk HF9
  clear HF
  refine ledLet (by with_reducible assumption) ?_
  intro nk HN9
  k_steps
  all_goals (refine' hret _ _ _ _ _ ⟨_, congrArg (Value.str · _) ?va, rfl⟩ ?bas ?led
             case bas => k_asm
             case va => (rw [hk]; decide +kernel)
             case led => k_extra "Z3")
theorem c_class5 {w : World} {mean : ExcName → Option Value} {mg mb : Str → Option Value} {news : Led} {ox dx : Nat} {d' : Obj} {c dst src off imm more : Int} (hm1 : (ox, instObj 133 dx) ∈ news) (hm2 : (dx, d') ∈ news) (hd : IsOrd c dst src off imm more d') (hk : Builtin.bitAnd c 7 = 5) :
   Ct w mean mg mb 12 144 (news) True [.ref ox] (fun v ns => ∃ (t : Tok), v = .str (Str.ofString "jmp") t ∧ ns = news) := by
  k_extra "Z1"
  exact @kap_all S_c_class5 c_class5_k ⟨w, mean, mg, mb, dp, un, gd, outer, A₀, base, h₀, L, s, Q, E⟩ news ox dx d' c dst src off imm more hm1 hm2 hd hk
def S_c_class6 (kx : Cx) : Prop := ∀ (news : Led) (ox dx : Nat) (d' : Obj) (c dst src off imm more : Int) (hm1 : (ox, instObj 133 dx) ∈ news) (hm2 : (dx, d') ∈ news) (hd : IsOrd c dst src off imm more d') (hk : Builtin.bitAnd c 7 = 6), Bd kx 11 (Str.ofString "class_of") (scopeAt "class_of") 144 143 (bodyAt "class_of") (fun yq => [(Str.ofString "order", (.ref ox : Value))].reverse.lookup yq) (news) (fun v ns => ∃ (t : Tok), v = .str (Str.ofString "jmp32") t ∧ ns = news)
noncomputable def kap_c_class6 : Cx := kapOf S_c_class6
theorem c_class6_k : S_c_class6 kap_c_class6 := by
  intro news ox dx d' c dst src off imm more hm1 hm2 hd hk
  have e1 : (scopeAt "class_of") = (scopeAt "class_of") := rfl
  conv at e1 => rhs; whnf
  have e2 : (bodyAt "class_of") = (bodyAt "class_of") := rfl
  conv at e2 => rhs; whnf
  (try dsimp only at e1)
  (try dsimp only at e2)
  refine @bd_lit _ _ _ _ _ _ _ _ _ _ _ _ e1 e2 ?_
  clear e1 e2
  unfold Bd
  k_fill
  intro h tk HB HF HX HN HT hdp hun hE hret
  have HW : Wf kap_c_class6 11 := ⟨HB, HX, HT, hdp, hun⟩
  obtain ⟨h1, h2, h3, h4, h5, h6, t1, t2, t3, t4, t5, t6, v1, v2, v3, v4, v5, v6, rfl⟩ := hd
  have HN1 := news_add hm1 (news_add hm2 HN HN) HN
  clear HN
  refine frLet HF ?_
  intro mk HF9
  clear HF
  refine ledLet (by with_reducible assumption) ?_
  intro nk HN9
  k_steps
  all_goals (refine' hret _ _ _ _ _ ⟨_, congrArg (Value.str · _) ?va, rfl⟩ ?bas ?led
             case bas => k_asm
             case va => (rw [hk]; decide +kernel)
             case led => k_extra "Z3")
theorem c_class6 {w : World} {mean : ExcName → Option Value} {mg mb : Str → Option Value} {news : Led} {ox dx : Nat} {d' : Obj} {c dst src off imm more : Int} (hm1 : (ox, instObj 133 dx) ∈ news) (hm2 : (dx, d') ∈ news) (hd : IsOrd c dst src off imm more d') (hk : Builtin.bitAnd c 7 = 6) :
   Ct w mean mg mb 12 144 (news) True [.ref ox] (fun v ns => ∃ (t : Tok), v = .str (Str.ofString "jmp32") t ∧ ns = news) := by
  k_extra "Z1"
  exact @kap_all S_c_class6 c_class6_k ⟨w, mean, mg, mb, dp, un, gd, outer, A₀, base, h₀, L, s, Q, E⟩ news ox dx d' c dst src off imm more hm1 hm2 hd hk
end
section
set_option maxHeartbeats 1000000
example : True := by
  k_with "T:k_fmods" => ((fail_if_success k_extra "off D1b"); skip)
  k_with ".UnrEnd" => ((fail_if_success k_extra "off D1b"); (k_here; k_dflt (first | (refine' unrEnd_pre [] ?FBH ?NBH ?ofBH ?_; (case FBH => k_asm); (case NBH => k_asm); (case ofBH => ((try simp only [List.nil_append, List.cons_append]); k_all))) | (refine' unrEnd_pre [_] ?FBH ?NBH ?ofBH ?_; (case FBH => k_asm); (case NBH => k_asm); (case ofBH => ((try simp only [List.nil_append, List.cons_append]); k_all))) | (refine' unrEnd_pre [_, _] ?FBH ?NBH ?ofBH ?_; (case FBH => k_asm); (case NBH => k_asm); (case ofBH => ((try simp only [List.nil_append, List.cons_append]); k_all))) | (refine' unrEnd_pre [_, _, _] ?FBH ?NBH ?ofBH ?_; (case FBH => k_asm); (case NBH => k_asm); (case ofBH => ((try simp only [List.nil_append, List.cons_append]); k_all))) | (refine' unrEnd_pre [_, _, _, _] ?FBH ?NBH ?ofBH ?_; (case FBH => k_asm); (case NBH => k_asm); (case ofBH => ((try simp only [List.nil_append, List.cons_append]); k_all))) | (refine' unrEnd_pre [_, _, _, _, _] ?FBH ?NBH ?ofBH ?_; (case FBH => k_asm); (case NBH => k_asm); (case ofBH => ((try simp only [List.nil_append, List.cons_append]); k_all))) | (refine' unrEnd_pre [_, _, _, _, _, _] ?FBH ?NBH ?ofBH ?_; (case FBH => k_asm); (case NBH => k_asm); (case ofBH => ((try simp only [List.nil_append, List.cons_append]); k_all)))); (try simp only [List.nil_append, List.cons_append])))
  k_with ".CompEnd" => ((fail_if_success k_extra "off D1b"); (k_here; k_dflt (refine' compEnd_all ?FBI ?NBI ?ofBI ?_; (case FBI => k_asm); (case NBI => k_asm); (case ofBI => assumption))))
  trivial
def S_c_wide0 (kx : Cx) : Prop := ∀ (news : Led) (ox dx : Nat) (d' : Obj) (c dst src off imm more : Int) (hm1 : (ox, instObj 133 dx) ∈ news) (hm2 : (dx, d') ∈ news) (hd : IsOrd c dst src off imm more d') (hc : (c == 24) = false), Bd kx 7 (Str.ofString "is_wide") (scopeAt "is_wide") 179 178 (bodyAt "is_wide") (fun yq => [(Str.ofString "order", (.ref ox : Value))].reverse.lookup yq) (news) (fun v ns => v = .bool false ∧ ns = news)
noncomputable def kap_c_wide0 : Cx := kapOf S_c_wide0
theorem c_wide0_k : S_c_wide0 kap_c_wide0 := by
  intro news ox dx d' c dst src off imm more hm1 hm2 hd hc
  have e1 : (scopeAt "is_wide") = (scopeAt "is_wide") := rfl
  conv at e1 => rhs; whnf
  have e2 : (bodyAt "is_wide") = (bodyAt "is_wide") := rfl
  conv at e2 => rhs; whnf
  (try dsimp only at e1)
  (try dsimp only at e2)
  refine @bd_lit _ _ _ _ _ _ _ _ _ _ _ _ e1 e2 ?_
  clear e1 e2
  unfold Bd
  k_fill
  intro h tk HB HF HX HN HT hdp hun hE hret
  have HW : Wf kap_c_wide0 7 := ⟨HB, HX, HT, hdp, hun⟩
  obtain ⟨h1, h2, h3, h4, h5, h6, t1, t2, t3, t4, t5, t6, v1, v2, v3, v4, v5, v6, rfl⟩ := hd
  have HN1 := news_add hm1 (news_add hm2 HN HN) HN
  clear HN
  refine frLet HF ?_
  intro mk HF9
  clear HF
  refine ledLet (by with_reducible assumption) ?_
  intro nk HN9
  k_steps
  all_goals (refine' hret _ _ _ _ _ ⟨congrArg Value.bool ?va, rfl⟩ ?bas ?led
             case bas => k_asm
             case va => (first | rfl | assumption | (simp only [*]; done))
             case led => k_extra "Z3")
theorem c_wide0 {w : World} {mean : ExcName → Option Value} {mg mb : Str → Option Value} {news : Led} {ox dx : Nat} {d' : Obj} {c dst src off imm more : Int} (hm1 : (ox, instObj 133 dx) ∈ news) (hm2 : (dx, d') ∈ news) (hd : IsOrd c dst src off imm more d') (hc : (c == 24) = false) :
   Ct w mean mg mb 8 179 (news) True [.ref ox] (fun v ns => v = .bool false ∧ ns = news) := by
  k_extra "Z1"
  exact @kap_all S_c_wide0 c_wide0_k ⟨w, mean, mg, mb, dp, un, gd, outer, A₀, base, h₀, L, s, Q, E⟩ news ox dx d' c dst src off imm more hm1 hm2 hd hc
theorem c_wide0_v (kx : Cx) (cn8 : Str) (cs8 : Scope) (a8 : Addr) (ccd8 : Value) (cl8 : List (Str × Addr)) (zk : cs8.kind = .function) {D8 : Nat} (zW : Wf kx D8) (zD : Nat.ble 8 D8 = true) {news : Led} {ox dx : Nat} {d' : Obj} {c dst src off imm more : Int} {m8 : Str → Option Value} {h9 : Heap} {tk9 : Nat} {Q8 E8 : Value → Shared → Prop} (zF : Fr kx.h₀ kx.L h9 m8) (zN : News kx.h₀ kx.L h9 ((news))) (hm1 : (ox, instObj 133 dx) ∈ news) (hm2 : (dx, d') ∈ news) (hd : IsOrd c dst src off imm more d') (hc : (c == 24) = false)
   (kk9 : ∀ (h' : Heap) (tk' : Nat), let n' : Led := (news); Fr kx.h₀ kx.L h' m8 → News kx.h₀ kx.L h' n' → Q8 (.bool false) (kSt kx h' tk')) : wpAny (kMd kx) (kAr kx (envX cn8 cs8 kx.L a8 ccd8 cl8)) (call (.ref 179) [.ref ox]) Q8 E8 (kSt kx h9 tk9) := by
  refine cv_use kx cn8 cs8 a8 ccd8 cl8 zk zW zD (c_wide0 (hm1 := hm1) (hm2 := hm2) (hd := hd) (hc := hc)) zF zN ?_
  rintro v news' h' tk' ⟨rfl, rfl⟩ F N
  exact kk9 _ _ F N
def S_c_ilc2 (kx : Cx) : Prop := ∀ (news : Led) (ox dx : Nat) (d' : Obj) (c dst src off imm more : Int) (hm1 : (ox, instObj 133 dx) ∈ news) (hm2 : (dx, d') ∈ news) (hd : IsOrd c dst src off imm more d') (hc : (c == 133) = false), Bd kx 7 (Str.ofString "is_local_call") (scopeAt "is_local_call") 186 185 (bodyAt "is_local_call") (fun yq => [(Str.ofString "order", (.ref ox : Value))].reverse.lookup yq) (news) (fun v ns => v = .bool false ∧ ns = news)
noncomputable def kap_c_ilc2 : Cx := kapOf S_c_ilc2
theorem c_ilc2_k : S_c_ilc2 kap_c_ilc2 := by
  intro news ox dx d' c dst src off imm more hm1 hm2 hd hc
  have e1 : (scopeAt "is_local_call") = (scopeAt "is_local_call") := rfl
  conv at e1 => rhs; whnf
  have e2 : (bodyAt "is_local_call") = (bodyAt "is_local_call") := rfl
  conv at e2 => rhs; whnf
  (try dsimp only at e1)
  (try dsimp only at e2)
  refine @bd_lit _ _ _ _ _ _ _ _ _ _ _ _ e1 e2 ?_
  clear e1 e2
  unfold Bd
  k_fill
  intro h tk HB HF HX HN HT hdp hun hE hret
  have HW : Wf kap_c_ilc2 7 := ⟨HB, HX, HT, hdp, hun⟩
  obtain ⟨h1, h2, h3, h4, h5, h6, t1, t2, t3, t4, t5, t6, v1, v2, v3, v4, v5, v6, rfl⟩ := hd
  have HN1 := news_add hm1 (news_add hm2 HN HN) HN
  clear HN
  refine frLet HF ?_
  intro mk HF9
  clear HF
  refine ledLet (by with_reducible assumption) ?_
  intro nk HN9
  k_steps
  all_goals (refine' hret _ _ _ _ _ ⟨congrArg Value.bool ?va, rfl⟩ ?bas ?led
             case bas => k_asm
             case va => (first | rfl | assumption | (simp only [*]; done))
             case led => k_extra "Z3")
theorem c_ilc2 {w : World} {mean : ExcName → Option Value} {mg mb : Str → Option Value} {news : Led} {ox dx : Nat} {d' : Obj} {c dst src off imm more : Int} (hm1 : (ox, instObj 133 dx) ∈ news) (hm2 : (dx, d') ∈ news) (hd : IsOrd c dst src off imm more d') (hc : (c == 133) = false) :
   Ct w mean mg mb 8 186 (news) True [.ref ox] (fun v ns => v = .bool false ∧ ns = news) := by
  k_extra "Z1"
  exact @kap_all S_c_ilc2 c_ilc2_k ⟨w, mean, mg, mb, dp, un, gd, outer, A₀, base, h₀, L, s, Q, E⟩ news ox dx d' c dst src off imm more hm1 hm2 hd hc
theorem c_ilc2_v (kx : Cx) (cn8 : Str) (cs8 : Scope) (a8 : Addr) (ccd8 : Value) (cl8 : List (Str × Addr)) (zk : cs8.kind = .function) {D8 : Nat} (zW : Wf kx D8) (zD : Nat.ble 8 D8 = true) {news : Led} {ox dx : Nat} {d' : Obj} {c dst src off imm more : Int} {m8 : Str → Option Value} {h9 : Heap} {tk9 : Nat} {Q8 E8 : Value → Shared → Prop} (zF : Fr kx.h₀ kx.L h9 m8) (zN : News kx.h₀ kx.L h9 ((news))) (hm1 : (ox, instObj 133 dx) ∈ news) (hm2 : (dx, d') ∈ news) (hd : IsOrd c dst src off imm more d') (hc : (c == 133) = false)
   (kk9 : ∀ (h' : Heap) (tk' : Nat), let n' : Led := (news); Fr kx.h₀ kx.L h' m8 → News kx.h₀ kx.L h' n' → Q8 (.bool false) (kSt kx h' tk')) : wpAny (kMd kx) (kAr kx (envX cn8 cs8 kx.L a8 ccd8 cl8)) (call (.ref 186) [.ref ox]) Q8 E8 (kSt kx h9 tk9) := by
  refine cv_use kx cn8 cs8 a8 ccd8 cl8 zk zW zD (c_ilc2 (hm1 := hm1) (hm2 := hm2) (hd := hd) (hc := hc)) zF zN ?_
  rintro v news' h' tk' ⟨rfl, rfl⟩ F N
  exact kk9 _ _ F N
example : True := by
  k_with "off D1b" => skip
  trivial
end
section
set_option maxHeartbeats 1000000
def S_c_oper5 (kx : Cx) : Prop := ∀ (news : Led) (ox dx : Nat) (d' : Obj) (c dst src off imm more : Int) (o : Str) (hm1 : (ox, instObj 133 dx) ∈ news) (hm2 : (dx, d') ∈ news) (hd : IsOrd c dst src off imm more d') (ho : o ∈ ops) (hk : Builtin.bitAnd c 7 = 5) (hi : c.fdiv (2 ^ Int.toNat 4) = spot o), Bd kx 19 (Str.ofString "operation") (scopeAt "operation") 165 164 (bodyAt "operation") (fun yq => [(Str.ofString "order", (.ref ox : Value))].reverse.lookup yq) (news) (fun v ns => ∃ (t : Tok), v = .str o t ∧ ns = news)
noncomputable def kap_c_oper5 : Cx := kapOf S_c_oper5
theorem c_oper5_k : S_c_oper5 kap_c_oper5 := by
  intro news ox dx d' c dst src off imm more o hm1 hm2 hd ho hk hi
  have e1 : (scopeAt "operation") = (scopeAt "operation") := rfl
  conv at e1 => rhs; whnf
  have e2 : (bodyAt "operation") = (bodyAt "operation") := rfl
  conv at e2 => rhs; whnf
  (try dsimp only at e1)
  (try dsimp only at e2)
  refine @bd_lit _ _ _ _ _ _ _ _ _ _ _ _ e1 e2 ?_
  clear e1 e2
  unfold Bd
  k_fill
  intro h tk HB HF HX HN HT hdp hun hE hret
  have HW : Wf kap_c_oper5 19 := ⟨HB, HX, HT, hdp, hun⟩
  obtain ⟨h1, h2, h3, h4, h5, h6, t1, t2, t3, t4, t5, t6, v1, v2, v3, v4, v5, v6, rfl⟩ := hd
  have HN1 := news_add hm1 (news_add hm2 HN HN) HN
  clear HN
  have e7 : (Builtin.bitAnd c 7 == 4) = false := by rw [hk]; rfl
  have e8 : (Builtin.bitAnd c 7 == 7) = false := by rw [hk]; rfl
  have e9 : (Builtin.bitAnd c 7 == 5) = true := by rw [hk]; rfl
  have e10 : (Builtin.bitAnd c 7 == 6) = false := by rw [hk]; rfl
  have ⟨m1, m2, m3, m4⟩ := spot_in ho
  have e11 : ¬ (c.fdiv (2 ^ Int.toNat 4) ≥ 14) := by rw [hi]; omega
  have e12 : c.fdiv (2 ^ Int.toNat 4) < 14 := by rw [hi]; omega
  have e13 : 0 ≤ c.fdiv (2 ^ Int.toNat 4) := by rw [hi]; omega
  refine frLet HF ?_
  intro mk HF9
  clear HF
  refine ledLet (by with_reducible assumption) ?_
  intro nk HN9
  k_steps
  all_goals (refine' hret _ _ _ _ _ ⟨_, congrArg (Value.str · _) ?va, rfl⟩ ?bas ?led
             case bas => k_asm
             case va => (show PySem.Txt.strip (PySem.Txt.slice _ _ _) = o; rw [hi]; exact jtext_of ho)
             case led => k_extra "Z3")
theorem c_oper5 {w : World} {mean : ExcName → Option Value} {mg mb : Str → Option Value} {news : Led} {ox dx : Nat} {d' : Obj} {c dst src off imm more : Int} {o : Str} (hm1 : (ox, instObj 133 dx) ∈ news) (hm2 : (dx, d') ∈ news) (hd : IsOrd c dst src off imm more d') (ho : o ∈ ops) (hk : Builtin.bitAnd c 7 = 5) (hi : c.fdiv (2 ^ Int.toNat 4) = spot o) :
   Ct w mean mg mb 20 165 (news) True [.ref ox] (fun v ns => ∃ (t : Tok), v = .str o t ∧ ns = news) := by
  k_extra "Z1"
  exact @kap_all S_c_oper5 c_oper5_k ⟨w, mean, mg, mb, dp, un, gd, outer, A₀, base, h₀, L, s, Q, E⟩ news ox dx d' c dst src off imm more o hm1 hm2 hd ho hk hi
def S_c_oper6 (kx : Cx) : Prop := ∀ (news : Led) (ox dx : Nat) (d' : Obj) (c dst src off imm more : Int) (o : Str) (hm1 : (ox, instObj 133 dx) ∈ news) (hm2 : (dx, d') ∈ news) (hd : IsOrd c dst src off imm more d') (ho : o ∈ ops) (hk : Builtin.bitAnd c 7 = 6) (hi : c.fdiv (2 ^ Int.toNat 4) = spot o), Bd kx 19 (Str.ofString "operation") (scopeAt "operation") 165 164 (bodyAt "operation") (fun yq => [(Str.ofString "order", (.ref ox : Value))].reverse.lookup yq) (news) (fun v ns => ∃ (t : Tok), v = .str o t ∧ ns = news)
noncomputable def kap_c_oper6 : Cx := kapOf S_c_oper6
theorem c_oper6_k : S_c_oper6 kap_c_oper6 := by
  intro news ox dx d' c dst src off imm more o hm1 hm2 hd ho hk hi
  have e1 : (scopeAt "operation") = (scopeAt "operation") := rfl
  conv at e1 => rhs; whnf
  have e2 : (bodyAt "operation") = (bodyAt "operation") := rfl
  conv at e2 => rhs; whnf
  (try dsimp only at e1)
  (try dsimp only at e2)
  refine @bd_lit _ _ _ _ _ _ _ _ _ _ _ _ e1 e2 ?_
  clear e1 e2
  unfold Bd
  k_fill
  intro h tk HB HF HX HN HT hdp hun hE hret
  have HW : Wf kap_c_oper6 19 := ⟨HB, HX, HT, hdp, hun⟩
  obtain ⟨h1, h2, h3, h4, h5, h6, t1, t2, t3, t4, t5, t6, v1, v2, v3, v4, v5, v6, rfl⟩ := hd
  have HN1 := news_add hm1 (news_add hm2 HN HN) HN
  clear HN
  have e7 : (Builtin.bitAnd c 7 == 4) = false := by rw [hk]; rfl
  have e8 : (Builtin.bitAnd c 7 == 7) = false := by rw [hk]; rfl
  have e9 : (Builtin.bitAnd c 7 == 5) = false := by rw [hk]; rfl
  have e10 : (Builtin.bitAnd c 7 == 6) = true := by rw [hk]; rfl
  have ⟨m1, m2, m3, m4⟩ := spot_in ho
  have e11 : ¬ (c.fdiv (2 ^ Int.toNat 4) ≥ 14) := by rw [hi]; omega
  have e12 : c.fdiv (2 ^ Int.toNat 4) < 14 := by rw [hi]; omega
  have e13 : 0 ≤ c.fdiv (2 ^ Int.toNat 4) := by rw [hi]; omega
  refine frLet HF ?_
  intro mk HF9
  clear HF
  refine ledLet (by with_reducible assumption) ?_
  intro nk HN9
  k_steps
  all_goals (refine' hret _ _ _ _ _ ⟨_, congrArg (Value.str · _) ?va, rfl⟩ ?bas ?led
             case bas => k_asm
             case va => (show PySem.Txt.strip (PySem.Txt.slice _ _ _) = o; rw [hi]; exact jtext_of ho)
             case led => k_extra "Z3")
theorem c_oper6 {w : World} {mean : ExcName → Option Value} {mg mb : Str → Option Value} {news : Led} {ox dx : Nat} {d' : Obj} {c dst src off imm more : Int} {o : Str} (hm1 : (ox, instObj 133 dx) ∈ news) (hm2 : (dx, d') ∈ news) (hd : IsOrd c dst src off imm more d') (ho : o ∈ ops) (hk : Builtin.bitAnd c 7 = 6) (hi : c.fdiv (2 ^ Int.toNat 4) = spot o) :
   Ct w mean mg mb 20 165 (news) True [.ref ox] (fun v ns => ∃ (t : Tok), v = .str o t ∧ ns = news) := by
  k_extra "Z1"
  exact @kap_all S_c_oper6 c_oper6_k ⟨w, mean, mg, mb, dp, un, gd, outer, A₀, base, h₀, L, s, Q, E⟩ news ox dx d' c dst src off imm more o hm1 hm2 hd ho hk hi
end
section
set_option maxHeartbeats 1000000
example : True := by
  k_with "nolean" => fail_if_success k_extra "off D3"
  trivial
def condT (o : Str) : Str := if o = Str.ofString "eq" then Str.ofString "e" else if o = Str.ofString "ne" then Str.ofString "ne" else if o = Str.ofString "gt" then Str.ofString "a" else if o = Str.ofString "ge" then Str.ofString "ae" else if o = Str.ofString "lt" then Str.ofString "b" else if o = Str.ofString "le" then Str.ofString "be" else if o = Str.ofString "sgt" then Str.ofString "g" else if o = Str.ofString "sge" then Str.ofString "ge" else if o = Str.ofString "slt" then Str.ofString "l" else if o = Str.ofString "sle" then Str.ofString "le" else if o = Str.ofString "set" then Str.ofString "ne" else Str.ofString ""
theorem cond_look {o : Str} (ho : o ∈ ops) {u0 u1 u2 u3 u4 u5 u6 u7 u8 u9 u10 u11 u12 u13 u14 u15 u16 u17 u18 u19 u20 u21 : Tok} : PySem.Spec.lookup (PyData.str o) (PyProof.Rows.strData [(Value.str (Str.ofString "eq") u0, Value.str (Str.ofString "e") u1), (Value.str (Str.ofString "ne") u2, Value.str (Str.ofString "ne") u3), (Value.str (Str.ofString "gt") u4, Value.str (Str.ofString "a") u5), (Value.str (Str.ofString "ge") u6, Value.str (Str.ofString "ae") u7), (Value.str (Str.ofString "lt") u8, Value.str (Str.ofString "b") u9), (Value.str (Str.ofString "le") u10, Value.str (Str.ofString "be") u11), (Value.str (Str.ofString "sgt") u12, Value.str (Str.ofString "g") u13), (Value.str (Str.ofString "sge") u14, Value.str (Str.ofString "ge") u15), (Value.str (Str.ofString "slt") u16, Value.str (Str.ofString "l") u17), (Value.str (Str.ofString "sle") u18, Value.str (Str.ofString "le") u19), (Value.str (Str.ofString "set") u20, Value.str (Str.ofString "ne") u21)]) = some (.str (condT o)) := by
  simp only [ops, List.mem_cons, List.not_mem_nil, or_false] at ho
  rcases ho with rfl | rfl | rfl | rfl | rfl | rfl | rfl | rfl | rfl | rfl | rfl <;> kernel_rfl
theorem getItem_look {prog : Program} {w : World} {K : Type} [DecidableEq K] {knd : KeyKind prog w K} {enc : K → PyData} {A : Around} {E : Value → Shared → Prop} {s : Shared} {d : Nat} {D : List (PyData × PyData)} {k : K} {key : Value} {dv : PyData} {Q : Value → Shared → Prop} (henc : ∀ a b, PySem.Spec.same (enc a) (enc b) = decide (a = b)) (hkey : knd.is k key = true) (T : TabAt knd enc s.heap d D) (hl : PySem.Spec.lookup (enc k) D = some dv) (h : ∀ v, PyProof.V.Flat v dv → Q v { s with toks := s.toks + 1 }) :
    wpAny (model prog w) A (getItem (.ref d) key) Q E s := by
  obtain ⟨lo, kvs, hd, hf⟩ := T
  obtain ⟨v, hv, hfl⟩ := hf.of_lookup henc hl
  exact wpAny_getItem_of hkey hd.mapOf hv (h v hfl)
example : True := by
  k_with ".getItem ref str" => ((fail_if_success k_extra "off D3"); (k_here; k_dflt (refine' getItem_look (knd := PySem.strKind _ _) (enc := PyData.str) PyProof.V.same_str (strKind_is _ _ _ _) ?TBJ (cond_look ?hoBJ) (fun v' hv' => ?_); (case TBJ => k_tabat); (case hoBJ => assumption); obtain ⟨t', hv''⟩ := PyProof.V.Flat.str_inv hv'; subst hv'')))
  trivial
theorem c_condof {w : World} {mean : ExcName → Option Value} {mg mb : Str → Option Value} {news : Led} {o : Str} {t : Tok} (ho : o ∈ ops) :
   Ct w mean mg mb 12 344 (news) True [.str o t] (fun v ns => ∃ (t : Tok), v = .str (condT o) t ∧ ns = news) := by
  unfold Ct
  k_fill
  intro dp un gd cn cs fa ccd cl outer A₀ base h₀ L m s Q E HB HF HX HN HT hkind hp hdp hun hret
  refine wpAny_call ?_
  k_dflt cell_enter
  k_steps
  all_goals (refine' hret _ _ _ _ ⟨_, rfl, rfl⟩ ?bas ?led
             case bas => k_asm
             case led => k_extra "Z3")
theorem c_condof_v (kx : Cx) (cn8 : Str) (cs8 : Scope) (a8 : Addr) (ccd8 : Value) (cl8 : List (Str × Addr)) (zk : cs8.kind = .function) {D8 : Nat} (zW : Wf kx D8) (zD : Nat.ble 12 D8 = true) {news : Led} {o : Str} {t : Tok} {m8 : Str → Option Value} {h9 : Heap} {tk9 : Nat} {Q8 E8 : Value → Shared → Prop} (zF : Fr kx.h₀ kx.L h9 m8) (zN : News kx.h₀ kx.L h9 ((news))) (ho : o ∈ ops)
   (kk9 : ∀ (t : Tok) (h' : Heap) (tk' : Nat), let n' : Led := (news); Fr kx.h₀ kx.L h' m8 → News kx.h₀ kx.L h' n' → Q8 (.str (condT o) t) (kSt kx h' tk')) : wpAny (kMd kx) (kAr kx (envX cn8 cs8 kx.L a8 ccd8 cl8)) (call (.ref 344) [.str o t]) Q8 E8 (kSt kx h9 tk9) := by
  refine cv_use kx cn8 cs8 a8 ccd8 cl8 zk zW zD (c_condof (ho := ho)) zF zN ?_
  rintro v news' h' tk' ⟨t, rfl, rfl⟩ F N
  exact kk9 t _ _ F N
example : True := by
  k_with "off D3" => skip
  trivial
end
example : True := by
  k_with "T:k_fmods" => skip
  k_with ".UnrEnd" => (k_here; k_dflt (first | (refine' unrEnd_pre [] ?FBL ?NBL ?ofBL ?_; (case FBL => k_asm); (case NBL => k_asm); (case ofBL => ((try simp only [List.nil_append, List.cons_append]); k_all))) | (refine' unrEnd_pre [_] ?FBL ?NBL ?ofBL ?_; (case FBL => k_asm); (case NBL => k_asm); (case ofBL => ((try simp only [List.nil_append, List.cons_append]); k_all))) | (refine' unrEnd_pre [_, _] ?FBL ?NBL ?ofBL ?_; (case FBL => k_asm); (case NBL => k_asm); (case ofBL => ((try simp only [List.nil_append, List.cons_append]); k_all))) | (refine' unrEnd_pre [_, _, _] ?FBL ?NBL ?ofBL ?_; (case FBL => k_asm); (case NBL => k_asm); (case ofBL => ((try simp only [List.nil_append, List.cons_append]); k_all))) | (refine' unrEnd_pre [_, _, _, _] ?FBL ?NBL ?ofBL ?_; (case FBL => k_asm); (case NBL => k_asm); (case ofBL => ((try simp only [List.nil_append, List.cons_append]); k_all))) | (refine' unrEnd_pre [_, _, _, _, _] ?FBL ?NBL ?ofBL ?_; (case FBL => k_asm); (case NBL => k_asm); (case ofBL => ((try simp only [List.nil_append, List.cons_append]); k_all))) | (refine' unrEnd_pre [_, _, _, _, _, _] ?FBL ?NBL ?ofBL ?_; (case FBL => k_asm); (case NBL => k_asm); (case ofBL => ((try simp only [List.nil_append, List.cons_append]); k_all)))); (try simp only [List.nil_append, List.cons_append]))
  k_with ".CompEnd" => (k_here; k_dflt (refine' compEnd_all ?FBM ?NBM ?ofBM ?_; (case FBM => k_asm); (case NBM => k_asm); (case ofBM => assumption)))
  trivial
section
set_option maxHeartbeats 1000000
example : True := by
  k_with ".call ref" => (k_here; (with_reducible show wpAny _ _ (call (Value.ref 179) [_]) _ _ _); k_dflt (refine c_wide0_v _ _ _ _ _ _ rfl (zW := by assumption) (zD := by exact rfl) (zF := by k_asm) (zN := by k_asm) (hm1 := by walk_at "Mem") (hm2 := by walk_at "Mem") (hd := by (first | assumption | exact isOrd_mk)) (hc := by assumption) (kk9 := ?_)); walk_at "After")
  k_with ".call ref" => (k_here; (with_reducible show wpAny _ _ (call (Value.ref 186) [_]) _ _ _); k_dflt (refine c_ilc2_v _ _ _ _ _ _ rfl (zW := by assumption) (zD := by exact rfl) (zF := by k_asm) (zN := by k_asm) (hm1 := by walk_at "Mem") (hm2 := by walk_at "Mem") (hd := by (first | assumption | exact isOrd_mk)) (hc := by assumption) (kk9 := ?_)); walk_at "After")
  k_with ".eval Set" => ((fail_if_success k_extra "off D4"); (k_here; k_dflt (refine' eval_set0 ?FBP ?NBP ?XBP ?cBP ?_; (case FBP => k_asm); (case NBP => k_asm); (case XBP => k_asm); (case cBP => first | k_is | kernel_rfl!)); intro d'Z h'Z tk'Z u'Z led'Z hled'Z F'Z N'Z l1Z; (try k_lt l1Z)))
  k_with ".call builtin:sorted" => ((fail_if_success k_extra "off D4"); (k_here; (with_reducible show wpAny _ _ (call (Value.builtin "sorted") [Value.ref _]) _ _ _); k_dflt (refine' sorted_set1 ?hhBQ ?hlBQ ?FBQ ?NBQ ?hdBQ ?_; (case hhBQ => rfl); (case hlBQ => assumption); (case FBQ => k_asm); (case NBQ => k_asm); (case hdBQ => (repeat (first | exact List.Mem.head _ | assumption | refine List.Mem.tail _ ?_)))); intro D'Z h'Z tk'Z n'Z u'Z F'Z N'Z l1Z; (try k_lt l1Z)))
  trivial
abbrev kInt (w : World) := PySem.intKind PySem.Challenge.rw_ok0177_01.row.prog w
inductive IsProg (w : World) (ox ny lz px : Nat) (T : Led) : Prop where
  | mk (pd ol sl bd sb c1 c2 : Nat) (o : Obj) (kvs : List (Int × Value)) (D : List (PyData × PyData)) (k1 k2 k3 k4 k5 : Int) (t1 t2 t3 t4 t5 u1 s1 s2 s3 : Tok) (q9 : T = [(px, instObj 450 pd), (pd, dictOf [⟨k1, .str (Str.ofString "orders") t1, .ref ol⟩, ⟨k2, .str (Str.ofString "slots") t2, .ref sl⟩, ⟨k3, .str (Str.ofString "by_slot") t3, .ref bd⟩, ⟨k4, .str (Str.ofString "many_slots") t4, .int 3 u1⟩, ⟨k5, .str (Str.ofString "subs") t5, .ref sb⟩] 5), (ol, listOf #[.ref ox, .ref ny, .ref lz] c1), (sl, listOf #[.int 0 s1, .int 1 s2, .int 2 s3] c2), (bd, o)] ∧ (bd == sysModules) = false ∧ o.IsDictOf (kInt w) kvs ∧ PyProof.V.FlatPairs PyData.int kvs D ∧ PySem.Spec.lookup (.int 1) D = some (.int 1) ∧ PySem.Spec.lookup (.int 2) D = some (.int 2)) : IsProg w ox ny lz px T
theorem isProg_mk {w : World} {ox ny lz px pd ol sl bd sb c1 c2 : Nat} {o : Obj} {kvs : List (Int × Value)} {D : List (PyData × PyData)} {k1 k2 k3 k4 k5 : Int} {t1 t2 t3 t4 t5 u1 s1 s2 s3 : Tok} (lo : (bd == sysModules) = false) (hd : o.IsDictOf (kInt w) kvs) (hf : PyProof.V.FlatPairs PyData.int kvs D) (e1 : PySem.Spec.lookup (.int 1) D = some (.int 1)) (e2 : PySem.Spec.lookup (.int 2) D = some (.int 2)) : IsProg w ox ny lz px [(px, instObj 450 pd), (pd, dictOf [⟨k1, .str (Str.ofString "orders") t1, .ref ol⟩, ⟨k2, .str (Str.ofString "slots") t2, .ref sl⟩, ⟨k3, .str (Str.ofString "by_slot") t3, .ref bd⟩, ⟨k4, .str (Str.ofString "many_slots") t4, .int 3 u1⟩, ⟨k5, .str (Str.ofString "subs") t5, .ref sb⟩] 5), (ol, listOf #[.ref ox, .ref ny, .ref lz] c1), (sl, listOf #[.int 0 s1, .int 1 s2, .int 2 s3] c2), (bd, o)] :=
  ⟨_, _, _, _, _, _, _, _, _, _, _, _, _, _, _, _, _, _, _, _, _, _, _, _, rfl, lo, hd, hf, e1, e2⟩
theorem c_prog_i {w : World} {news : Led} {ox ny lz : Nat} {h₀ : Heap} {L : Addr} {m : Str → Option Value} {s : Shared} {Q : Value → Shared → Prop}
   (kk9 : ∀ v news' h' tk', (fun (v : Value) (ns : Led) => ∃ (px : Nat) (T : Led), v = .ref px ∧ ns = T ++ news ∧ IsProg w ox ny lz px T) v news' → Fr h₀ L h' m → News h₀ L h' news' → Q v { s with heap := h', toks := tk' }) :
   ∀ (px : Nat) (T : Led) (h' : Heap) (tk' : Nat), (IsProg w ox ny lz px T) → Fr h₀ L h' m → News h₀ L h' (T ++ news) → Q (.ref px) { s with heap := h', toks := tk' } := by
  intro px T h' tk' f09 F N
  exact kk9 _ _ _ _ ⟨px, T, rfl, rfl, f09⟩ F N
def S_c_prog (kx : Cx) : Prop := ∀ (news : Led) (ol n : Nat) (ox dx ny dy lz dz : Nat) (d1 d2 d3 : Obj) (c dst src off imm more : Int) (hm1 : (ox, instObj 133 dx) ∈ news) (hm2 : (dx, d1) ∈ news) (hd1 : IsOrd c dst src off imm more d1) (hm3 : (ny, instObj 133 dy) ∈ news) (hm4 : (dy, d2) ∈ news) (hd2 : IsOrd 135 0 0 0 0 0 d2) (hm5 : (lz, instObj 133 dz) ∈ news) (hm6 : (dz, d3) ∈ news) (hd3 : IsOrd 149 0 0 0 0 0 d3) (hm7 : (ol, listOf #[.ref ox, .ref ny, .ref lz] n) ∈ news) (hc1 : (c == 24) = false) (hc2 : (c == 133) = false) (x9 dx9 : Nat) (l19 : AllLt dx9 (news)) (l29 : dx9 < x9), Bd kx 21 (Str.ofString "Program.__init__") (methScope "Program" "__init__") 407 406 (methBody "Program" "__init__") (fun yq => [(Str.ofString "self", (.ref x9 : Value)), (Str.ofString "orders", (.ref ol : Value))].reverse.lookup yq) ((x9, instObj 450 dx9) :: (dx9, dictOf [] 0) :: (news)) (fun v9 ns9 => v9 = .none ∧ ((fun (v : Value) (ns : Led) => ∃ (px : Nat) (T : Led), v = .ref px ∧ ns = T ++ news ∧ IsProg kx.w ox ny lz px T)) (Value.ref x9) ns9)
noncomputable def kap_c_prog : Cx := kapOf S_c_prog
example : True := by
  k_with "T:k_mem" => ((fail_if_success k_extra "off D4"); assumption)
  trivial
set_option maxHeartbeats 8000000 in
theorem c_prog_k : S_c_prog kap_c_prog := by
  intro news ol n ox dx ny dy lz dz d1 d2 d3 c dst src off imm more hm1 hm2 hd1 hm3 hm4 hd2 hm5 hm6 hd3 hm7 hc1 hc2 x9 dx9 l19 l29
  have e1 : (methScope "Program" "__init__") = (methScope "Program" "__init__") := rfl
  conv at e1 => rhs; whnf
  have e2 : (methBody "Program" "__init__") = (methBody "Program" "__init__") := rfl
  conv at e2 => rhs; whnf
  (try dsimp only at e1)
  (try dsimp only at e2)
  refine @bd_lit _ _ _ _ _ _ _ _ _ _ _ _ e1 e2 ?_
  clear e1 e2
  unfold Bd
  k_fill
  intro h tk HB HF HX HC HT hdp hun hE hret
  have HW : Wf kap_c_prog 21 := ⟨HB, HX, HT, hdp, hun⟩
  have HN := news_sub HC (sub_tl (sub_tl sub_refl))
  replace hret := fun mq => c_prog_i (Q := fun v9 s9 => v9 = .ref x9 → kap_c_prog.Q .none s9) (fun v9 ns9 h9 tk9 r9 F9 N9 e9 => hret mq .none ns9 h9 tk9 ⟨rfl, e9 ▸ r9⟩ F9 N9)
  have ee1 : ((135 : Int) == 24) = false := rfl
  have ee2 : ((149 : Int) == 24) = false := rfl
  have ee3 : ((135 : Int) == 133) = false := rfl
  have ee4 : ((149 : Int) == 133) = false := rfl
  have HN1 := news_add hm7 HN HN
  clear HN
  have HN2 := news_add (List.Mem.head _) (news_add (List.Mem.tail _ (List.Mem.head _)) HN1 HC) HC
  clear HN1 HC
  refine frLet HF ?_
  intro mk HF9
  clear HF
  refine ledLet (by with_reducible assumption) ?_
  intro nk HN9
  k_steps
  all_goals (refine' hret _ _ _ _ _ (isProg_mk (lo := ?lo) (hd := ?hd) (hf := ?hf) ?e1 ?e2) ?bas ?led rfl
             case led => k_extra "Z0"
             case bas => k_asm
             case lo => assumption
             case hd => assumption
             case hf => assumption
             case e1 => rfl
             case e2 => rfl)
theorem c_prog {w : World} {mean : ExcName → Option Value} {mg mb : Str → Option Value} {news : Led} {ol n : Nat} {ox dx ny dy lz dz : Nat} {d1 d2 d3 : Obj} {c dst src off imm more : Int} (hm1 : (ox, instObj 133 dx) ∈ news) (hm2 : (dx, d1) ∈ news) (hd1 : IsOrd c dst src off imm more d1) (hm3 : (ny, instObj 133 dy) ∈ news) (hm4 : (dy, d2) ∈ news) (hd2 : IsOrd 135 0 0 0 0 0 d2) (hm5 : (lz, instObj 133 dz) ∈ news) (hm6 : (dz, d3) ∈ news) (hd3 : IsOrd 149 0 0 0 0 0 d3) (hm7 : (ol, listOf #[.ref ox, .ref ny, .ref lz] n) ∈ news) (hc1 : (c == 24) = false) (hc2 : (c == 133) = false) :
   Ct w mean mg mb 24 450 (news) True [.ref ol] (fun v ns => ∃ (px : Nat) (T : Led), v = .ref px ∧ ns = T ++ news ∧ IsProg w ox ny lz px T) := by
  refine ct_cls (by k_is) (by k_is) (by k_is) (fun x9 dx9 l19 l29 => ?_)
  k_extra "Z2"
  exact @kap_all S_c_prog c_prog_k ⟨w, mean, mg, mb, dp, un, gd, outer, A₀, base, h₀, L, s, Q, E⟩ news ol n ox dx ny dy lz dz d1 d2 d3 c dst src off imm more hm1 hm2 hd1 hm3 hm4 hd2 hm5 hm6 hd3 hm7 hc1 hc2 x9 dx9 l19 l29
example : True := by
  k_with "off D4" => skip
  trivial
end
section
set_option maxHeartbeats 1000000
example : True := by
  k_with "nolean" => fail_if_success k_extra "off D5a"
  trivial
def clsT (sz : Int) : Str := if sz = 32 then Str.ofString "jmp32" else Str.ofString "jmp"
def bname (o : Str) : Str := if o = Str.ofString "set" then Str.ofString "test" else Str.ofString "cmp"
def iname (o : Str) : Str := if o = Str.ofString "set" then Str.ofString "test_imm" else Str.ofString "cmp_imm"
def SizeOk (sz c : Int) : Prop := (sz = 64 ∧ Builtin.bitAnd c 7 = 5) ∨ (sz = 32 ∧ Builtin.bitAnd c 7 = 6)
theorem c_classS {w : World} {mean : ExcName → Option Value} {mg mb : Str → Option Value} {news : Led} {ox dx : Nat} {d' : Obj} {c dst src off imm more : Int} {sz : Int} (hm1 : (ox, instObj 133 dx) ∈ news) (hm2 : (dx, d') ∈ news) (hd : IsOrd c dst src off imm more d') (hk : SizeOk sz c) :
   Ct w mean mg mb 12 144 (news) True [.ref ox] (fun v ns => ∃ (t : Tok), v = .str (clsT sz) t ∧ ns = news) := by
  rcases hk with ⟨rfl, hk⟩ | ⟨rfl, hk⟩
  · exact c_class5 hm1 hm2 hd hk
  · exact c_class6 hm1 hm2 hd hk
theorem c_classS_v (kx : Cx) (cn8 : Str) (cs8 : Scope) (a8 : Addr) (ccd8 : Value) (cl8 : List (Str × Addr)) (zk : cs8.kind = .function) {D8 : Nat} (zW : Wf kx D8) (zD : Nat.ble 12 D8 = true) {news : Led} {ox dx : Nat} {d' : Obj} {c dst src off imm more : Int} {sz : Int} {m8 : Str → Option Value} {h9 : Heap} {tk9 : Nat} {Q8 E8 : Value → Shared → Prop} (zF : Fr kx.h₀ kx.L h9 m8) (zN : News kx.h₀ kx.L h9 ((news))) (hm1 : (ox, instObj 133 dx) ∈ news) (hm2 : (dx, d') ∈ news) (hd : IsOrd c dst src off imm more d') (hk : SizeOk sz c)
   (kk9 : ∀ (t : Tok) (h' : Heap) (tk' : Nat), let n' : Led := (news); Fr kx.h₀ kx.L h' m8 → News kx.h₀ kx.L h' n' → Q8 (.str (clsT sz) t) (kSt kx h' tk')) : wpAny (kMd kx) (kAr kx (envX cn8 cs8 kx.L a8 ccd8 cl8)) (call (.ref 144) [.ref ox]) Q8 E8 (kSt kx h9 tk9) := by
  refine cv_use kx cn8 cs8 a8 ccd8 cl8 zk zW zD (c_classS (hm1 := hm1) (hm2 := hm2) (hd := hd) (hk := hk)) zF zN ?_
  rintro v news' h' tk' ⟨t, rfl, rfl⟩ F N
  exact kk9 t _ _ F N
theorem c_operS {w : World} {mean : ExcName → Option Value} {mg mb : Str → Option Value} {news : Led} {ox dx : Nat} {d' : Obj} {c dst src off imm more : Int} {o : Str} {sz : Int} (hm1 : (ox, instObj 133 dx) ∈ news) (hm2 : (dx, d') ∈ news) (hd : IsOrd c dst src off imm more d') (ho : o ∈ ops) (hk : SizeOk sz c) (hi : c.fdiv (2 ^ Int.toNat 4) = spot o) :
   Ct w mean mg mb 20 165 (news) True [.ref ox] (fun v ns => ∃ (t : Tok), v = .str o t ∧ ns = news) := by
  rcases hk with ⟨rfl, hk⟩ | ⟨rfl, hk⟩
  · exact c_oper5 hm1 hm2 hd ho hk hi
  · exact c_oper6 hm1 hm2 hd ho hk hi
theorem c_operS_v (kx : Cx) (cn8 : Str) (cs8 : Scope) (a8 : Addr) (ccd8 : Value) (cl8 : List (Str × Addr)) (zk : cs8.kind = .function) {D8 : Nat} (zW : Wf kx D8) (zD : Nat.ble 20 D8 = true) {news : Led} {ox dx : Nat} {d' : Obj} {c dst src off imm more : Int} {o : Str} {sz : Int} {m8 : Str → Option Value} {h9 : Heap} {tk9 : Nat} {Q8 E8 : Value → Shared → Prop} (zF : Fr kx.h₀ kx.L h9 m8) (zN : News kx.h₀ kx.L h9 ((news))) (hm1 : (ox, instObj 133 dx) ∈ news) (hm2 : (dx, d') ∈ news) (hd : IsOrd c dst src off imm more d') (ho : o ∈ ops) (hk : SizeOk sz c) (hi : c.fdiv (2 ^ Int.toNat 4) = spot o)
   (kk9 : ∀ (t : Tok) (h' : Heap) (tk' : Nat), let n' : Led := (news); Fr kx.h₀ kx.L h' m8 → News kx.h₀ kx.L h' n' → Q8 (.str o t) (kSt kx h' tk')) : wpAny (kMd kx) (kAr kx (envX cn8 cs8 kx.L a8 ccd8 cl8)) (call (.ref 165) [.ref ox]) Q8 E8 (kSt kx h9 tk9) := by
  refine cv_use kx cn8 cs8 a8 ccd8 cl8 zk zW zD (c_operS (hm1 := hm1) (hm2 := hm2) (hd := hd) (ho := ho) (hk := hk) (hi := hi)) zF zN ?_
  rintro v news' h' tk' ⟨t, rfl, rfl⟩ F N
  exact kk9 t _ _ F N
example : True := by
  k_with "off D5a" => skip
  trivial
end
section
set_option maxHeartbeats 1000000
example : True := by
  k_with "nolean" => fail_if_success k_extra "off D5d"
  trivial
def hostR (d : Int) : Int := [0,7,6,2,1,8,3,13,14,15,5].getD d.toNat 0
def tupO (vs : Array Value) : Obj := { cls := .type "tuple", data := .seq vs }
inductive IsRw (nm : Str) (parts : Array Value) (r : Nat) (T : Led) : Prop where
  | mk (d p : Nat) (k1 k2 : Int) (t1 t2 t3 : Tok) (q9 : T = [(r, instObj 269 d), (d, dictOf [⟨k1, .str (Str.ofString "name") t1, .str nm t3⟩, ⟨k2, .str (Str.ofString "parts") t2, .ref p⟩] 2), (p, tupO parts)]) : IsRw nm parts r T
theorem isRw_mk {nm : Str} {parts : Array Value} {r d p : Nat} {k1 k2 : Int} {t1 t2 t3 : Tok} : IsRw nm parts r [(r, instObj 269 d), (d, dictOf [⟨k1, .str (Str.ofString "name") t1, .str nm t3⟩, ⟨k2, .str (Str.ofString "parts") t2, .ref p⟩] 2), (p, tupO parts)] := ⟨_, _, _, _, _, _, _, rfl⟩

example : True := by
  k_with "off D5d" => skip
  trivial
end
section
set_option maxHeartbeats 1000000
example : True := by
  k_with ".Mem" => ((fail_if_success k_extra "off KM"); first | exact List.Mem.head _ | assumption | (refine List.Mem.tail _ ?_; walk_at "Mem"))
  trivial
theorem allLt_up {a b : Nat} {l : Led} (h : AllLt a l) (k : a ≤ b) : AllLt b l := allLt_of fun p hp => Nat.lt_of_lt_of_le (allLt_get h p hp) k
theorem upd_of {d : Addr} {o : Obj} {l : Led} {g : Obj → Led} (h : UpdF d o l g) (o' : Obj) : Upd d o o' l (g o') := by
  induction h with
  | head h => exact .head h
  | tail h _ ih => exact .tail h ih
example : True := by
  k_with ".call ref" => (k_here; (with_reducible show wpAny _ _ (call (Value.ref 269) [_, _]) _ _ _); k_dflt (refine c_mkRow_v _ _ _ _ _ _ rfl (zW := by assumption) (zD := by exact rfl) (zF := by k_asm) (zN := by k_asm) (kk9 := ?_)); (intro r9Z rd9Z d9Z h9Z tk9Z hM9Z l7Z l9Z nkZ F9Z N9Z; have l8 := allLt_up l7Z (Nat.le_of_lt l9Z)))
  k_with "T:size_fits" => ((fail_if_success k_extra "off KM"); assumption)
  k_with "T:k_upd" => ((fail_if_success k_extra "off KM"); first | exact Upd.tail (by k_ne) (Upd.tail (by k_ne) (upd_of (by assumption) _)) | exact upd_of (by assumption) _)
  trivial
def S_add (kx : Cx) : Prop := ∀ (news : Led) (g : Obj → Led) (mx mdd rl n : Nat) (k1 k2 : Int) (t1 t2 : Tok) (nl : Value) (its : Array Value) (v1 v2 : Value) (hU : UpdF rl (listOf its n) news g) (hm1 : (mx, instObj 375 mdd) ∈ news) (hm2 : (mdd, dictOf [⟨k1, .str (Str.ofString "rows") t1, .ref rl⟩, ⟨k2, .str (Str.ofString "next_label") t2, nl⟩] 2) ∈ news) (hm3 : (rl, listOf its n) ∈ news) (hs : Nat.ble its.size 100 = true),
   Bd kx 7 (Str.ofString "Maker.add") (methScope "Maker" "add") 365 364 (methBody "Maker" "add") (fun yq => [(Str.ofString "self", (.ref mx : Value)), (Str.ofString "name", v1), (Str.ofString "parts", v2)].reverse.lookup yq) news
   (fun v ns => v = .none ∧ ∃ r rd d, ns = (r, instObj 269 rd) :: (rd, d) :: g (listOf (its.push (.ref r)) (n + 1)) ∧ IsMkRow kx.w v1 v2 d ∧ AllLt rd news ∧ rd < r)
noncomputable def kap_add : Cx := kapOf S_add
set_option maxHeartbeats 4000000 in
theorem add_k : S_add kap_add := by
  intro news g mx mdd rl n k1 k2 t1 t2 nl its v1 v2 hU hm1 hm2 hm3 hs
  have e1 : methScope "Maker" "add" = methScope "Maker" "add" := rfl
  conv at e1 => rhs; whnf
  have e2 : methBody "Maker" "add" = methBody "Maker" "add" := rfl
  conv at e2 => rhs; whnf
  (try dsimp only at e1)
  (try dsimp only at e2)
  refine @bd_lit _ _ _ _ _ _ _ _ _ _ _ _ e1 e2 ?_
  clear e1 e2
  unfold Bd
  k_fill
  intro h tk HB HF HX HN HT hdp hun hE hret
  have HW : Wf kap_add 7 := ⟨HB, HX, HT, hdp, hun⟩
  refine frLet HF ?_
  intro mk HF9
  clear HF
  refine ledLet HN ?_
  intro nk HN9
  have hz := Nat.le_trans (Nat.le_of_ble_eq_true hs) (show 100 ≤ sizeLine by decide)
  k_steps
  all_goals (refine' hret _ _ _ _ _ ⟨rfl, _, _, _, rfl, ?a, ?b, ?c⟩ ?F ?N
             case N => k_asm
             case F => k_asm
             case a => assumption
             case b => assumption
             case c => assumption)
theorem c_add {w : World} {mean : ExcName → Option Value} {mg mb : Str → Option Value} {news : Led} {g : Obj → Led} {mx mdd rl n : Nat} {k1 k2 : Int} {t1 t2 : Tok} {nl : Value} {its : Array Value} {v1 v2 : Value} (hU : UpdF rl (listOf its n) news g) (hm1 : (mx, instObj 375 mdd) ∈ news) (hm2 : (mdd, dictOf [⟨k1, .str (Str.ofString "rows") t1, .ref rl⟩, ⟨k2, .str (Str.ofString "next_label") t2, nl⟩] 2) ∈ news) (hm3 : (rl, listOf its n) ∈ news) (hs : Nat.ble its.size 100 = true) :
   Ct w mean mg mb 8 365 news True [.ref mx, v1, v2] (fun v ns => v = .none ∧ ∃ r rd d, ns = (r, instObj 269 rd) :: (rd, d) :: g (listOf (its.push (.ref r)) (n + 1)) ∧ IsMkRow w v1 v2 d ∧ AllLt rd news ∧ rd < r) := by
  refine ct_of_body (by k_is) (by k_is) (fun s HX => BindsTo.of_eq rfl) (by exact locs rfl) rfl rfl rfl (by decide) (fun dp un gd outer A₀ base h₀ L s Q E => ?_)
  exact @kap_all S_add add_k ⟨w, mean, mg, mb, dp, un, gd, outer, A₀, base, h₀, L, s, Q, E⟩ news g mx mdd rl n k1 k2 t1 t2 nl its v1 v2 hU hm1 hm2 hm3 hs
theorem c_add_v (kx : Cx) (cn8 : Str) (cs8 : Scope) (a8 : Addr) (ccd8 : Value) (cl8 : List (Str × Addr)) (zk : cs8.kind = .function) {D8 : Nat} (zW : Wf kx D8) (zD : Nat.ble 8 D8 = true) {news : Led} {g : Obj → Led} {mx mdd rl n : Nat} {k1 k2 : Int} {t1 t2 : Tok} {nl : Value} {its : Array Value} {v1 v2 : Value} {m8 : Str → Option Value} {h9 : Heap} {tk9 : Nat} {Q8 E8 : Value → Shared → Prop} (zF : Fr kx.h₀ kx.L h9 m8) (zN : News kx.h₀ kx.L h9 news)
   (hm1 : (mx, instObj 375 mdd) ∈ news) (hm2 : (mdd, dictOf [⟨k1, .str (Str.ofString "rows") t1, .ref rl⟩, ⟨k2, .str (Str.ofString "next_label") t2, nl⟩] 2) ∈ news) (hm3 : (rl, listOf its n) ∈ news) (hU : UpdF rl (listOf its n) news g) (hs : Nat.ble its.size 100 = true) {rx : Nat → Array Value} (hp : ∀ r, its.push (.ref r) = rx r)
   (kk9 : ∀ (r rd : Nat) (d : Obj) (h' : Heap) (tk' : Nat), IsMkRow kx.w v1 v2 d → AllLt rd news → AllLt r news → rd < r → let n' : Led := (r, instObj 269 rd) :: (rd, d) :: g (listOf (rx r) (n + 1)); Fr kx.h₀ kx.L h' m8 → News kx.h₀ kx.L h' n' → Q8 .none (kSt kx h' tk')) : wpAny (kMd kx) (kAr kx (envX cn8 cs8 kx.L a8 ccd8 cl8)) (call (.ref 365) [.ref mx, v1, v2]) Q8 E8 (kSt kx h9 tk9) := by
  refine cv_use kx cn8 cs8 a8 ccd8 cl8 zk zW zD (c_add hU hm1 hm2 hm3 hs) zF zN ?_
  rintro v news' h' tk' ⟨rfl, r, rd, d, rfl, q, l1, l2⟩ F N
  rw [hp] at N
  exact kk9 r rd d _ _ q l1 (allLt_up l1 (Nat.le_of_lt l2)) l2 F N
example : True := by
  k_with "off KM" => skip
  trivial
end
section
set_option maxHeartbeats 1000000
section
variable {prog : Program} {w : World} {A : Around} {E : Value → Shared → Prop} {s : Shared} {env : Env} {Q : Value → Shared → Prop}
theorem D5r_ifsize {sz c : Int} {k1 k2 : Nat} {p1 p2 : Pos} (hs : SizeOk sz c) (h : Q (.int sz s.toks) { s with toks := s.toks + 1 }) :
    if (clsT sz == Str.ofString "jmp32") = true then wpAny (model prog w) A (eval (.Constant (.int 32) k1 p1) env) Q E s else wpAny (model prog w) A (eval (.Constant (.int 64) k2 p2) env) Q E s := by
  rcases hs with ⟨rfl, _⟩ | ⟨rfl, _⟩
  · rw [if_neg (by decide)]; exact wpAny_Constant_int h
  · rw [if_pos (by decide)]; exact wpAny_Constant_int h
theorem D5r_ifname {o : Str} {k1 k2 : Nat} {p1 p2 : Pos} (h : Q (.str (bname o) s.toks) { s with toks := s.toks + 1 }) :
    if (o == Str.ofString "set") = true then wpAny (model prog w) A (eval (.Constant (.str (Str.ofString "test")) k1 p1) env) Q E s else wpAny (model prog w) A (eval (.Constant (.str (Str.ofString "cmp")) k2 p2) env) Q E s := by
  by_cases e : o = Str.ofString "set"
  · rw [if_pos (beq_iff_eq.mpr e)]
    have : bname o = Str.ofString "test" := if_pos e
    rw [this] at h; exact wpAny_Constant_str h
  · rw [if_neg (fun x => e (beq_iff_eq.mp x))]
    have : bname o = Str.ofString "cmp" := if_neg e
    rw [this] at h; exact wpAny_Constant_str h
theorem D5r_add_imm {o : Str} {t u : Tok} (h : ∀ t tk, Q (.str (iname o) t) { s with toks := tk }) : wpAny (model prog w) A (binaryOp .Add (.str (bname o) t) (.str (Str.ofString "_imm") u)) Q E s := by
  by_cases e : o = Str.ofString "set"
  · have e1 : bname o = Str.ofString "test" := if_pos e
    have e2 : iname o = Str.ofString "test_imm" := if_pos e
    rw [e1]; rw [e2] at h
    exact add_str h
  · have e1 : bname o = Str.ofString "cmp" := if_neg e
    have e2 : iname o = Str.ofString "cmp_imm" := if_neg e
    rw [e1]; rw [e2] at h
    exact add_str h
end
example : True := by
  k_with ".ite" => ((fail_if_success k_extra "off D5p"); (k_here; with_reducible refine D5r_ifsize (by assumption) ?_))
  k_with ".ite" => ((fail_if_success k_extra "off D5p"); (k_here; with_reducible refine D5r_ifname ?_))
  k_with ".binaryOp Add str str" => ((fail_if_success k_extra "off D5p"); (k_here; with_reducible refine D5r_add_imm (fun _ _ => ?_)))
  k_with ".call ref" => (k_here; (with_reducible show wpAny _ _ (call (Value.ref 344) [_]) _ _ _); k_dflt (refine c_condof_v _ _ _ _ _ _ rfl (zW := by assumption) (zD := by exact rfl) (zF := by k_asm) (zN := by k_asm) (ho := by assumption) (kk9 := ?_)); walk_at "After")
  k_with ".call ref" => (k_here; (with_reducible show wpAny _ _ (call (Value.ref 144) [_]) _ _ _); k_dflt (refine c_classS_v _ _ _ _ _ _ rfl (zW := by assumption) (zD := by exact rfl) (zF := by k_asm) (zN := by k_asm) (hm1 := by walk_at "Mem") (hm2 := by walk_at "Mem") (hd := by (first | assumption | exact isOrd_mk)) (hk := by assumption) (kk9 := ?_)); walk_at "After")
  k_with ".call ref" => (k_here; (with_reducible show wpAny _ _ (call (Value.ref 165) [_]) _ _ _); k_dflt (refine c_operS_v _ _ _ _ _ _ rfl (zW := by assumption) (zD := by exact rfl) (zF := by k_asm) (zN := by k_asm) (hm1 := by walk_at "Mem") (hm2 := by walk_at "Mem") (hd := by (first | assumption | exact isOrd_mk)) (ho := by assumption) (hk := by assumption) (hi := by assumption) (kk9 := ?_)); walk_at "After")
  k_with "T:k_mem" => ((fail_if_success k_extra "off D5p"); assumption)
  k_with ".call ref" => (k_here; (with_reducible show wpAny _ _ (call (Value.ref 337) [_]) _ _ _); k_dflt (refine c_host_v _ _ _ _ _ _ rfl (zW := by assumption) (zD := by exact rfl) (zF := by k_asm) (zN := by k_asm) (h0 := by (first | assumption | omega)) (h1 := by (first | assumption | omega)) (kk9 := ?_)); walk_at "After")
  k_with ".UpdF" => ((fail_if_success k_extra "off D5p"); first | assumption | exact UpdF.head (by k_all) | exact UpdF.tail (by k_ne) (by assumption) | (refine' UpdF.tail (p := (_, _)) ?zzCe ?yyCe; (case yyCe => walk_at "UpdF"); (case zzCe => k_ne)))
  k_with ".call ref" => (k_here; (with_reducible show wpAny _ _ (call (Value.ref 365) [_, _, _]) _ _ _); k_dflt ((refine' c_add_v _ _ _ _ _ _ rfl ?WCf ?zDCf ?FCf ?NCf ?a1Cf ?a2Cf ?a3Cf ?hUCf ?hsCf ?hpCf ?_); (case WCf => assumption); (case zDCf => exact rfl); (case FCf => k_asm); (case NCf => k_asm); (case a1Cf => walk_at "Mem"); (case a2Cf => walk_at "Mem"); (case a3Cf => walk_at "Mem"); (case hUCf => walk_at "UpdF"); (case hsCf => first | assumption | exact rfl); (case hpCf => exact fun _ => rfl)); (intro r9Z rd9Z d9Z h9Z tk9Z hM9Z l7Z l8Z l9Z nkZ F9Z N9Z))
  trivial
theorem isRw_of {w : World} {nm : Str} {parts : Array Value} {r rd p : Nat} {d : Obj} {t : Tok} (h : IsMkRow w (.str nm t) (.ref p) d) : IsRw nm parts r [(r, instObj 269 rd), (rd, d), (p, tupO parts)] := by
  obtain ⟨t1, t2, rfl⟩ := h
  exact isRw_mk
inductive LayW (c src imm : Int) (o nm : Str) (th : Int) : Prop where
  | reg (hb : Builtin.bitAnd c 8 = 8) (h0 : 0 ≤ src) (h1 : src < 11) (e1 : bname o = nm) (e2 : hostR src = th) : LayW c src imm o nm th
  | imm (hb : Builtin.bitAnd c 8 = 0) (e1 : iname o = nm) (e2 : imm = th) : LayW c src imm o nm th
theorem layW_ite {P1 P2 : Prop} {c src imm : Int} {o nm : Str} {th : Int} (h : LayW c src imm o nm th) (k1 : 0 ≤ src → src < 11 → bname o = nm → hostR src = th → P1) (k2 : iname o = nm → imm = th → P2) : if (Builtin.bitAnd c 8 != 0) = true then P1 else P2 := by
  rcases h with ⟨hb, h0, h1, e1, e2⟩ | ⟨hb, e1, e2⟩
  · rw [if_pos (by rw [hb]; rfl)]; exact k1 h0 h1 e1 e2
  · rw [if_neg (by rw [hb]; decide)]; exact k2 e1 e2
theorem updF_up {d : Addr} {o : Obj} {l : Led} {g : Obj → Led} (h : UpdF d o l g) (o' : Obj) : UpdF d o' (g o') g := by
  induction h with
  | head h => exact .head h
  | tail h _ ih => exact .tail h ih
theorem updF_in {d : Addr} {o : Obj} {l : Led} {g : Obj → Led} (h : UpdF d o l g) (o' : Obj) : (d, o') ∈ g o' := by
  induction h with
  | head h => exact .head _
  | tail h _ ih => exact .tail _ ih
theorem updF_mem {d : Addr} {o : Obj} {l : Led} {g : Obj → Led} (h : UpdF d o l g) (o' : Obj) {q : Addr × Obj} (hq : q ∈ l) (hn : q.1 ≠ d) : q ∈ g o' := by
  induction h with
  | head h => cases hq with
    | head => exact absurd rfl hn
    | tail _ hq => exact .tail _ hq
  | tail h _ ih => cases hq with
    | head => exact .head _
    | tail _ hq => exact .tail _ (ih hq)
def S_c_isregG (kx : Cx) : Prop := ∀ (news : Led) (ox dx : Nat) (d' : Obj) (c dst src off imm more : Int) (hm1 : (ox, instObj 133 dx) ∈ news) (hm2 : (dx, d') ∈ news) (hd : IsOrd c dst src off imm more d'), Bd kx 11 (Str.ofString "is_register") (scopeAt "is_register") 172 171 (bodyAt "is_register") (fun yq => [(Str.ofString "order", (.ref ox : Value))].reverse.lookup yq) (news) (fun v ns => v = .bool (Builtin.bitAnd c 8 != 0) ∧ ns = news)
noncomputable def kap_c_isregG : Cx := kapOf S_c_isregG
theorem c_isregG_k : S_c_isregG kap_c_isregG := by
  intro news ox dx d' c dst src off imm more hm1 hm2 hd
  have e1 : (scopeAt "is_register") = (scopeAt "is_register") := rfl
  conv at e1 => rhs; whnf
  have e2 : (bodyAt "is_register") = (bodyAt "is_register") := rfl
  conv at e2 => rhs; whnf
  (try dsimp only at e1)
  (try dsimp only at e2)
  refine @bd_lit _ _ _ _ _ _ _ _ _ _ _ _ e1 e2 ?_
  clear e1 e2
  unfold Bd
  k_fill
  intro h tk HB HF HX HN HT hdp hun hE hret
  have HW : Wf kap_c_isregG 11 := ⟨HB, HX, HT, hdp, hun⟩
  obtain ⟨h1, h2, h3, h4, h5, h6, w1, w2, w3, w4, w5, w6, v1, v2, v3, v4, v5, v6, rfl⟩ := hd
  refine frLet HF ?_
  intro mk HF9
  clear HF
  refine ledLet (by with_reducible assumption) ?_
  intro nk HN9
  k_steps
  all_goals (refine' hret _ _ _ _ _ ⟨congrArg Value.bool ?va, rfl⟩ ?bas ?led
             case bas => k_asm
             case va => rfl
             case led => k_asm)
theorem c_isregG {w : World} {mean : ExcName → Option Value} {mg mb : Str → Option Value} {news : Led} {ox dx : Nat} {d' : Obj} {c dst src off imm more : Int} (hm1 : (ox, instObj 133 dx) ∈ news) (hm2 : (dx, d') ∈ news) (hd : IsOrd c dst src off imm more d') :
   Ct w mean mg mb 12 172 (news) True [.ref ox] (fun v ns => v = .bool (Builtin.bitAnd c 8 != 0) ∧ ns = news) := by
  k_extra "Z1"
  exact @kap_all S_c_isregG c_isregG_k ⟨w, mean, mg, mb, dp, un, gd, outer, A₀, base, h₀, L, s, Q, E⟩ news ox dx d' c dst src off imm more hm1 hm2 hd
theorem c_isregG_v (kx : Cx) (cn8 : Str) (cs8 : Scope) (a8 : Addr) (ccd8 : Value) (cl8 : List (Str × Addr)) (zk : cs8.kind = .function) {D8 : Nat} (zW : Wf kx D8) (zD : Nat.ble 12 D8 = true) {news : Led} {ox dx : Nat} {d' : Obj} {c dst src off imm more : Int} {m8 : Str → Option Value} {h9 : Heap} {tk9 : Nat} {Q8 E8 : Value → Shared → Prop} (zF : Fr kx.h₀ kx.L h9 m8) (zN : News kx.h₀ kx.L h9 news) (hm1 : (ox, instObj 133 dx) ∈ news) (hm2 : (dx, d') ∈ news) (hd : IsOrd c dst src off imm more d')
   (kk9 : ∀ (h' : Heap) (tk' : Nat), Fr kx.h₀ kx.L h' m8 → News kx.h₀ kx.L h' news → Q8 (.bool (Builtin.bitAnd c 8 != 0)) (kSt kx h' tk')) : wpAny (kMd kx) (kAr kx (envX cn8 cs8 kx.L a8 ccd8 cl8)) (call (.ref 172) [.ref ox]) Q8 E8 (kSt kx h9 tk9) := by
  refine cv_use kx cn8 cs8 a8 ccd8 cl8 zk zW zD (c_isregG (hm1 := hm1) (hm2 := hm2) (hd := hd)) zF zN ?_
  rintro v news' h' tk' ⟨rfl, rfl⟩ F N
  exact kk9 _ _ F N
example : True := by
  k_with ".call ref" => (k_here; (with_reducible show wpAny _ _ (call (Value.ref 172) [_]) _ _ _); k_dflt (refine c_isregG_v _ _ _ _ _ _ rfl (zW := by assumption) (zD := by exact rfl) (zF := by k_asm) (zN := by k_asm) (hm1 := by walk_at "Mem") (hm2 := by walk_at "Mem") (hd := by (first | assumption | exact isOrd_mk)) (kk9 := ?_)); walk_at "After")
  trivial
def S_c_dist (kx : Cx) : Prop := ∀ (news : Led) (ox dx : Nat) (d' : Obj) (c dst src off imm more : Int) (hm1 : (ox, instObj 133 dx) ∈ news) (hm2 : (dx, d') ∈ news) (hd : IsOrd c dst src off imm more d') (hc2 : (c == 133) = false) (hc3 : (c == 6) = false), Bd kx 17 (Str.ofString "distance") (scopeAt "distance") 193 192 (bodyAt "distance") (fun yq => [(Str.ofString "order", (.ref ox : Value))].reverse.lookup yq) (news) (fun v ns => (∃ t, v = .int off t) ∧ ns = news)
noncomputable def kap_c_dist : Cx := kapOf S_c_dist
theorem c_dist_k : S_c_dist kap_c_dist := by
  intro news ox dx d' c dst src off imm more hm1 hm2 hd hc2 hc3
  have e1 : (scopeAt "distance") = (scopeAt "distance") := rfl
  conv at e1 => rhs; whnf
  have e2 : (bodyAt "distance") = (bodyAt "distance") := rfl
  conv at e2 => rhs; whnf
  (try dsimp only at e1)
  (try dsimp only at e2)
  refine @bd_lit _ _ _ _ _ _ _ _ _ _ _ _ e1 e2 ?_
  clear e1 e2
  unfold Bd
  k_fill
  intro h tk HB HF HX HN HT hdp hun hE hret
  have HW : Wf kap_c_dist 17 := ⟨HB, HX, HT, hdp, hun⟩
  obtain ⟨h1, h2, h3, h4, h5, h6, w1, w2, w3, w4, w5, w6, v1, v2, v3, v4, v5, v6, rfl⟩ := hd
  refine frLet HF ?_
  intro mk HF9
  clear HF
  refine ledLet (by with_reducible assumption) ?_
  intro nk HN9
  k_steps
  all_goals (refine' hret _ _ _ _ _ ⟨⟨_, rfl⟩, rfl⟩ ?bas ?led
             case bas => k_asm
             case led => k_asm)
theorem c_dist {w : World} {mean : ExcName → Option Value} {mg mb : Str → Option Value} {news : Led} {ox dx : Nat} {d' : Obj} {c dst src off imm more : Int} (hm1 : (ox, instObj 133 dx) ∈ news) (hm2 : (dx, d') ∈ news) (hd : IsOrd c dst src off imm more d') (hc2 : (c == 133) = false) (hc3 : (c == 6) = false) :
   Ct w mean mg mb 18 193 (news) True [.ref ox] (fun v ns => (∃ t, v = .int off t) ∧ ns = news) := by
  k_extra "Z1"
  exact @kap_all S_c_dist c_dist_k ⟨w, mean, mg, mb, dp, un, gd, outer, A₀, base, h₀, L, s, Q, E⟩ news ox dx d' c dst src off imm more hm1 hm2 hd hc2 hc3
theorem c_dist_v (kx : Cx) (cn8 : Str) (cs8 : Scope) (a8 : Addr) (ccd8 : Value) (cl8 : List (Str × Addr)) (zk : cs8.kind = .function) {D8 : Nat} (zW : Wf kx D8) (zD : Nat.ble 18 D8 = true) {news : Led} {ox dx : Nat} {d' : Obj} {c dst src off imm more : Int} {m8 : Str → Option Value} {h9 : Heap} {tk9 : Nat} {Q8 E8 : Value → Shared → Prop} (zF : Fr kx.h₀ kx.L h9 m8) (zN : News kx.h₀ kx.L h9 news) (hm1 : (ox, instObj 133 dx) ∈ news) (hm2 : (dx, d') ∈ news) (hd : IsOrd c dst src off imm more d') (hc2 : (c == 133) = false) (hc3 : (c == 6) = false)
   (kk9 : ∀ (t : Tok) (h' : Heap) (tk' : Nat), Fr kx.h₀ kx.L h' m8 → News kx.h₀ kx.L h' news → Q8 (.int off t) (kSt kx h' tk')) : wpAny (kMd kx) (kAr kx (envX cn8 cs8 kx.L a8 ccd8 cl8)) (call (.ref 193) [.ref ox]) Q8 E8 (kSt kx h9 tk9) := by
  refine cv_use kx cn8 cs8 a8 ccd8 cl8 zk zW zD (c_dist (hm1 := hm1) (hm2 := hm2) (hd := hd) (hc2 := hc2) (hc3 := hc3)) zF zN ?_
  rintro v news' h' tk' ⟨⟨t, rfl⟩, rfl⟩ F N
  exact kk9 t _ _ F N
example : True := by
  k_with ".call ref" => (k_here; (with_reducible show wpAny _ _ (call (Value.ref 193) [_]) _ _ _); k_dflt (refine c_dist_v _ _ _ _ _ _ rfl (zW := by assumption) (zD := by exact rfl) (zF := by k_asm) (zN := by k_asm) (hm1 := by walk_at "Mem") (hm2 := by walk_at "Mem") (hd := by (first | assumption | exact isOrd_mk)) (hc2 := by assumption) (hc3 := by assumption) (kk9 := ?_)); walk_at "After")
  trivial
def S_c_gslot (kx : Cx) : Prop := ∀ (news : Led) (ox dx : Nat) (d' : Obj) (c dst src off imm more : Int) (px pd ol sl ny lz : Nat) (a1 a2 a3 a4 a5 : Int) (t1 t2 t3 t4 t5 s1 s2 s3 ta : Tok) (v3 v4 v5 : Value) (c1 c2 : Nat) (hp1 : (px, instObj 450 pd) ∈ news) (hp2 : (pd, dictOf [⟨a1, .str (Str.ofString "orders") t1, .ref ol⟩, ⟨a2, .str (Str.ofString "slots") t2, .ref sl⟩, ⟨a3, .str (Str.ofString "by_slot") t3, v3⟩, ⟨a4, .str (Str.ofString "many_slots") t4, v4⟩, ⟨a5, .str (Str.ofString "subs") t5, v5⟩] 5) ∈ news) (hp3 : (ol, listOf #[.ref ox, .ref ny, .ref lz] c1) ∈ news) (hp4 : (sl, listOf #[.int 0 s1, .int 1 s2, .int 2 s3] c2) ∈ news) (hm1 : (ox, instObj 133 dx) ∈ news) (hm2 : (dx, d') ∈ news) (hd : IsOrd c dst src off imm more d') (hc2 : (c == 133) = false) (hc3 : (c == 6) = false), Bd kx 21 (Str.ofString "Program.goal_slot") (methScope "Program" "goal_slot") 421 420 (methBody "Program" "goal_slot") (fun yq => [(Str.ofString "self", (.ref px : Value)), (Str.ofString "at", (.int 0 ta : Value))].reverse.lookup yq) (news) (fun v ns => (∃ t, v = .int (0 + 1 + off) t) ∧ ns = news)
noncomputable def kap_c_gslot : Cx := kapOf S_c_gslot
theorem c_gslot_k : S_c_gslot kap_c_gslot := by
  intro news ox dx d' c dst src off imm more px pd ol sl ny lz a1 a2 a3 a4 a5 t1 t2 t3 t4 t5 s1 s2 s3 ta v3 v4 v5 c1 c2 hp1 hp2 hp3 hp4 hm1 hm2 hd hc2 hc3
  have e1 : (methScope "Program" "goal_slot") = (methScope "Program" "goal_slot") := rfl
  conv at e1 => rhs; whnf
  have e2 : (methBody "Program" "goal_slot") = (methBody "Program" "goal_slot") := rfl
  conv at e2 => rhs; whnf
  (try dsimp only at e1)
  (try dsimp only at e2)
  refine @bd_lit _ _ _ _ _ _ _ _ _ _ _ _ e1 e2 ?_
  clear e1 e2
  unfold Bd
  k_fill
  intro h tk HB HF HX HN HT hdp hun hE hret
  have HW : Wf kap_c_gslot 21 := ⟨HB, HX, HT, hdp, hun⟩
  refine frLet HF ?_
  intro mk HF9
  clear HF
  refine ledLet (by with_reducible assumption) ?_
  intro nk HN9
  k_steps
  all_goals (refine' hret _ _ _ _ _ ⟨⟨_, rfl⟩, rfl⟩ ?bas ?led
             case bas => k_asm
             case led => k_asm)
theorem c_gslot {w : World} {mean : ExcName → Option Value} {mg mb : Str → Option Value} {news : Led} {ox dx : Nat} {d' : Obj} {c dst src off imm more : Int} {px pd ol sl ny lz : Nat} {a1 a2 a3 a4 a5 : Int} {t1 t2 t3 t4 t5 s1 s2 s3 ta : Tok} {v3 v4 v5 : Value} {c1 c2 : Nat} (hp1 : (px, instObj 450 pd) ∈ news) (hp2 : (pd, dictOf [⟨a1, .str (Str.ofString "orders") t1, .ref ol⟩, ⟨a2, .str (Str.ofString "slots") t2, .ref sl⟩, ⟨a3, .str (Str.ofString "by_slot") t3, v3⟩, ⟨a4, .str (Str.ofString "many_slots") t4, v4⟩, ⟨a5, .str (Str.ofString "subs") t5, v5⟩] 5) ∈ news) (hp3 : (ol, listOf #[.ref ox, .ref ny, .ref lz] c1) ∈ news) (hp4 : (sl, listOf #[.int 0 s1, .int 1 s2, .int 2 s3] c2) ∈ news) (hm1 : (ox, instObj 133 dx) ∈ news) (hm2 : (dx, d') ∈ news) (hd : IsOrd c dst src off imm more d') (hc2 : (c == 133) = false) (hc3 : (c == 6) = false) :
   Ct w mean mg mb 22 421 (news) True [.ref px, .int 0 ta] (fun v ns => (∃ t, v = .int (0 + 1 + off) t) ∧ ns = news) := by
  k_extra "Z1"
  exact @kap_all S_c_gslot c_gslot_k ⟨w, mean, mg, mb, dp, un, gd, outer, A₀, base, h₀, L, s, Q, E⟩ news ox dx d' c dst src off imm more px pd ol sl ny lz a1 a2 a3 a4 a5 t1 t2 t3 t4 t5 s1 s2 s3 ta v3 v4 v5 c1 c2 hp1 hp2 hp3 hp4 hm1 hm2 hd hc2 hc3
theorem c_gslot_v (kx : Cx) (cn8 : Str) (cs8 : Scope) (a8 : Addr) (ccd8 : Value) (cl8 : List (Str × Addr)) (zk : cs8.kind = .function) {D8 : Nat} (zW : Wf kx D8) (zD : Nat.ble 22 D8 = true) {news : Led} {ox dx : Nat} {d' : Obj} {c dst src off imm more : Int} {px pd ol sl ny lz : Nat} {a1 a2 a3 a4 a5 : Int} {t1 t2 t3 t4 t5 s1 s2 s3 ta : Tok} {v3 v4 v5 : Value} {c1 c2 : Nat} {m8 : Str → Option Value} {h9 : Heap} {tk9 : Nat} {Q8 E8 : Value → Shared → Prop} (zF : Fr kx.h₀ kx.L h9 m8) (zN : News kx.h₀ kx.L h9 news) (hp1 : (px, instObj 450 pd) ∈ news) (hp2 : (pd, dictOf [⟨a1, .str (Str.ofString "orders") t1, .ref ol⟩, ⟨a2, .str (Str.ofString "slots") t2, .ref sl⟩, ⟨a3, .str (Str.ofString "by_slot") t3, v3⟩, ⟨a4, .str (Str.ofString "many_slots") t4, v4⟩, ⟨a5, .str (Str.ofString "subs") t5, v5⟩] 5) ∈ news) (hp3 : (ol, listOf #[.ref ox, .ref ny, .ref lz] c1) ∈ news) (hp4 : (sl, listOf #[.int 0 s1, .int 1 s2, .int 2 s3] c2) ∈ news) (hm1 : (ox, instObj 133 dx) ∈ news) (hm2 : (dx, d') ∈ news) (hd : IsOrd c dst src off imm more d') (hc2 : (c == 133) = false) (hc3 : (c == 6) = false)
   (kk9 : ∀ (t : Tok) (h' : Heap) (tk' : Nat), Fr kx.h₀ kx.L h' m8 → News kx.h₀ kx.L h' news → Q8 (.int (0 + 1 + off) t) (kSt kx h' tk')) : wpAny (kMd kx) (kAr kx (envX cn8 cs8 kx.L a8 ccd8 cl8)) (call (.ref 421) [.ref px, .int 0 ta]) Q8 E8 (kSt kx h9 tk9) := by
  refine cv_use kx cn8 cs8 a8 ccd8 cl8 zk zW zD (c_gslot (hp1 := hp1) (hp2 := hp2) (hp3 := hp3) (hp4 := hp4) (hm1 := hm1) (hm2 := hm2) (hd := hd) (hc2 := hc2) (hc3 := hc3)) zF zN ?_
  rintro v news' h' tk' ⟨⟨t, rfl⟩, rfl⟩ F N
  exact kk9 t _ _ F N
example : True := by
  k_with ".call ref" => (k_here; (with_reducible show wpAny _ _ (call (Value.ref 421) [_, _]) _ _ _); k_dflt (refine c_gslot_v _ _ _ _ _ _ rfl (zW := by assumption) (zD := by exact rfl) (zF := by k_asm) (zN := by k_asm) (hp1 := by walk_at "Mem") (hp2 := by walk_at "Mem") (hp3 := by walk_at "Mem") (hp4 := by walk_at "Mem") (hm1 := by walk_at "Mem") (hm2 := by walk_at "Mem") (hd := by (first | assumption | exact isOrd_mk)) (hc2 := by assumption) (hc3 := by assumption) (kk9 := ?_)); walk_at "After")
  trivial
def S_c_target (kx : Cx) : Prop := ∀ (news T : Led) (ox dx ny lz px : Nat) (d' : Obj) (c dst src off imm more : Int) (t4 : Tok) (hm1 : (ox, instObj 133 dx) ∈ news) (hm2 : (dx, d') ∈ news) (hd : IsOrd c dst src off imm more d') (hT : IsProg kx.w ox ny lz px T) (hTm : ∀ q ∈ T, q ∈ news) (hc2 : (c == 133) = false) (hc3 : (c == 6) = false) (hf : off = 0 ∨ off = 1), Bd kx 25 (Str.ofString "Program.target") (methScope "Program" "target") 428 427 (methBody "Program" "target") (fun yq => [(Str.ofString "self", (.ref px : Value)), (Str.ofString "at", (.int 0 t4 : Value))].reverse.lookup yq) (news) (fun v ns => (∃ t, v = .int (1 + off) t) ∧ ns = news)
noncomputable def kap_c_target : Cx := kapOf S_c_target
theorem c_target_k : S_c_target kap_c_target := by
  intro news T ox dx ny lz px d' c dst src off imm more t4 hm1 hm2 hd hT hTm hc2 hc3 hf
  have e1 : (methScope "Program" "target") = (methScope "Program" "target") := rfl
  conv at e1 => rhs; whnf
  have e2 : (methBody "Program" "target") = (methBody "Program" "target") := rfl
  conv at e2 => rhs; whnf
  (try dsimp only at e1)
  (try dsimp only at e2)
  refine @bd_lit _ _ _ _ _ _ _ _ _ _ _ _ e1 e2 ?_
  clear e1 e2
  unfold Bd
  k_fill
  intro h tk HB HF HX HN HT hdp hun hE hret
  have HW : Wf kap_c_target 25 := ⟨HB, HX, HT, hdp, hun⟩
  obtain ⟨pd, ol, sl, bd, sb, c1, c2, ob, kvs, D, g1, g2, g3, g4, g5, y1, y2, y3, y4, y5, z1, z2, z3, z4, rfl, hlo, hdo, hdf, hl1, hl2⟩ := hT
  have q1 := hTm _ (.head _)
  have q2 := hTm _ (.tail _ (.head _))
  have q3 := hTm _ (.tail _ (.tail _ (.head _)))
  have q4 := hTm _ (.tail _ (.tail _ (.tail _ (.head _))))
  have q5 := hTm _ (.tail _ (.tail _ (.tail _ (.tail _ (.head _)))))
  have hlk : PySem.Spec.lookup (PyData.int (0 + 1 + off)) D = some (PyData.int (1 + off)) := by
    rcases hf with rfl | rfl
    · exact hl1
    · exact hl2
  refine frLet HF ?_
  intro mk HF9
  clear HF
  refine ledLet (by with_reducible assumption) ?_
  intro nk HN9
  k_steps
  all_goals (refine' hret _ _ _ _ _ ⟨⟨_, rfl⟩, rfl⟩ ?bas ?led
             case bas => k_asm
             case led => k_asm)
theorem c_target {w : World} {mean : ExcName → Option Value} {mg mb : Str → Option Value} {news T : Led} {ox dx ny lz px : Nat} {d' : Obj} {c dst src off imm more : Int} {t4 : Tok} (hm1 : (ox, instObj 133 dx) ∈ news) (hm2 : (dx, d') ∈ news) (hd : IsOrd c dst src off imm more d') (hT : IsProg w ox ny lz px T) (hTm : ∀ q ∈ T, q ∈ news) (hc2 : (c == 133) = false) (hc3 : (c == 6) = false) (hf : off = 0 ∨ off = 1) :
   Ct w mean mg mb 26 428 (news) True [.ref px, .int 0 t4] (fun v ns => (∃ t, v = .int (1 + off) t) ∧ ns = news) := by
  k_extra "Z1"
  exact @kap_all S_c_target c_target_k ⟨w, mean, mg, mb, dp, un, gd, outer, A₀, base, h₀, L, s, Q, E⟩ news T ox dx ny lz px d' c dst src off imm more t4 hm1 hm2 hd hT hTm hc2 hc3 hf
example : True := by
  k_with ".ite" => ((fail_if_success k_extra "off D5p"); (k_here; (with_reducible refine' layW_ite ?wCj ?z1Cj ?z2Cj); (case wCj => assumption); intros))
  trivial
inductive RT_c_lp (w : World) (news : Led) (g : Obj → Led) (gl sz : Int) (its : Array Value) (n : Nat) (nm : Str) (th : Int) (v : Value) (ns : Led) : Prop where
  | mk (nm2 : Str) (th2 : Int) (r rd p : Nat) (d : Obj) (a1 a2 a3 a4 : Tok) (e1 : nm2 = nm) (e2 : th2 = th) (e3 : v = .none) (e4 : ns = (r, instObj 269 rd) :: (rd, d) :: (p, tupO #[.int sz a1, .int gl a2, .int th2 a3]) :: g (listOf (its.push (.ref r)) (n + 1))) (f1 : IsMkRow w (.str nm2 a4) (.ref p) d) (f2 : AllLt p news) (f3 : AllLt rd news) (f4 : AllLt r news) : RT_c_lp w news g gl sz its n nm th v ns
def S_c_lp (kx : Cx) : Prop := ∀ (news : Led) (g : Obj → Led) (mx mdd rl n ox dx : Nat) (d' : Obj) (c dst src off imm more gl sz : Int) (k1 k2 : Int) (t1 t2 tn tg ts : Tok) (nl : Value) (its : Array Value) (o nm : Str) (th : Int) (hm1 : (mx, instObj 375 mdd) ∈ news) (hm2 : (mdd, dictOf [⟨k1, .str (Str.ofString "rows") t1, .ref rl⟩, ⟨k2, .str (Str.ofString "next_label") t2, nl⟩] 2) ∈ news) (hm3 : (rl, listOf its n) ∈ news) (hU : UpdF rl (listOf its n) news g) (hs : Nat.ble its.size 100 = true) (ho1 : (ox, instObj 133 dx) ∈ news) (ho2 : (dx, d') ∈ news) (hd : IsOrd c dst src off imm more d') (hw : LayW c src imm o nm th), Bd kx 25 (Str.ofString "lay_plain") (scopeAt "lay_plain") 386 385 (bodyAt "lay_plain") (fun yq => [(Str.ofString "maker", (.ref mx : Value)), (Str.ofString "name", (.str (bname o) tn : Value)), (Str.ofString "order", (.ref ox : Value)), (Str.ofString "goal", (.int gl tg : Value)), (Str.ofString "size", (.int sz ts : Value))].reverse.lookup yq) (news) (RT_c_lp kx.w news g gl sz its n nm th)
noncomputable def kap_c_lp : Cx := kapOf S_c_lp
set_option maxHeartbeats 4000000 in
theorem c_lp_k : S_c_lp kap_c_lp := by
  intro news g mx mdd rl n ox dx d' c dst src off imm more gl sz k1 k2 t1 t2 tn tg ts nl its o nm th hm1 hm2 hm3 hU hs ho1 ho2 hd hw
  have e1 : (scopeAt "lay_plain") = (scopeAt "lay_plain") := rfl
  conv at e1 => rhs; whnf
  have e2 : (bodyAt "lay_plain") = (bodyAt "lay_plain") := rfl
  conv at e2 => rhs; whnf
  (try dsimp only at e1)
  (try dsimp only at e2)
  refine @bd_lit _ _ _ _ _ _ _ _ _ _ _ _ e1 e2 ?_
  clear e1 e2
  unfold Bd
  k_fill
  intro h tk HB HF HX HN HT hdp hun hE hret
  have HW : Wf kap_c_lp 25 := ⟨HB, HX, HT, hdp, hun⟩
  obtain ⟨h1, h2, h3, h4, h5, h6, w1, w2, w3, w4, w5, w6, v1, v2, v3, v4, v5, v6, rfl⟩ := hd
  refine frLet HF ?_
  intro mk HF9
  clear HF
  refine ledLet (by with_reducible assumption) ?_
  intro nk HN9
  k_steps
  all_goals (refine' hret _ _ _ _ _ (.mk _ _ _ _ _ _ _ _ _ _ ?e1 ?e2 rfl rfl ?a ?b ?c ?d) ?F ?N
             case a => assumption
             case N => k_asm
             case F => k_asm
             case e1 => assumption
             case e2 => assumption
             case b => exact allLt_subL (by with_reducible assumption) sub_refl
             case c => exact allLt_subA (by with_reducible assumption) (sub_tl sub_refl)
             case d => exact allLt_subA (by with_reducible assumption) (sub_tl sub_refl))
theorem c_lp {w : World} {mean : ExcName → Option Value} {mg mb : Str → Option Value} {news : Led} {g : Obj → Led} {mx mdd rl n ox dx : Nat} {d' : Obj} {c dst src off imm more gl sz : Int} {k1 k2 : Int} {t1 t2 tn tg ts : Tok} {nl : Value} {its : Array Value} {o nm : Str} {th : Int} (hm1 : (mx, instObj 375 mdd) ∈ news) (hm2 : (mdd, dictOf [⟨k1, .str (Str.ofString "rows") t1, .ref rl⟩, ⟨k2, .str (Str.ofString "next_label") t2, nl⟩] 2) ∈ news) (hm3 : (rl, listOf its n) ∈ news) (hU : UpdF rl (listOf its n) news g) (hs : Nat.ble its.size 100 = true) (ho1 : (ox, instObj 133 dx) ∈ news) (ho2 : (dx, d') ∈ news) (hd : IsOrd c dst src off imm more d') (hw : LayW c src imm o nm th) :
   Ct w mean mg mb 26 386 (news) True [.ref mx, .str (bname o) tn, .ref ox, .int gl tg, .int sz ts] (RT_c_lp w news g gl sz its n nm th) := by
  k_extra "Z1"
  exact @kap_all S_c_lp c_lp_k ⟨w, mean, mg, mb, dp, un, gd, outer, A₀, base, h₀, L, s, Q, E⟩ news g mx mdd rl n ox dx d' c dst src off imm more gl sz k1 k2 t1 t2 tn tg ts nl its o nm th hm1 hm2 hm3 hU hs ho1 ho2 hd hw
theorem updF_app {d : Addr} {o : Obj} {l : Led} {g : Obj → Led} (T : Led) (hT : ∀ q ∈ T, q.1 ≠ d) (h : UpdF d o l g) : UpdF d o (T ++ l) (fun o' => T ++ g o') := by
  induction T with
  | nil => exact h
  | cons q T ih => exact .tail (hT q (.head _)) (ih fun p hp => hT p (.tail _ hp))
theorem c_lp_v (kx : Cx) (cn8 : Str) (cs8 : Scope) (a8 : Addr) (ccd8 : Value) (cl8 : List (Str × Addr)) (zk : cs8.kind = .function) {D8 : Nat} (zW : Wf kx D8) (zD : Nat.ble 26 D8 = true) {news : Led} {g : Obj → Led} {mx mdd rl n ox dx : Nat} {d' : Obj} {c dst src off imm more gl sz : Int} {k1 k2 : Int} {t1 t2 tn tg ts : Tok} {nl : Value} {its : Array Value} {o nm : Str} {th : Int} {m8 : Str → Option Value} {h9 : Heap} {tk9 : Nat} {Q8 E8 : Value → Shared → Prop} (zF : Fr kx.h₀ kx.L h9 m8) (zN : News kx.h₀ kx.L h9 news) (hm1 : (mx, instObj 375 mdd) ∈ news) (hm2 : (mdd, dictOf [⟨k1, .str (Str.ofString "rows") t1, .ref rl⟩, ⟨k2, .str (Str.ofString "next_label") t2, nl⟩] 2) ∈ news) (hm3 : (rl, listOf its n) ∈ news) (hU : UpdF rl (listOf its n) news g) (hs : Nat.ble its.size 100 = true) (ho1 : (ox, instObj 133 dx) ∈ news) (ho2 : (dx, d') ∈ news) (hd : IsOrd c dst src off imm more d') (hw : LayW c src imm o nm th) {rx : Nat → Array Value} (hp : ∀ r, its.push (.ref r) = rx r) {T : Led} (hTm : ∀ q ∈ T, q ∈ news) (hap : ∀ q ∈ T, q.1 ≠ rl) (ha1 : mx ≠ rl) (ha2 : mdd ≠ rl) (ha3 : ox ≠ rl) (ha4 : dx ≠ rl) {qx qy : Addr × Obj} (hxT : qx ∈ T) (hyT : qy ∈ T)
   (kk9 : ∀ (r : Nat) (T0 : Led) (a1 a2 a3 : Tok) (h' : Heap) (tk' : Nat) (nw : Led), IsRw nm #[.int sz a1, .int gl a2, .int th a3] r T0 → UpdF rl (listOf (rx r) (n + 1)) nw (fun o' => T0 ++ g o') → (mx, instObj 375 mdd) ∈ nw → (mdd, dictOf [⟨k1, .str (Str.ofString "rows") t1, .ref rl⟩, ⟨k2, .str (Str.ofString "next_label") t2, nl⟩] 2) ∈ nw → (rl, listOf (rx r) (n + 1)) ∈ nw → (ox, instObj 133 dx) ∈ nw → (dx, d') ∈ nw → (∀ q ∈ T, q ∈ nw) → qx ∈ nw → qy ∈ nw → Fr kx.h₀ kx.L h' m8 → News kx.h₀ kx.L h' nw → Q8 .none (kSt kx h' tk')) : wpAny (kMd kx) (kAr kx (envX cn8 cs8 kx.L a8 ccd8 cl8)) (call (.ref 386) [.ref mx, .str (bname o) tn, .ref ox, .int gl tg, .int sz ts]) Q8 E8 (kSt kx h9 tk9) := by
  refine cv_use kx cn8 cs8 a8 ccd8 cl8 zk zW zD (c_lp (hm1 := hm1) (hm2 := hm2) (hm3 := hm3) (hU := hU) (hs := hs) (ho1 := ho1) (ho2 := ho2) (hd := hd) (hw := hw)) zF zN ?_
  rintro v news' h' tk' ⟨nm2, th2, r, rd, p, d, a1, a2, a3, a4, rfl, rfl, rfl, rfl, f1, f2, f3, f4⟩ F N
  rw [hp] at N
  refine kk9 r [_, _, _] a1 a2 a3 _ _ _ (isRw_of f1) (updF_app _ ?_ (updF_up hU _)) (List.mem_append_right _ (updF_mem hU _ hm1 ha1)) (List.mem_append_right _ (updF_mem hU _ hm2 ha2)) (List.mem_append_right _ (updF_in hU _)) (List.mem_append_right _ (updF_mem hU _ ho1 ha3)) (List.mem_append_right _ (updF_mem hU _ ho2 ha4)) (fun q hq => List.mem_append_right _ (updF_mem hU _ (hTm q hq) (hap q hq))) (List.mem_append_right _ (updF_mem hU _ (hTm _ hxT) (hap _ hxT))) (List.mem_append_right _ (updF_mem hU _ (hTm _ hyT) (hap _ hyT))) F N
  intro q hq
  simp only [List.mem_cons, List.not_mem_nil, or_false] at hq
  rcases hq with rfl | rfl | rfl
  · exact (Nat.ne_of_lt (allLt_get f4 _ hm3)).symm
  · exact (Nat.ne_of_lt (allLt_get f3 _ hm3)).symm
  · exact (Nat.ne_of_lt (allLt_get f2 _ hm3)).symm

example : True := by
  k_with "off D5p" => skip
  trivial
end
section
set_option maxHeartbeats 1000000
example : True := by
  k_with ".ite" => ((fail_if_success k_extra "off D5l"); (k_here; with_reducible refine D5r_ifsize (by assumption) ?_))
  k_with ".ite" => ((fail_if_success k_extra "off D5l"); (k_here; with_reducible refine D5r_ifname ?_))
  k_with ".binaryOp Add str str" => ((fail_if_success k_extra "off D5l"); (k_here; with_reducible refine D5r_add_imm (fun _ _ => ?_)))
  trivial
inductive PA (q : Addr × Obj) (T : Led) : Prop where
  | mk (h : q ∈ T) : PA q T
theorem prog_at {q : Addr × Obj} {T : Led} (h : PA q T) : q ∈ T := h.casesOn id
example : True := by
  k_with "T:k_mem" => ((fail_if_success k_extra "off D5l"); assumption)
  k_with ".UpdF" => ((fail_if_success k_extra "off D5l"); first | assumption | exact UpdF.head (by k_all) | exact UpdF.tail (by k_ne) (by assumption) | (refine' UpdF.tail (p := (_, _)) ?zzCo ?yyCo; (case yyCo => walk_at "UpdF"); (case zzCo => k_ne)))
  k_with ".UpdF" => ((fail_if_success k_extra "off D5l"); first | assumption | exact UpdF.tail (by k_ne) (by assumption))
  k_with ".call ref" => (k_here; (with_reducible show wpAny _ _ (call (Value.ref 386) [_, _, _, _, _]) _ _ _); k_dflt ((refine' c_lp_v _ _ _ _ _ _ rfl ?WCq ?zDCq ?FCq ?NCq ?a1Cq ?a2Cq ?a3Cq ?hUCq ?hsCq ?b1Cq ?b2Cq ?b3Cq ?hwCq ?hpCq ?x1Cq ?x2Cq ?x3Cq ?x4Cq ?x5Cq ?x6Cq ?x7Cq ?x8Cq ?_); (case WCq => assumption); (case zDCq => exact rfl); (case FCq => k_asm); (case NCq => k_asm); (case a1Cq => assumption); (case a2Cq => assumption); (case a3Cq => assumption); (case hUCq => assumption); (case hsCq => exact rfl); (case b1Cq => assumption); (case b2Cq => assumption); (case b3Cq => first | assumption | exact isOrd_mk); (case hwCq => assumption); (case hpCq => exact fun _ => rfl); (case x1Cq => assumption); (case x2Cq => assumption); (case x3Cq => assumption); (case x4Cq => assumption); (case x5Cq => assumption); (case x6Cq => assumption); (case x7Cq => exact prog_at (by assumption)); (case x8Cq => assumption)); (intro r9Z T9Z q91Z q92Z q93Z h9Z tk9Z nw9Z hR9Z hU9Z m1Z m2Z m3Z m4Z m5Z m6Z m7Z m8Z F9Z N9Z))
  trivial
theorem c_target_v (kx : Cx) (cn8 : Str) (cs8 : Scope) (a8 : Addr) (ccd8 : Value) (cl8 : List (Str × Addr)) (zk : cs8.kind = .function) {D8 : Nat} (zW : Wf kx D8) (zD : Nat.ble 26 D8 = true) {news T : Led} {ox dx ny lz px : Nat} {d' : Obj} {c dst src off imm more : Int} {t4 : Tok} {m8 : Str → Option Value} {h9 : Heap} {tk9 : Nat} {Q8 E8 : Value → Shared → Prop} (zF : Fr kx.h₀ kx.L h9 m8) (zN : News kx.h₀ kx.L h9 news) (hm1 : (ox, instObj 133 dx) ∈ news) (hm2 : (dx, d') ∈ news) (hd : IsOrd c dst src off imm more d') (hT : IsProg kx.w ox ny lz px T) (hTm : ∀ q ∈ T, q ∈ news) (hc2 : (c == 133) = false) (hc3 : (c == 6) = false) (hf : off = 0 ∨ off = 1)
   (kk9 : ∀ (t : Tok) (h' : Heap) (tk' : Nat), Fr kx.h₀ kx.L h' m8 → News kx.h₀ kx.L h' news → Q8 (.int (1 + off) t) (kSt kx h' tk')) : wpAny (kMd kx) (kAr kx (envX cn8 cs8 kx.L a8 ccd8 cl8)) (call (.ref 428) [.ref px, .int 0 t4]) Q8 E8 (kSt kx h9 tk9) := by
  refine cv_use kx cn8 cs8 a8 ccd8 cl8 zk zW zD (c_target (hm1 := hm1) (hm2 := hm2) (hd := hd) (hT := hT) (hTm := hTm) (hc2 := hc2) (hc3 := hc3) (hf := hf)) zF zN ?_
  rintro v news' h' tk' ⟨⟨t, rfl⟩, rfl⟩ F N
  exact kk9 t _ _ F N
example : True := by
  k_with ".call ref" => (k_here; (with_reducible show wpAny _ _ (call (Value.ref 428) [_, _]) _ _ _); k_dflt (refine c_target_v _ _ _ _ _ _ rfl (zW := by assumption) (zD := by exact rfl) (zF := by k_asm) (zN := by k_asm) (hm1 := by walk_at "Mem") (hm2 := by walk_at "Mem") (hd := by (first | assumption | exact isOrd_mk)) (hT := by assumption) (hTm := by assumption) (hc2 := by assumption) (hc3 := by assumption) (hf := by assumption) (kk9 := ?_)); walk_at "After")
  trivial
inductive RT_c_lay (g : Obj → Led) (dst off sz : Int) (o nm : Str) (th : Int) (v : Value) (ns : Led) : Prop where
  | mk (r0 r1 : Nat) (T0 T1 : Led) (n : Nat) (a1 a2 a3 b1 b2 b3 : Tok) (e1 : v = .none) (e2 : ns = T1 ++ (T0 ++ g (listOf #[.ref r0, .ref r1] n))) (f1 : IsRw nm #[.int sz a1, .int (hostR dst) a2, .int th a3] r0 T0) (f2 : IsRw (Str.ofString "jcc") #[.str (condT o) b1, .str (Str.ofString "order") b2, .int (1 + off) b3] r1 T1) : RT_c_lay g dst off sz o nm th v ns
def S_c_lay (kx : Cx) : Prop := ∀ (news T : Led) (g : Obj → Led) (mx md rl rn ox dx ny lz px : Nat) (d' : Obj) (c dst src off imm more sz : Int) (o nm : Str) (th : Int) (k1 k2 : Int) (t1 t2 t4 : Tok) (nl : Value) (hm1 : (mx, instObj 375 md) ∈ news) (hm2 : (md, dictOf [⟨k1, .str (Str.ofString "rows") t1, .ref rl⟩, ⟨k2, .str (Str.ofString "next_label") t2, nl⟩] 2) ∈ news) (hm3 : (rl, listOf #[] rn) ∈ news) (hU : UpdF rl (listOf #[] rn) news g) (ho1 : (ox, instObj 133 dx) ∈ news) (ho2 : (dx, d') ∈ news) (hd : IsOrd c dst src off imm more d') (hT : IsProg kx.w ox ny lz px T) (hTm : ∀ q ∈ T, q ∈ news) (ho : o ∈ ops) (hk : SizeOk sz c) (hi : c.fdiv (2 ^ Int.toNat 4) = spot o) (hc2 : (c == 133) = false) (hc3 : (c == 6) = false) (hd0 : 0 ≤ dst) (hd1 : dst < 11) (hf : off = 0 ∨ off = 1) (ha1 : mx ≠ rl) (ha2 : md ≠ rl) (ha3 : ox ≠ rl) (ha4 : dx ≠ rl) (hap : ∀ q ∈ T, q.1 ≠ rl) (hw : LayW c src imm o nm th), Bd kx 31 (Str.ofString "lay_branch") (scopeAt "lay_branch") 393 392 (bodyAt "lay_branch") (fun yq => [(Str.ofString "maker", (.ref mx : Value)), (Str.ofString "program", (.ref px : Value)), (Str.ofString "at", (.int 0 t4 : Value))].reverse.lookup yq) (news) (RT_c_lay g dst off sz o nm th)
noncomputable def kap_c_lay : Cx := kapOf S_c_lay
set_option maxHeartbeats 4000000 in
theorem c_lay_k : S_c_lay kap_c_lay := by
  intro news T g mx md rl rn ox dx ny lz px d' c dst src off imm more sz o nm th k1 k2 t1 t2 t4 nl hm1 hm2 hm3 hU ho1 ho2 hd hT hTm ho hk hi hc2 hc3 hd0 hd1 hf ha1 ha2 ha3 ha4 hap hw
  have e1 : (scopeAt "lay_branch") = (scopeAt "lay_branch") := rfl
  conv at e1 => rhs; whnf
  have e2 : (bodyAt "lay_branch") = (bodyAt "lay_branch") := rfl
  conv at e2 => rhs; whnf
  (try dsimp only at e1)
  (try dsimp only at e2)
  refine @bd_lit _ _ _ _ _ _ _ _ _ _ _ _ e1 e2 ?_
  clear e1 e2
  unfold Bd
  k_fill
  intro h tk HB HF HX HN HT hdp hun hE hret
  have HW : Wf kap_c_lay 31 := ⟨HB, HX, HT, hdp, hun⟩
  obtain ⟨h1, h2, h3, h4, h5, h6, w1, w2, w3, w4, w5, w6, v1, v2, v3, v4, v5, v6, rfl⟩ := hd
  have hT0 := hT
  obtain ⟨pd, ol, sl, bd, sb, c1, c2, ob, kvs, D, g1, g2, g3, g4, g5, y1, y2, y3, y4, y5, z1, z2, z3, z4, e9, hlo, hdo, hdf, hl1, hl2⟩ := hT
  have e8 := hTm
  rw [e9] at e8
  have q1 := e8 _ (.head _)
  have q2 := e8 _ (.tail _ (.head _))
  have q3 := e8 _ (.tail _ (.tail _ (.head _)))
  have p1 : PA (px, instObj 450 pd) T := ⟨by rw [e9]; exact .head _⟩
  have p2 : (pd, dictOf [⟨g1, .str (Str.ofString "orders") y1, .ref ol⟩, ⟨g2, .str (Str.ofString "slots") y2, .ref sl⟩, ⟨g3, .str (Str.ofString "by_slot") y3, .ref bd⟩, ⟨g4, .str (Str.ofString "many_slots") y4, .int 3 z1⟩, ⟨g5, .str (Str.ofString "subs") y5, .ref sb⟩] 5) ∈ T := by rw [e9]; exact .tail _ (.head _)
  clear e8 e9
  refine frLet HF ?_
  intro mk HF9
  clear HF
  refine ledLet (by with_reducible assumption) ?_
  intro nk HN9
  k_steps
  all_goals (refine' hret _ _ _ _ _ (.mk _ _ _ [_, _, _] _ _ _ _ _ _ _ rfl ?e2 ?a ?b) ?F ?N
             case e2 => exact rfl
             case a => assumption
             case N => k_asm
             case F => k_asm
             case b => exact isRw_of (by assumption))
theorem c_lay {w : World} {mean : ExcName → Option Value} {mg mb : Str → Option Value} {news T : Led} {g : Obj → Led} {mx md rl rn ox dx ny lz px : Nat} {d' : Obj} {c dst src off imm more sz : Int} {o nm : Str} {th : Int} {k1 k2 : Int} {t1 t2 t4 : Tok} {nl : Value} (hm1 : (mx, instObj 375 md) ∈ news) (hm2 : (md, dictOf [⟨k1, .str (Str.ofString "rows") t1, .ref rl⟩, ⟨k2, .str (Str.ofString "next_label") t2, nl⟩] 2) ∈ news) (hm3 : (rl, listOf #[] rn) ∈ news) (hU : UpdF rl (listOf #[] rn) news g) (ho1 : (ox, instObj 133 dx) ∈ news) (ho2 : (dx, d') ∈ news) (hd : IsOrd c dst src off imm more d') (hT : IsProg w ox ny lz px T) (hTm : ∀ q ∈ T, q ∈ news) (ho : o ∈ ops) (hk : SizeOk sz c) (hi : c.fdiv (2 ^ Int.toNat 4) = spot o) (hc2 : (c == 133) = false) (hc3 : (c == 6) = false) (hd0 : 0 ≤ dst) (hd1 : dst < 11) (hf : off = 0 ∨ off = 1) (ha1 : mx ≠ rl) (ha2 : md ≠ rl) (ha3 : ox ≠ rl) (ha4 : dx ≠ rl) (hap : ∀ q ∈ T, q.1 ≠ rl) (hw : LayW c src imm o nm th) :
   Ct w mean mg mb 32 393 (news) True [.ref mx, .ref px, .int 0 t4] (RT_c_lay g dst off sz o nm th) := by
  k_extra "Z1"
  exact @kap_all S_c_lay c_lay_k ⟨w, mean, mg, mb, dp, un, gd, outer, A₀, base, h₀, L, s, Q, E⟩ news T g mx md rl rn ox dx ny lz px d' c dst src off imm more sz o nm th k1 k2 t1 t2 t4 nl hm1 hm2 hm3 hU ho1 ho2 hd hT hTm ho hk hi hc2 hc3 hd0 hd1 hf ha1 ha2 ha3 ha4 hap hw
example : True := by
  k_with "off D5l" => skip
  trivial
end
section
set_option maxHeartbeats 1000000
inductive RT_layg (mx md rl : Nat) (rest : Led) (dst off sz : Int) (o nm : Str) (th k1 k2 : Int) (t1 t2 t3 : Tok) (v : Value) (ns : Led) : Prop where
  | mk (r0 r1 : Nat) (T0 T1 : Led) (n : Nat) (a1 a2 a3 b1 b2 b3 : Tok) (q9 : v = .none ∧ ns = (mx, instObj 375 md) :: (md, dictOf [⟨k1, .str (Str.ofString "rows") t1, .ref rl⟩, ⟨k2, .str (Str.ofString "next_label") t2, .int 0 t3⟩] 2) :: (rl, listOf #[.ref r0, .ref r1] n) :: (T1 ++ (T0 ++ rest)) ∧ IsRw nm #[.int sz a1, .int (hostR dst) a2, .int th a3] r0 T0 ∧ IsRw (Str.ofString "jcc") #[.str (condT o) b1, .str (Str.ofString "order") b2, .int (1 + off) b3] r1 T1) : RT_layg mx md rl rest dst off sz o nm th k1 k2 t1 t2 t3 v ns
theorem mem_lay {T1 T0 R : Led} {a b c q : Addr × Obj} (hq : q ∈ a :: b :: c :: (T1 ++ (T0 ++ R))) : q ∈ T1 ++ (T0 ++ a :: b :: c :: R) := by
  rcases List.mem_cons.mp hq with h | hq
  · exact List.mem_append_right _ (List.mem_append_right _ (h ▸ .head _))
  rcases List.mem_cons.mp hq with h | hq
  · exact List.mem_append_right _ (List.mem_append_right _ (h ▸ .tail _ (.head _)))
  rcases List.mem_cons.mp hq with h | hq
  · exact List.mem_append_right _ (List.mem_append_right _ (h ▸ .tail _ (.tail _ (.head _))))
  rcases List.mem_append.mp hq with h | hq
  · exact List.mem_append_left _ h
  rcases List.mem_append.mp hq with h | hq
  · exact List.mem_append_right _ (List.mem_append_left _ h)
  · exact List.mem_append_right _ (List.mem_append_right _ (.tail _ (.tail _ (.tail _ hq))))
theorem c_layg {w : World} {mean : ExcName → Option Value} {mg mb : Str → Option Value} {mx md rl rn ox dx ny lz px : Nat} {rest T : Led} {d' : Obj} {c dst src off imm more sz : Int} {o nm : Str} {th k1 k2 : Int} {t1 t2 t3 t4 : Tok} (hm1 : (ox, instObj 133 dx) ∈ rest) (hm2 : (dx, d') ∈ rest) (hd : IsOrd c dst src off imm more d') (hT : IsProg w ox ny lz px T) (hTm : ∀ q ∈ T, q ∈ rest) (ho : o ∈ ops) (hk : SizeOk sz c) (hi : c.fdiv (2 ^ Int.toNat 4) = spot o) (hc2 : (c == 133) = false) (hc3 : (c == 6) = false) (hd0 : 0 ≤ dst) (hd1 : dst < 11) (hf : off = 0 ∨ off = 1) (ha1 : mx ≠ rl) (ha2 : md ≠ rl) (hap : ∀ q ∈ rest, q.1 ≠ rl) (hw : LayW c src imm o nm th) :
   Ct w mean mg mb 32 393 ((mx, instObj 375 md) :: (md, dictOf [⟨k1, .str (Str.ofString "rows") t1, .ref rl⟩, ⟨k2, .str (Str.ofString "next_label") t2, .int 0 t3⟩] 2) :: (rl, listOf #[] rn) :: rest) True [.ref mx, .ref px, .int 0 t4] (RT_layg mx md rl rest dst off sz o nm th k1 k2 t1 t2 t3) :=
  fun dp un gd cn cs a ccd cl outer A₀ base h₀ L m s Q E B F X N T' hk9 hp hd9 hu hR =>
    c_lay (g := fun ob => (mx, instObj 375 md) :: (md, dictOf [⟨k1, .str (Str.ofString "rows") t1, .ref rl⟩, ⟨k2, .str (Str.ofString "next_label") t2, .int 0 t3⟩] 2) :: (rl, ob) :: rest) (T := T) (.head _) (.tail _ (.head _)) (.tail _ (.tail _ (.head _))) (.tail ha1 (.tail ha2 (.head hap))) (.tail _ (.tail _ (.tail _ hm1))) (.tail _ (.tail _ (.tail _ hm2))) hd hT (fun q hq => .tail _ (.tail _ (.tail _ (hTm q hq)))) ho hk hi hc2 hc3 hd0 hd1 hf ha1 ha2 (hap _ hm1) (hap _ hm2) (fun q hq => hap q (hTm q hq)) hw dp un gd cn cs a ccd cl outer A₀ base h₀ L m s Q E B F X N T' hk9 hp hd9 hu
      (fun v ns h' tk' R F' N' => by
        obtain ⟨r0, r1, T0, T1, n, a1, a2, a3, b1, b2, b3, rfl, rfl, f1, f2⟩ := R
        exact hR _ _ h' tk' ⟨r0, r1, T0, T1, n, a1, a2, a3, b1, b2, b3, rfl, rfl, f1, f2⟩ F' (fun q hq => N' q (mem_lay hq)))
end
section
set_option maxHeartbeats 1000000
example : True := by
  k_with "nolean" => fail_if_success k_extra "off D6"
  trivial
def st2 (a b : Str) (n : Str) (D : PDs) : PDs := PyProof.V.putD (.str (n ++ Str.ofString "_imm")) (.str b) (PyProof.V.putD (.str n) (.str a) D)
def st1 (a : Str) (n : Str) (D : PDs) : PDs := PyProof.V.putD (.str n) (.str a) D
theorem putD_le {k v : PyData} {D : PDs} {n : Nat} (h : D.length ≤ n) : (PyProof.V.putD k v D).length ≤ n + 1 := by
  rw [PyProof.Rows.length_putD]; split <;> omega
theorem st2_len (a b n : Str) (D : PDs) : (st2 a b n D).length ≤ D.length + 2 := putD_le (putD_le (Nat.le_refl _))
theorem st1_len (a n : Str) (D : PDs) : (st1 a n D).length ≤ D.length + 2 := Nat.le_succ_of_le (putD_le (Nat.le_refl _))
theorem line1 {D : PDs} (h : D.length ≤ 1000) : D.length ≤ sizeLine := Nat.le_trans h (by decide +kernel)
theorem line2 {k v : PyData} {D : PDs} (h : D.length ≤ 1000) : (PyProof.V.putD k v D).length ≤ sizeLine := Nat.le_trans (putD_le h) (by decide +kernel)
theorem imm_line {n : Str} (h : n.length ≤ 100) : n.length + (Str.ofString "_imm").length ≤ sizeLine := Nat.le_trans (Nat.add_le_add_right h _) (by decide +kernel)
def nm0 : List Str := [Str.ofString "mov", Str.ofString "imul", Str.ofString "add", Str.ofString "sub", Str.ofString "and", Str.ofString "or", Str.ofString "xor", Str.ofString "cmp", Str.ofString "test"]
theorem nm0_len : ∀ n ∈ nm0, n.length ≤ 100 := by decide
def nm1 : List Str := [Str.ofString "shl", Str.ofString "shr", Str.ofString "sar"]
theorem nm1_len : ∀ n ∈ nm1, n.length ≤ 100 := by decide
def nm2 : List Str := [Str.ofString "div", Str.ofString "idiv"]
theorem nm2_len : ∀ n ∈ nm2, n.length ≤ 100 := by decide
def nm3 : List Str := [Str.ofString "lock_add", Str.ofString "lock_and", Str.ofString "lock_or", Str.ofString "lock_xor", Str.ofString "xadd", Str.ofString "xchg_mem", Str.ofString "cmpxchg"]
theorem nm3_len : ∀ n ∈ nm3, n.length ≤ 100 := by decide
def nm4 : List Str := [Str.ofString "push", Str.ofString "pop"]
theorem nm4_len : ∀ n ∈ nm4, n.length ≤ 100 := by decide
def nm5 : List Str := [Str.ofString "order", Str.ofString "label", Str.ofString "entry", Str.ofString "call", Str.ofString "call_host"]
theorem nm5_len : ∀ n ∈ nm5, n.length ≤ 100 := by decide
abbrev thePr : Program := PySem.Challenge.rw_ok0177_01.row.prog
def needed : List (Str × Str) := [(Str.ofString "cmp", Str.ofString "zrr"), (Str.ofString "cmp_imm", Str.ofString "zri"), (Str.ofString "test", Str.ofString "zrr"), (Str.ofString "test_imm", Str.ofString "zri"), (Str.ofString "jcc", Str.ofString "ckl"), (Str.ofString "order", Str.ofString "l"), (Str.ofString "mov_imm", Str.ofString "zri"), (Str.ofString "ret", Str.ofString "")]
def ShapesOf (w : World) (d : Nat) (o : Obj) : Prop := (d == sysModules) = false ∧ ∃ D, DictS thePr w o D ∧ ∀ p ∈ needed, PySem.Spec.lookup (.str p.1) D = some (.str p.2)
example : True := by
  k_with ".TurnEnd" => ((fail_if_success k_extra "off D6"); (k_dflt (refine' TurnEnd.intro ?FCs ?NCs ?dCs; (case FCs => k_asm); (case NCs => k_asm); (case dCs => assumption))))
  k_with ".exec For Name Tuple cons nil" => ((fail_if_success k_extra "off D6"); (k_here; k_dflt (refine' For_k ?FCt ?hxCt ?hpCt ?_ ?hsCt ?hECt; (case FCt => k_asm); (case hxCt => rfl); (case hpCt => rfl); (case hsCt => (intro _; rfl)); (case hECt => passes_own))))
  k_with ".setItem ref str" => ((fail_if_success k_extra "off D6"); (k_here; (with_reducible rename DictS _ _ _ _ => hds9); obtain ⟨kv9, hd9, hf9⟩ := hds9; k_dflt (refine' setItem_madeIn PyProof.V.same_str (strKind_is _ _ _ _) ?vCu ?FCu ?NCu ?h1Cu ?h2Cu ?dCu ?fCu (fun h' o' F' N' hd' hf' => ?_) ?zCu; (case FCu => k_asm); (case NCu => k_asm); (case h1Cu => assumption); (case h2Cu => (first | exact all_ne_lt (by with_reducible assumption) | exact allNe_of (by assumption))); (case dCu => assumption); (case fCu => assumption); (case vCu => exact PyProof.V.Flat.str _ _); (case zCu => first | exact line1 (by assumption) | exact line2 (by assumption))); have hds' : DictS _ _ _ _ := ⟨_, hd', hf'⟩; clear hd' hf' hd9 hf9))
  k_with ".setItem ref str" => ((fail_if_success k_extra "off D6"); (k_here; (with_reducible rename DictS _ _ _ _ => hds9); obtain ⟨kv9, hd9, hf9⟩ := hds9; k_dflt (refine' setItem_madeIn (own := []) PyProof.V.same_str (strKind_is _ _ _ _) ?vCv ?FCv ?NCv ?h1Cv ?h2Cv ?dCv ?fCv (fun h' o' F' N' hd' hf' => ?_) ?zCv; (case FCv => k_asm); (case NCv => k_asm); (case h1Cv => exact List.forall_mem_nil _); (case h2Cv => (first | exact all_ne_lt (by with_reducible assumption) | exact allNe_of (by assumption))); (case dCv => assumption); (case fCv => assumption); (case vCv => exact PyProof.V.Flat.str _ _); (case zCv => exact Nat.le_trans (Nat.le_of_ble_eq_true (by kernel_rfl)) (by decide +kernel : 1000 ≤ sizeLine))); have hds' : DictS _ _ _ _ := ⟨_, hd', hf'⟩; clear hd' hf' hd9 hf9))
  k_with ".binaryOp Add str str" => ((fail_if_success k_extra "off D6"); (k_here; k_dflt (refine' PyProof.Rows.add_str (fun _ _ => ?_) (imm_line ?lCw); (case lCw => assumption))))
  k_with ".pyIter ref" => ((fail_if_success k_extra "off D6"); (k_here; k_dflt ((first | (refine' iter_strs (xs := nm0) (st2 (Str.ofString "zrr") (Str.ofString "zri")) ?hstCx ?hLCx ?hhCx ?FCx ?NCx ?hdCx ?hiCx ?hbCx (fun n t D o u h' tk' own hn' hlen' hds' F' N' hown' => (have hnl' := nm0_len _ hn'; ?_)) (fun h' tk' o' u' hds' F' N' => ?_); (case NCx => k_asm); (case hiCx => unfold nm0; (repeat (first | exact StrsAre.nil | refine StrsAre.cons _ _ ?_))); (case hstCx => exact st2_len _ _)) | (refine' iter_strs (xs := nm1) (st2 (Str.ofString "zr") (Str.ofString "zrn")) ?hstCx ?hLCx ?hhCx ?FCx ?NCx ?hdCx ?hiCx ?hbCx (fun n t D o u h' tk' own hn' hlen' hds' F' N' hown' => (have hnl' := nm1_len _ hn'; ?_)) (fun h' tk' o' u' hds' F' N' => ?_); (case NCx => k_asm); (case hiCx => unfold nm1; (repeat (first | exact StrsAre.nil | refine StrsAre.cons _ _ ?_))); (case hstCx => exact st2_len _ _)) | (refine' iter_strs (xs := nm2) (st1 (Str.ofString "zr")) ?hstCx ?hLCx ?hhCx ?FCx ?NCx ?hdCx ?hiCx ?hbCx (fun n t D o u h' tk' own hn' hlen' hds' F' N' hown' => (have hnl' := nm2_len _ hn'; ?_)) (fun h' tk' o' u' hds' F' N' => ?_); (case NCx => k_asm); (case hiCx => unfold nm2; (repeat (first | exact StrsAre.nil | refine StrsAre.cons _ _ ?_))); (case hstCx => exact st1_len _)) | (refine' iter_strs (xs := nm3) (st1 (Str.ofString "zrir")) ?hstCx ?hLCx ?hhCx ?FCx ?NCx ?hdCx ?hiCx ?hbCx (fun n t D o u h' tk' own hn' hlen' hds' F' N' hown' => (have hnl' := nm3_len _ hn'; ?_)) (fun h' tk' o' u' hds' F' N' => ?_); (case NCx => k_asm); (case hiCx => unfold nm3; (repeat (first | exact StrsAre.nil | refine StrsAre.cons _ _ ?_))); (case hstCx => exact st1_len _)) | (refine' iter_strs (xs := nm4) (st1 (Str.ofString "r")) ?hstCx ?hLCx ?hhCx ?FCx ?NCx ?hdCx ?hiCx ?hbCx (fun n t D o u h' tk' own hn' hlen' hds' F' N' hown' => (have hnl' := nm4_len _ hn'; ?_)) (fun h' tk' o' u' hds' F' N' => ?_); (case NCx => k_asm); (case hiCx => unfold nm4; (repeat (first | exact StrsAre.nil | refine StrsAre.cons _ _ ?_))); (case hstCx => exact st1_len _)) | (refine' iter_strs (xs := nm5) (st1 (Str.ofString "l")) ?hstCx ?hLCx ?hhCx ?FCx ?NCx ?hdCx ?hiCx ?hbCx (fun n t D o u h' tk' own hn' hlen' hds' F' N' hown' => (have hnl' := nm5_len _ hn'; ?_)) (fun h' tk' o' u' hds' F' N' => ?_); (case NCx => k_asm); (case hiCx => unfold nm5; (repeat (first | exact StrsAre.nil | refine StrsAre.cons _ _ ?_))); (case hstCx => exact st1_len _))); (case hLCx => rfl); (case hhCx => rfl); (case FCx => k_asm); (case hdCx => first | assumption | exact ⟨_, by assumption, by assumption⟩); (case hbCx => exact Nat.le_of_ble_eq_true (by kernel_rfl)))))
  trivial
theorem c_shapes_i {w : World} {news : Led} {h₀ : Heap} {L : Addr} {m : Str → Option Value} {s : Shared} {Q : Value → Shared → Prop}
   (kk9 : ∀ v news' h' tk', (fun (v : Value) (ns : Led) => ∃ (d : Nat) (o : Obj), v = .ref d ∧ ns = (d, o) :: news ∧ ShapesOf w d o) v news' → Fr h₀ L h' m → News h₀ L h' news' → Q v { s with heap := h', toks := tk' }) :
   ∀ (d : Nat) (o : Obj) (h' : Heap) (tk' : Nat), (ShapesOf w d o) → Fr h₀ L h' m → News h₀ L h' ((d, o) :: news) → Q (.ref d) { s with heap := h', toks := tk' } := by
  intro d o h' tk' f09 F N
  exact kk9 _ _ _ _ ⟨d, o, rfl, rfl, f09⟩ F N
set_option maxHeartbeats 4000000 in
theorem c_shapes {w : World} {mean : ExcName → Option Value} {mg mb : Str → Option Value} {news : Led}   :
   Ct w mean mg mb 8 280 (news) True [] (fun v ns => ∃ (d : Nat) (o : Obj), v = .ref d ∧ ns = (d, o) :: news ∧ ShapesOf w d o) := by
  unfold Ct
  k_fill
  intro dp un gd cn cs fa ccd cl outer A₀ base h₀ L m s Q E HB HF HX HN HT hkind hp hdp hun hret
  replace hret := c_shapes_i hret
  refine wpAny_call ?_
  k_dflt cell_enter
  k_steps
  all_goals (refine' hret _ _ _ _ ⟨?lo, _, ?hd, ?hall⟩ ?bas ?led
             case led => k_extra "Z0"
             case bas => k_asm
             case lo => assumption
             case hd => assumption
             case hall => (unfold needed; refine List.forall_mem_cons.mpr ⟨?_, ?_⟩; kernel_rfl; refine List.forall_mem_cons.mpr ⟨?_, ?_⟩; kernel_rfl; refine List.forall_mem_cons.mpr ⟨?_, ?_⟩; kernel_rfl; refine List.forall_mem_cons.mpr ⟨?_, ?_⟩; kernel_rfl; refine List.forall_mem_cons.mpr ⟨?_, ?_⟩; kernel_rfl; refine List.forall_mem_cons.mpr ⟨?_, ?_⟩; kernel_rfl; refine List.forall_mem_cons.mpr ⟨?_, ?_⟩; kernel_rfl; refine List.forall_mem_cons.mpr ⟨?_, ?_⟩; kernel_rfl; exact List.forall_mem_nil _))
theorem c_shapes_v (kx : Cx) (cn8 : Str) (cs8 : Scope) (a8 : Addr) (ccd8 : Value) (cl8 : List (Str × Addr)) (zk : cs8.kind = .function) {D8 : Nat} (zW : Wf kx D8) (zD : Nat.ble 8 D8 = true) {news : Led} {m8 : Str → Option Value} {h9 : Heap} {tk9 : Nat} {Q8 E8 : Value → Shared → Prop} (zF : Fr kx.h₀ kx.L h9 m8) (zN : News kx.h₀ kx.L h9 ((news))) 
   (kk9 : ∀ (d : Nat) (o : Obj) (h' : Heap) (tk' : Nat), (ShapesOf kx.w d o) → let n' : Led := ((d, o) :: news); Fr kx.h₀ kx.L h' m8 → News kx.h₀ kx.L h' n' → Q8 (.ref d) (kSt kx h' tk')) : wpAny (kMd kx) (kAr kx (envX cn8 cs8 kx.L a8 ccd8 cl8)) (call (.ref 280) []) Q8 E8 (kSt kx h9 tk9) := by
  refine cv_use kx cn8 cs8 a8 ccd8 cl8 zk zW zD (c_shapes) zF zN ?_
  rintro v news' h' tk' ⟨d, o, rfl, rfl, f09⟩ F N
  exact kk9 d o _ _ f09 F N
example : True := by
  k_with "off D6" => skip
  trivial
end
example : True := by
  k_with ".ite" => (k_closed; k_dflt (first | refine ite_pos (by decide +kernel) ?_ | refine ite_neg (by decide +kernel) ?_))
  trivial
section
set_option maxHeartbeats 1000000
def S_c_pfl (kx : Cx) : Prop := ∀ (news : Led) (u : Tok) (p : Nat) (n : Int) (t : Tok) (h0 : 0 ≤ n) (h1 : n ≤ 1000000), Bd kx 11 (Str.ofString "part_fits") (scopeAt "part_fits") 294 293 (bodyAt "part_fits") (fun yq => [(Str.ofString "sort", (.str ⟨#[108]⟩ u : Value)), (Str.ofString "part", (.int n t : Value)), (Str.ofString "parts", (.ref p : Value))].reverse.lookup yq) (news) (fun v ns => v = .bool true ∧ ns = news)
noncomputable def kap_c_pfl : Cx := kapOf S_c_pfl
theorem c_pfl_k : S_c_pfl kap_c_pfl := by
  intro news u p n t h0 h1
  have e1 : (scopeAt "part_fits") = (scopeAt "part_fits") := rfl
  conv at e1 => rhs; whnf
  have e2 : (bodyAt "part_fits") = (bodyAt "part_fits") := rfl
  conv at e2 => rhs; whnf
  (try dsimp only at e1)
  (try dsimp only at e2)
  refine @bd_lit _ _ _ _ _ _ _ _ _ _ _ _ e1 e2 ?_
  clear e1 e2
  unfold Bd
  k_fill
  intro h tk HB HF HX HN HT hdp hun hE hret
  have HW : Wf kap_c_pfl 11 := ⟨HB, HX, HT, hdp, hun⟩
  refine frLet HF ?_
  intro mk HF9
  clear HF
  refine ledLet (by with_reducible assumption) ?_
  intro nk HN9
  k_steps
  all_goals (refine' hret _ _ _ _ _ ⟨congrArg Value.bool ?va, rfl⟩ ?bas ?led
             case bas => k_asm
             case va => (exact decide_eq_true (by omega))
             case led => k_extra "Z3")
theorem c_pfl {w : World} {mean : ExcName → Option Value} {mg mb : Str → Option Value} {news : Led} {u : Tok} {p : Nat} {n : Int} {t : Tok} (h0 : 0 ≤ n) (h1 : n ≤ 1000000) :
   Ct w mean mg mb 12 294 (news) True [.str ⟨#[108]⟩ u, .int n t, .ref p] (fun v ns => v = .bool true ∧ ns = news) := by
  k_extra "Z1"
  exact @kap_all S_c_pfl c_pfl_k ⟨w, mean, mg, mb, dp, un, gd, outer, A₀, base, h₀, L, s, Q, E⟩ news u p n t h0 h1
def S_c_pfz (kx : Cx) : Prop := ∀ (news : Led) (u : Tok) (p : Nat) (n : Int) (t : Tok) (hz : n = 64 ∨ n = 32), Bd kx 11 (Str.ofString "part_fits") (scopeAt "part_fits") 294 293 (bodyAt "part_fits") (fun yq => [(Str.ofString "sort", (.str ⟨#[122]⟩ u : Value)), (Str.ofString "part", (.int n t : Value)), (Str.ofString "parts", (.ref p : Value))].reverse.lookup yq) (news) (fun v ns => v = .bool true ∧ ns = news)
noncomputable def kap_c_pfz : Cx := kapOf S_c_pfz
theorem c_pfz_k : S_c_pfz kap_c_pfz := by
  intro news u p n t hz
  have e1 : (scopeAt "part_fits") = (scopeAt "part_fits") := rfl
  conv at e1 => rhs; whnf
  have e2 : (bodyAt "part_fits") = (bodyAt "part_fits") := rfl
  conv at e2 => rhs; whnf
  (try dsimp only at e1)
  (try dsimp only at e2)
  refine @bd_lit _ _ _ _ _ _ _ _ _ _ _ _ e1 e2 ?_
  clear e1 e2
  unfold Bd
  k_fill
  intro h tk HB HF HX HN HT hdp hun hE hret
  have HW : Wf kap_c_pfz 11 := ⟨HB, HX, HT, hdp, hun⟩
  refine frLet HF ?_
  intro mk HF9
  clear HF
  refine ledLet (by with_reducible assumption) ?_
  intro nk HN9
  k_steps
  all_goals (refine' hret _ _ _ _ _ ⟨congrArg Value.bool ?va, rfl⟩ ?bas ?led
             case bas => k_asm
             case va => (first | assumption | (rcases hz with rfl | rfl <;> first | rfl | (exfalso; exact absurd (by assumption) (by decide))))
             case led => k_extra "Z3")
theorem c_pfz {w : World} {mean : ExcName → Option Value} {mg mb : Str → Option Value} {news : Led} {u : Tok} {p : Nat} {n : Int} {t : Tok} (hz : n = 64 ∨ n = 32) :
   Ct w mean mg mb 12 294 (news) True [.str ⟨#[122]⟩ u, .int n t, .ref p] (fun v ns => v = .bool true ∧ ns = news) := by
  k_extra "Z1"
  exact @kap_all S_c_pfz c_pfz_k ⟨w, mean, mg, mb, dp, un, gd, outer, A₀, base, h₀, L, s, Q, E⟩ news u p n t hz
def S_c_pfr (kx : Cx) : Prop := ∀ (news : Led) (u : Tok) (p : Nat) (n : Int) (t : Tok) (h0 : 0 ≤ n) (h1 : n < 16), Bd kx 11 (Str.ofString "part_fits") (scopeAt "part_fits") 294 293 (bodyAt "part_fits") (fun yq => [(Str.ofString "sort", (.str ⟨#[114]⟩ u : Value)), (Str.ofString "part", (.int n t : Value)), (Str.ofString "parts", (.ref p : Value))].reverse.lookup yq) (news) (fun v ns => v = .bool true ∧ ns = news)
noncomputable def kap_c_pfr : Cx := kapOf S_c_pfr
theorem c_pfr_k : S_c_pfr kap_c_pfr := by
  intro news u p n t h0 h1
  have e1 : (scopeAt "part_fits") = (scopeAt "part_fits") := rfl
  conv at e1 => rhs; whnf
  have e2 : (bodyAt "part_fits") = (bodyAt "part_fits") := rfl
  conv at e2 => rhs; whnf
  (try dsimp only at e1)
  (try dsimp only at e2)
  refine @bd_lit _ _ _ _ _ _ _ _ _ _ _ _ e1 e2 ?_
  clear e1 e2
  unfold Bd
  k_fill
  intro h tk HB HF HX HN HT hdp hun hE hret
  have HW : Wf kap_c_pfr 11 := ⟨HB, HX, HT, hdp, hun⟩
  refine frLet HF ?_
  intro mk HF9
  clear HF
  refine ledLet (by with_reducible assumption) ?_
  intro nk HN9
  k_steps
  all_goals (refine' hret _ _ _ _ _ ⟨congrArg Value.bool ?va, rfl⟩ ?bas ?led
             case bas => k_asm
             case va => (exact decide_eq_true (by omega))
             case led => k_extra "Z3")
theorem c_pfr {w : World} {mean : ExcName → Option Value} {mg mb : Str → Option Value} {news : Led} {u : Tok} {p : Nat} {n : Int} {t : Tok} (h0 : 0 ≤ n) (h1 : n < 16) :
   Ct w mean mg mb 12 294 (news) True [.str ⟨#[114]⟩ u, .int n t, .ref p] (fun v ns => v = .bool true ∧ ns = news) := by
  k_extra "Z1"
  exact @kap_all S_c_pfr c_pfr_k ⟨w, mean, mg, mb, dp, un, gd, outer, A₀, base, h₀, L, s, Q, E⟩ news u p n t h0 h1
def S_c_pfi (kx : Cx) : Prop := ∀ (news : Led) (u : Tok) (p : Nat) (n : Int) (t : Tok) (h0 : -2147483648 ≤ n) (h1 : n < 2147483648), Bd kx 11 (Str.ofString "part_fits") (scopeAt "part_fits") 294 293 (bodyAt "part_fits") (fun yq => [(Str.ofString "sort", (.str ⟨#[105]⟩ u : Value)), (Str.ofString "part", (.int n t : Value)), (Str.ofString "parts", (.ref p : Value))].reverse.lookup yq) (news) (fun v ns => v = .bool true ∧ ns = news)
noncomputable def kap_c_pfi : Cx := kapOf S_c_pfi
theorem c_pfi_k : S_c_pfi kap_c_pfi := by
  intro news u p n t h0 h1
  have e1 : (scopeAt "part_fits") = (scopeAt "part_fits") := rfl
  conv at e1 => rhs; whnf
  have e2 : (bodyAt "part_fits") = (bodyAt "part_fits") := rfl
  conv at e2 => rhs; whnf
  (try dsimp only at e1)
  (try dsimp only at e2)
  refine @bd_lit _ _ _ _ _ _ _ _ _ _ _ _ e1 e2 ?_
  clear e1 e2
  unfold Bd
  k_fill
  intro h tk HB HF HX HN HT hdp hun hE hret
  have HW : Wf kap_c_pfi 11 := ⟨HB, HX, HT, hdp, hun⟩
  refine frLet HF ?_
  intro mk HF9
  clear HF
  refine ledLet (by with_reducible assumption) ?_
  intro nk HN9
  k_steps
  all_goals (refine' hret _ _ _ _ _ ⟨congrArg Value.bool ?va, rfl⟩ ?bas ?led
             case bas => k_asm
             case va => (exact decide_eq_true (by rw [show (1 : Int) * 2 ^ (32 - 1 : Int).toNat = 2147483648 from by decide]; omega))
             case led => k_extra "Z3")
theorem c_pfi {w : World} {mean : ExcName → Option Value} {mg mb : Str → Option Value} {news : Led} {u : Tok} {p : Nat} {n : Int} {t : Tok} (h0 : -2147483648 ≤ n) (h1 : n < 2147483648) :
   Ct w mean mg mb 12 294 (news) True [.str ⟨#[105]⟩ u, .int n t, .ref p] (fun v ns => v = .bool true ∧ ns = news) := by
  k_extra "Z1"
  exact @kap_all S_c_pfi c_pfi_k ⟨w, mean, mg, mb, dp, un, gd, outer, A₀, base, h₀, L, s, Q, E⟩ news u p n t h0 h1
def S_c_pfk (kx : Cx) : Prop := ∀ (news : Led) (u : Tok) (p : Nat) (t : Tok), Bd kx 11 (Str.ofString "part_fits") (scopeAt "part_fits") 294 293 (bodyAt "part_fits") (fun yq => [(Str.ofString "sort", (.str ⟨#[107]⟩ u : Value)), (Str.ofString "part", (.str (Str.ofString "order") t : Value)), (Str.ofString "parts", (.ref p : Value))].reverse.lookup yq) (news) (fun v ns => v = .bool true ∧ ns = news)
noncomputable def kap_c_pfk : Cx := kapOf S_c_pfk
theorem c_pfk_k : S_c_pfk kap_c_pfk := by
  intro news u p t
  have e1 : (scopeAt "part_fits") = (scopeAt "part_fits") := rfl
  conv at e1 => rhs; whnf
  have e2 : (bodyAt "part_fits") = (bodyAt "part_fits") := rfl
  conv at e2 => rhs; whnf
  (try dsimp only at e1)
  (try dsimp only at e2)
  refine @bd_lit _ _ _ _ _ _ _ _ _ _ _ _ e1 e2 ?_
  clear e1 e2
  unfold Bd
  k_fill
  intro h tk HB HF HX HN HT hdp hun hE hret
  have HW : Wf kap_c_pfk 11 := ⟨HB, HX, HT, hdp, hun⟩
  refine frLet HF ?_
  intro mk HF9
  clear HF
  refine ledLet (by with_reducible assumption) ?_
  intro nk HN9
  k_steps
  all_goals (refine' hret _ _ _ _ _ ⟨congrArg Value.bool ?va, rfl⟩ ?bas ?led
             case bas => k_asm
             case va => decide +kernel
             case led => k_extra "Z3")
theorem c_pfk {w : World} {mean : ExcName → Option Value} {mg mb : Str → Option Value} {news : Led} {u : Tok} {p : Nat} {t : Tok}  :
   Ct w mean mg mb 12 294 (news) True [.str ⟨#[107]⟩ u, .str (Str.ofString "order") t, .ref p] (fun v ns => v = .bool true ∧ ns = news) := by
  k_extra "Z1"
  exact @kap_all S_c_pfk c_pfk_k ⟨w, mean, mg, mb, dp, un, gd, outer, A₀, base, h₀, L, s, Q, E⟩ news u p t
def S_c_pfc (kx : Cx) : Prop := ∀ (news : Led) (u : Tok) (p : Nat) (o : Str) (t : Tok) (ho : o ∈ ops), Bd kx 11 (Str.ofString "part_fits") (scopeAt "part_fits") 294 293 (bodyAt "part_fits") (fun yq => [(Str.ofString "sort", (.str ⟨#[99]⟩ u : Value)), (Str.ofString "part", (.str (condT o) t : Value)), (Str.ofString "parts", (.ref p : Value))].reverse.lookup yq) (news) (fun v ns => v = .bool true ∧ ns = news)
noncomputable def kap_c_pfc : Cx := kapOf S_c_pfc
theorem c_pfc_k : S_c_pfc kap_c_pfc := by
  intro news u p o t ho
  have e1 : (scopeAt "part_fits") = (scopeAt "part_fits") := rfl
  conv at e1 => rhs; whnf
  have e2 : (bodyAt "part_fits") = (bodyAt "part_fits") := rfl
  conv at e2 => rhs; whnf
  (try dsimp only at e1)
  (try dsimp only at e2)
  refine @bd_lit _ _ _ _ _ _ _ _ _ _ _ _ e1 e2 ?_
  clear e1 e2
  unfold Bd
  k_fill
  intro h tk HB HF HX HN HT hdp hun hE hret
  have HW : Wf kap_c_pfc 11 := ⟨HB, HX, HT, hdp, hun⟩
  refine frLet HF ?_
  intro mk HF9
  clear HF
  refine ledLet (by with_reducible assumption) ?_
  intro nk HN9
  k_steps
  all_goals (refine' hret _ _ _ _ _ ⟨congrArg Value.bool ?va, rfl⟩ ?bas ?led
             case bas => k_asm
             case va => (simp only [ops, List.mem_cons, List.not_mem_nil, or_false] at ho; rcases ho with rfl | rfl | rfl | rfl | rfl | rfl | rfl | rfl | rfl | rfl | rfl <;> decide +kernel)
             case led => k_extra "Z3")
theorem c_pfc {w : World} {mean : ExcName → Option Value} {mg mb : Str → Option Value} {news : Led} {u : Tok} {p : Nat} {o : Str} {t : Tok} (ho : o ∈ ops) :
   Ct w mean mg mb 12 294 (news) True [.str ⟨#[99]⟩ u, .str (condT o) t, .ref p] (fun v ns => v = .bool true ∧ ns = news) := by
  k_extra "Z1"
  exact @kap_all S_c_pfc c_pfc_k ⟨w, mean, mg, mb, dp, un, gd, outer, A₀, base, h₀, L, s, Q, E⟩ news u p o t ho
end
section
set_option maxHeartbeats 1000000
example : True := by
  k_with "nolean" => fail_if_success k_extra "off D9w"
  trivial
theorem ltNe4 {a I : Nat} (h : a < I) (k : Nat) : a ≠ I + k := Nat.ne_of_lt (Nat.lt_of_lt_of_le h (Nat.le_add_right I k))
theorem unrEndW_zip {h₀ : Heap} {L I : Nat} {q1 q2 q3 q4 q5 : Obj} {keep post : Led} {R : (Str → Option Value) → Led → Prop} {s₁ : Shared} {h' : Heap} {tk : Nat} {m' : Str → Option Value} (F : Fr h₀ L h' m') (N : News h₀ L h' ((I + 4, q1) :: (I + 2, q2) :: (I + 3, q3) :: (I, q4) :: (I + 1, q5) :: post)) (hl : ∀ p ∈ post, p.1 < I) (hk : SubL keep post) (r : R m' post) :
    UnrEndW h₀ L s₁ [(I + 4, q1), (I + 2, q2), (I + 3, q3), (I, q4), (I + 1, q5)] (fun m' n' => SubL keep n' ∧ R m' n') { s₁ with heap := h', toks := tk } :=
  ⟨h', tk, m', post, rfl, F, N, fun p hp q hq => by
    have h1 := hl p hp
    simp only [List.mem_cons, List.not_mem_nil, or_false] at hq
    rcases hq with rfl | rfl | rfl | rfl | rfl
    · exact ltNe4 h1 4
    · exact ltNe4 h1 2
    · exact ltNe4 h1 3
    · exact Nat.ne_of_lt h1
    · exact ltNe4 h1 1, hk, r⟩

example : True := by
  k_with "off D9w" => skip
  trivial
end
section
set_option maxHeartbeats 1000000
example : True := by
  k_with ".exec For Tuple Call cons nil" => ((fail_if_success k_extra "off D9t"); (k_here; (with_reducible rename Fr _ _ _ _ => lF'); (with_unfolding_all refine' For_turns lF' ?_; k_whole)))
  k_with ".call type:zip" => ((fail_if_success k_extra "off D9t"); (k_here; (with_reducible show wpAny _ _ (call (Value.type _) [Value.str _ _, Value.ref _]) _ _ _); k_dflt (refine' ktu_zst ?hhCA ?FCA ?NCA ?haCA ?hmCA ?hcCA ?hdCA ?hnCA ?hxCA (fun I l1 => (have l2 := l1; ?_)); (case hhCA => rfl); (case FCA => k_asm); (case NCA => k_asm); (case haCA => first | rfl | decide +kernel); (case hmCA => (repeat (first | exact List.Mem.head _ | refine List.Mem.tail _ ?_))); (case hcCA => rfl); (case hdCA => rfl); (case hnCA => rfl); (case hxCA => rfl)); (try k_lt l1)))
  k_with ".UnrEndW" => ((fail_if_success k_extra "off D9t"); (k_dflt (refine' unrEndW_zip ?FCB ?NCB ?lCB ?kCB ?_; (case FCB => k_asm); (case NCB => k_asm); (case lCB => assumption); (case kCB => exact ⟨by (repeat (first | exact List.Mem.head _ | refine List.Mem.tail _ ?_)), trivial⟩))))
  trivial
def PF (w : World) (mean : ExcName → Option Value) (mg mb : Str → Option Value) (p : Nat) (c : Nat) (y : Value) : Prop := ∀ (nk : Led) (t : Tok), Ct w mean mg mb 12 294 nk True [.str ⟨#[c]⟩ t, y, .ref p] (fun v ns => v = .bool true ∧ ns = nk)
inductive Fits (P : Nat → Value → Prop) : List Nat → List Value → Prop
  | nil : Fits P [] []
  | cons {c : Nat} {y : Value} {cs : List Nat} {ys : List Value} (h : P c y) (r : Fits P cs ys) : Fits P (c :: cs) (y :: ys)
theorem Fits.len {P : Nat → Value → Prop} {cs : List Nat} {ys : List Value} (h : Fits P cs ys) : cs.length = ys.length := by
  induction h with
  | nil => rfl
  | cons _ _ ih => exact congrArg (· + 1) ih
section
variable {prog : Program} {w : World} {A : Around} {E : Value → Shared → Prop} {s : Shared} {h₀ : Heap} {L : Addr} {nk : Led} {Q : Value → Shared → Prop}
theorem len_tupN {p : Nat} {vs : List Value} (N : News h₀ L s.heap nk) (hm : (p, tupO vs.toArray) ∈ nk) (hz : vs.length ≤ 8) (h : Q (.int vs.length (s.toks + 1)) { s with toks := s.toks + 1 + 1 }) : wpAny (model prog w) A (call (.builtin "len") [.ref p]) Q E s :=
  PyProof.Rows.len_tuple (News.isTup N hm) (by rw [List.size_toArray]; omega) (by rw [List.size_toArray]; exact h)
theorem len_strN {sh : Str} {t : Tok} {vs : List Value} (hl : sh.cps.toList.length = vs.length) (hz : vs.length ≤ 8) (h : Q (.int vs.length (s.toks + 1)) { s with toks := s.toks + 1 + 1 }) : wpAny (model prog w) A (call (.builtin "len") [.str sh t]) Q E s := by
  have e : sh.length = vs.length := by rw [← hl]; simp [Str.length]
  refine PyProof.Rows.len_str (by omega) ?_
  rw [e]; exact h
end
example : True := by
  k_with ".call builtin:len" => ((fail_if_success k_extra "off D9t"); (k_here; (with_reducible show wpAny _ _ (call (Value.builtin "len") [Value.ref _]) _ _ _); k_dflt (refine len_tupN (by k_asm) (by k_mem) (by assumption) ?_)))
  k_with ".call builtin:len" => ((fail_if_success k_extra "off D9t"); (k_here; (with_reducible show wpAny _ _ (call (Value.builtin "len") [Value.str _ _]) _ _ _); k_dflt (refine len_strN (by assumption) (by assumption) ?_)))
  trivial
noncomputable def forTg : Stmt → Expr | .For t .. => t | _ => .Name (Str.ofString "") ⟨0, 0, 0, 0⟩
noncomputable def forBd : Stmt → List Stmt | .For _ _ b .. => b | _ => []
noncomputable def ckFor : Stmt := (bodyAt "check_row")[3]?.getD (.Pass ⟨0, 0, 0, 0⟩)
abbrev ckEnv (kx : Cx) (scope : Scope) : Env := envX (Str.ofString "check_row") scope kx.L 302 (.ref 301) []
abbrev ckLed (r d p : Nat) (k1 k2 : Int) (t1 t2 t3 : Tok) (nm : Str) (vs : List Value) (nw : Led) : Led := (r, instObj 269 d) :: (d, dictOf [⟨k1, .str (Str.ofString "name") t1, .str nm t3⟩, ⟨k2, .str (Str.ofString "parts") t2, .ref p⟩] 2) :: (p, tupO vs.toArray) :: nw
abbrev Turns (kx : Cx) (scope : Scope) (tg : Expr) (bd : List Stmt) (Q : Flow → Shared → Prop) (s : Shared) (I p : Nat) (vs : List Value) (xs : List Itm) (m : Str → Option Value) (nk : Led) : Prop :=
  ItemsRest PySem.Challenge.rw_ok0177_01.row.prog kx.w (kAr kx (ckEnv kx scope)) kx.E kx.h₀ (ckEnv kx scope) tg bd Q s [(I + 4, "zip"), (I + 2, "tuple"), (I + 3, "tuple"), (I, "str_ascii_iterator"), (I + 1, "tuple_iterator")] [(p, tupO vs.toArray)] xs m nk
theorem turns_lit {kx : Cx} {scope scope' : Scope} {tg tg' : Expr} {bd bd' : List Stmt} {Q : Flow → Shared → Prop} {s : Shared} {I p : Nat} {vs : List Value} {xs : List Itm} {m : Str → Option Value} {nk : Led} (e1 : scope = scope') (e2 : tg = tg') (e3 : bd = bd') (h : Turns kx scope' tg' bd' Q s I p vs xs m nk) : Turns kx scope tg bd Q s I p vs xs m nk := e1 ▸ e2 ▸ e3 ▸ h
theorem fr_row {h₀ h : Heap} {L : Addr} {m : Str → Option Value} {v : Value} (F : Fr h₀ L h m) (e : m (Str.ofString "row") = some v) : Fr h₀ L h (fun y => if y = Str.ofString "row" then some v else m y) := fr_ext F fun y => by
  by_cases h : y = Str.ofString "row"
  · rw [if_pos h, h, e]
  · rw [if_neg h]
def S_turns (kx : Cx) : Prop := ∀ (nw : Led) (r d p I : Nat) (k1 k2 : Int) (t1 t2 t3 : Tok) (nm : Str) (vs : List Value) (Q : Flow → Shared → Prop) (s : Shared) (h0 : Heap) (tk0 : Nat), s = kSt kx h0 tk0 → Wf kx 15 → AllLt I (ckLed r d p k1 k2 t1 t2 t3 nm vs nw) → PassesOwn (kMd kx) (kAr kx (ckEnv kx (scopeAt "check_row"))) (ckEnv kx (scopeAt "check_row")) kx.E →
  ∀ (c : Nat) (y : Value) (cs : List Nat) (ys : List Value), PF kx.w kx.mean kx.mg kx.mb p c y → (∀ m, m (Str.ofString "row") = some (.ref r) → Turns kx (scopeAt "check_row") (forTg ckFor) (forBd ckFor) Q s I p vs (stItems cs ys) m (ckLed r d p k1 k2 t1 t2 t3 nm vs nw)) →
  ∀ m, m (Str.ofString "row") = some (.ref r) → Turns kx (scopeAt "check_row") (forTg ckFor) (forBd ckFor) Q s I p vs (stItems (c :: cs) (y :: ys)) m (ckLed r d p k1 k2 t1 t2 t3 nm vs nw)
noncomputable def kap_turns : Cx := kapOf S_turns
theorem pf_use (x : Cx) (cn : Str) (cs : Scope) (a : Addr) (ccd : Value) (cl : List (Str × Addr)) (hk : cs.kind = .function) {D : Nat} (W : Wf x D) (hD : Nat.ble 12 D = true) {p c : Nat} {y : Value} {t : Tok} {nw : Led} {m : Str → Option Value} {tk : Nat} {h : Heap} {Q E : Value → Shared → Prop}
    (C : PF x.w x.mean x.mg x.mb p c y) (F : Fr x.h₀ x.L h m) (N : News x.h₀ x.L h nw) (k : ∀ h' tk', Fr x.h₀ x.L h' m → News x.h₀ x.L h' nw → Q (.bool true) (kSt x h' tk')) :
    wpAny (kMd x) (kAr x (envX cn cs x.L a ccd cl)) (call (.ref 294) [.str ⟨#[c]⟩ t, y, .ref p]) Q E (kSt x h tk) := cv_use x cn cs a ccd cl hk W hD (C nw t) F N (fun v nw' h' tk' r F' N' => by obtain ⟨rfl, rfl⟩ := r; exact k h' tk' F' N')
example : True := by
  k_with ".call ref" => (k_here; (with_reducible show wpAny _ _ (call (Value.ref 294) [_, _, _]) _ _ _); k_dflt (refine' pf_use _ _ _ _ _ _ ?kkCE ?WCE ?hDCE ?CCE ?FCE ?NCE ?_; (case CCE => assumption); (case kkCE => exact rfl); (case WCE => assumption); (case hDCE => exact rfl); (case FCE => k_asm); (case NCE => k_asm)); intro h9Z tk9Z F9Z N9Z)
  trivial
set_option maxHeartbeats 4000000 in
theorem turns_k : S_turns kap_turns := by
  intro nw r d p I k1 k2 t1 t2 t3 nm vs Q s h0 tk0 es HW Hl hE c y cs ys hc ih m hm
  subst es
  have e1 : (scopeAt "check_row") = (scopeAt "check_row") := rfl
  conv at e1 => rhs; whnf
  have e2 : (forTg ckFor) = (forTg ckFor) := rfl
  conv at e2 => rhs; whnf
  have e3 : (forBd ckFor) = (forBd ckFor) := rfl
  conv at e3 => rhs; whnf
  (try dsimp only at e1)
  (try dsimp only at e2)
  (try dsimp only at e3)
  have ih' := fun m hm => turns_lit e1.symm e2.symm e3.symm (ih m hm)
  rw [e1] at hE
  refine turns_lit e1 e2 e3 ?_
  clear e1 e2 e3 ih
  have HX := HW.X
  have HT := HW.T
  have HB := HW.B
  have hdp := HW.d
  have hun := HW.u
  have l2 : ∀ q ∈ ckLed r d p k1 k2 t1 t2 t3 nm vs nw, q.1 < I := allLt_get Hl
  refine ItemsRest.pair fun T' t' h' tk' hT' F' => ?_
  have F9 := fr_row F' hm
  clear F'
  (try dsimp only at hT')
  ktu_objs
  k_steps
  all_goals exact ih' _ rfl
theorem turns (kx : Cx) : S_turns kx := @kap_all S_turns turns_k kx
theorem turns_all (kx : Cx) {nw : Led} {r d p I : Nat} {k1 k2 : Int} {t1 t2 t3 : Tok} {nm : Str} {vs : List Value} {Q : Flow → Shared → Prop} {s : Shared} {h0 : Heap} {tk0 : Nat} (es : s = kSt kx h0 tk0) (HW : Wf kx 15) (Hl : AllLt I (ckLed r d p k1 k2 t1 t2 t3 nm vs nw)) (hE : PassesOwn (kMd kx) (kAr kx (ckEnv kx (scopeAt "check_row"))) (ckEnv kx (scopeAt "check_row")) kx.E)
    (hQ : ∀ m h tk, m (Str.ofString "row") = some (.ref r) → Fr kx.h₀ kx.L h m → News kx.h₀ kx.L h (ckLed r d p k1 k2 t1 t2 t3 nm vs nw) → Q .next (kSt kx h tk)) {cs : List Nat} {ys : List Value} (hf : Fits (PF kx.w kx.mean kx.mg kx.mb p) cs ys) :
    ∀ m, m (Str.ofString "row") = some (.ref r) → Turns kx (scopeAt "check_row") (forTg ckFor) (forBd ckFor) Q s I p vs (stItems cs ys) m (ckLed r d p k1 k2 t1 t2 t3 nm vs nw) := by
  induction hf with
  | nil => exact fun m hm => ItemsRest.zero fun h tk F N => es ▸ hQ m h tk hm F N
  | cons h r ih => exact turns kx nw _ _ _ _ _ _ _ _ _ _ _ _ _ _ _ es HW Hl hE _ _ _ _ h ih
example : True := by
  k_with "off D9t" => skip
  trivial
end
section
set_option maxHeartbeats 1000000
example : True := by
  k_with ".exec For Tuple Call cons nil" => ((fail_if_success k_extra "off D9g"); (k_here; (with_reducible rename Fr _ _ _ _ => lF'); (with_unfolding_all refine' For_turns lF' ?_; k_whole)))
  k_with ".call type:zip" => ((fail_if_success k_extra "off D9g"); (k_here; (with_reducible show wpAny _ _ (call (Value.type _) [Value.str _ _, Value.ref _]) _ _ _); k_dflt (refine' ktu_zst ?hhCG ?FCG ?NCG ?haCG ?hmCG ?hcCG ?hdCG ?hnCG ?hxCG (fun I l1 => (have l2 := l1; ?_)); (case hhCG => rfl); (case FCG => k_asm); (case NCG => k_asm); (case haCG => first | rfl | decide +kernel); (case hmCG => (repeat (first | exact List.Mem.head _ | refine List.Mem.tail _ ?_))); (case hcCG => rfl); (case hdCG => rfl); (case hnCG => rfl); (case hxCG => rfl)); (try k_lt l1)))
  k_with ".UnrEndW" => ((fail_if_success k_extra "off D9g"); (k_dflt (refine' unrEndW_zip ?FCH ?NCH ?lCH ?kCH ?_; (case FCH => k_asm); (case NCH => k_asm); (case lCH => assumption); (case kCH => exact ⟨by (repeat (first | exact List.Mem.head _ | refine List.Mem.tail _ ?_)), trivial⟩))))
  k_with ".call builtin:len" => ((fail_if_success k_extra "off D9g"); (k_here; (with_reducible show wpAny _ _ (call (Value.builtin "len") [Value.ref _]) _ _ _); k_dflt (refine len_tupN (by k_asm) (by k_mem) (by assumption) ?_)))
  k_with ".call builtin:len" => ((fail_if_success k_extra "off D9g"); (k_here; (with_reducible show wpAny _ _ (call (Value.builtin "len") [Value.str _ _]) _ _ _); k_dflt (refine len_strN (by assumption) (by assumption) ?_)))
  k_with ".call type:zip" => ((fail_if_success k_extra "off D9g"); (k_here; (with_reducible show wpAny _ _ (call (Value.type _) [Value.str _ _, Value.ref _]) _ _ _); k_dflt (refine' ktu_zst ?hhCK ?FCK ?NCK ?haCK ?hmCK ?hcCK ?hdCK ?hnCK rfl ?_; (case hhCK => rfl); (case FCK => k_asm); (case NCK => k_asm); (case haCK => assumption); (case hmCK => (repeat (first | exact List.Mem.head _ | refine List.Mem.tail _ ?_))); (case hcCK => rfl); (case hdCK => rfl); (case hnCK => assumption))))
  trivial
def S_c_ck (kx : Cx) : Prop := ∀ (news : Led) (r dS : Nat) (T : Led) (oS : Obj) (nm sh : Str) (vs : List Value) (cs : List Nat) (hr : IsRw nm vs.toArray r T) (hT : ∀ q ∈ T, q ∈ news) (hs : (dS, oS) ∈ news) (hS : ShapesOf kx.w dS oS) (hsh : (nm, sh) ∈ needed) (hne : (nm == Str.ofString "movsx") = false) (ha : sh.cps.all (· < 128) = true) (hz : vs.length ≤ 8) (hcs : sh.cps.toList = cs) (hf : ∀ p, Fits (PF kx.w kx.mean kx.mg kx.mb p) cs vs), Bd kx 15 (Str.ofString "check_row") (scopeAt "check_row") 302 301 (bodyAt "check_row") (fun yq => [(Str.ofString "row", (.ref r : Value)), (Str.ofString "shapes", (.ref dS : Value))].reverse.lookup yq) (news) (fun v ns => v = .ref r ∧ ns = news)
noncomputable def kap_c_ck : Cx := kapOf S_c_ck
set_option maxHeartbeats 4000000 in
theorem c_ck_k : S_c_ck kap_c_ck := by
  intro news r dS T oS nm sh vs cs hr hT hs hS hsh hne ha hz hcs hf
  have e1 : (scopeAt "check_row") = (scopeAt "check_row") := rfl
  conv at e1 => rhs; whnf
  have e2 : (bodyAt "check_row") = (bodyAt "check_row") := rfl
  conv at e2 => rhs; whnf
  (try dsimp only at e1)
  (try dsimp only at e2)
  refine @bd_lit _ _ _ _ _ _ _ _ _ _ _ _ e1 e2 ?_
  clear e1 e2
  unfold Bd
  k_fill
  intro h tk HB HF HX HN HT hdp hun hE hret
  have HW : Wf kap_c_ck 15 := ⟨HB, HX, HT, hdp, hun⟩
  obtain ⟨d, p, k1, k2, t1, t2, t3, rfl⟩ := hr
  obtain ⟨hlo, D, ⟨kvs, hdo, hdf⟩, hall⟩ := hS
  have q1 := hT _ (.head _)
  have q2 := hT _ (.tail _ (.head _))
  have q3 := hT _ (.tail _ (.tail _ (.head _)))
  have HN1 := news_add q1 (news_add q2 (news_add q3 (news_add hs HN HN) HN) HN) HN
  clear HN
  have hlk : PySem.Spec.lookup (PyData.str nm) D = some (PyData.str sh) := hall (nm, sh) hsh
  have hlen : sh.cps.toList.length = vs.length := hcs ▸ (hf p).len
  have hbb : ((vs.length : Int) != (vs.length : Int)) = false := bne_self_eq_false _
  refine frLet HF ?_
  intro mk HF9
  clear HF
  refine ledLet (by with_reducible assumption) ?_
  intro nk HN9
  k_steps
  have e1 : (scopeAt "check_row") = (scopeAt "check_row") := rfl
  conv at e1 => rhs; whnf
  have e2 : (forTg ckFor) = (forTg ckFor) := rfl
  conv at e2 => rhs; whnf
  have e3 : (forBd ckFor) = (forBd ckFor) := rfl
  conv at e3 => rhs; whnf
  refine turns_lit e1.symm e2.symm e3.symm (turns_all _ rfl HW (allLt_of (by assumption)) (by rw [e1]; exact hE) (fun m9 h9 tk9 hm9 F9 N9 => ?_) (hcs ▸ hf p) _ rfl)
  clear e1 e2 e3
  have F8 := fr_row F9 hm9
  clear F9
  k_steps
  all_goals (refine' hret _ _ _ _ _ ⟨rfl, rfl⟩ ?bas ?led
             case bas => k_asm
             case led => exact cb_drop (by k_asm) (fun q hq => by exact memDrop 4 rfl hq))
theorem c_ck {w : World} {mean : ExcName → Option Value} {mg mb : Str → Option Value} {news : Led} {r dS : Nat} {T : Led} {oS : Obj} {nm sh : Str} {vs : List Value} {cs : List Nat} (hr : IsRw nm vs.toArray r T) (hT : ∀ q ∈ T, q ∈ news) (hs : (dS, oS) ∈ news) (hS : ShapesOf w dS oS) (hsh : (nm, sh) ∈ needed) (hne : (nm == Str.ofString "movsx") = false) (ha : sh.cps.all (· < 128) = true) (hz : vs.length ≤ 8) (hcs : sh.cps.toList = cs) (hf : ∀ p, Fits (PF w mean mg mb p) cs vs) :
   Ct w mean mg mb 16 302 (news) True [.ref r, .ref dS] (fun v ns => v = .ref r ∧ ns = news) := by
  k_extra "Z1"
  exact @kap_all S_c_ck c_ck_k ⟨w, mean, mg, mb, dp, un, gd, outer, A₀, base, h₀, L, s, Q, E⟩ news r dS T oS nm sh vs cs hr hT hs hS hsh hne ha hz hcs hf
example : True := by
  k_with "off D9g" => skip
  trivial
end
section
set_option maxHeartbeats 1000000
example : True := by
  k_with "nolean" => fail_if_success k_extra "off D9a"
  k_with ".exec For Tuple Call cons nil" => ((fail_if_success k_extra "off D9a"); (k_here; (with_reducible rename Fr _ _ _ _ => lF'); (with_unfolding_all refine' For_turns lF' ?_; k_whole)))
  k_with ".call type:zip" => ((fail_if_success k_extra "off D9a"); (k_here; (with_reducible show wpAny _ _ (call (Value.type _) [Value.str _ _, Value.ref _]) _ _ _); k_dflt (refine' ktu_zst ?hhCM ?FCM ?NCM ?haCM ?hmCM ?hcCM ?hdCM ?hnCM ?hxCM (fun I l1 => (have l2 := l1; ?_)); (case hhCM => rfl); (case FCM => k_asm); (case NCM => k_asm); (case haCM => first | rfl | decide +kernel); (case hmCM => (repeat (first | exact List.Mem.head _ | refine List.Mem.tail _ ?_))); (case hcCM => rfl); (case hdCM => rfl); (case hnCM => rfl); (case hxCM => rfl)); (try k_lt l1)))
  k_with ".UnrEndW" => ((fail_if_success k_extra "off D9a"); (k_dflt (refine' unrEndW_zip ?FCN ?NCN ?lCN ?kCN ?_; (case FCN => k_asm); (case NCN => k_asm); (case lCN => assumption); (case kCN => exact ⟨by (repeat (first | exact List.Mem.head _ | refine List.Mem.tail _ ?_)), trivial⟩))))
  trivial
theorem bname_needed {o : Str} : (bname o, Str.ofString "zrr") ∈ needed := by
  unfold bname
  split <;> decide +kernel
theorem bname_ne {o : Str} : (bname o == Str.ofString "movsx") = false := by
  unfold bname
  split <;> decide +kernel
theorem iname_needed {o : Str} : (iname o, Str.ofString "zri") ∈ needed := by
  unfold iname
  split <;> decide +kernel
theorem iname_ne {o : Str} : (iname o == Str.ofString "movsx") = false := by
  unfold iname
  split <;> decide +kernel
theorem c_ckret {w : World} {mean : ExcName → Option Value} {mg mb : Str → Option Value} {news : Led} {r dS : Nat} {T : Led} {oS : Obj}  (hr : IsRw (Str.ofString "ret") #[] r T) (hT : ∀ q ∈ T, q ∈ news) (hs : (dS, oS) ∈ news) (hS : ShapesOf w dS oS) :
   Ct w mean mg mb 16 302 (news) True [.ref r, .ref dS] (fun v ns => v = .ref r ∧ ns = news) :=
  c_ck (cs := []) (sh := Str.ofString "") (vs := []) hr hT hs hS (by decide +kernel) (by decide +kernel) (by decide +kernel) (Nat.le_of_ble_eq_true rfl) (by decide +kernel) (fun _ => .nil)
theorem c_ckord {w : World} {mean : ExcName → Option Value} {mg mb : Str → Option Value} {news : Led} {r dS : Nat} {T : Led} {oS : Obj} {n : Int} {a1 : Tok} (hr : IsRw (Str.ofString "order") #[.int n a1] r T) (hT : ∀ q ∈ T, q ∈ news) (hs : (dS, oS) ∈ news) (hS : ShapesOf w dS oS) (h0 : 0 ≤ n) (h1 : n ≤ 1000000) :
   Ct w mean mg mb 16 302 (news) True [.ref r, .ref dS] (fun v ns => v = .ref r ∧ ns = news) :=
  c_ck (cs := [108]) (sh := Str.ofString "l") hr hT hs hS (by decide +kernel) (by decide +kernel) (by decide +kernel) (Nat.le_of_ble_eq_true rfl) (by decide +kernel) (fun _ => .cons (fun _ _ => c_pfl h0 h1) (.nil))
theorem c_ckmov {w : World} {mean : ExcName → Option Value} {mg mb : Str → Option Value} {news : Led} {r dS : Nat} {T : Led} {oS : Obj} {n g sz : Int} {a1 a2 a3 : Tok} (hr : IsRw (Str.ofString "mov_imm") #[.int sz a1, .int g a2, .int n a3] r T) (hT : ∀ q ∈ T, q ∈ news) (hs : (dS, oS) ∈ news) (hS : ShapesOf w dS oS) (hz : sz = 64 ∨ sz = 32) (h0 : 0 ≤ g) (h1 : g < 16) (h2 : -2147483648 ≤ n) (h3 : n < 2147483648) :
   Ct w mean mg mb 16 302 (news) True [.ref r, .ref dS] (fun v ns => v = .ref r ∧ ns = news) :=
  c_ck (cs := [122, 114, 105]) (sh := Str.ofString "zri") hr hT hs hS (by decide +kernel) (by decide +kernel) (by decide +kernel) (Nat.le_of_ble_eq_true rfl) (by decide +kernel) (fun _ => .cons (fun _ _ => c_pfz hz) (.cons (fun _ _ => c_pfr h0 h1) (.cons (fun _ _ => c_pfi h2 h3) (.nil))))
theorem c_ckjcc {w : World} {mean : ExcName → Option Value} {mg mb : Str → Option Value} {news : Led} {r dS : Nat} {T : Led} {oS : Obj} {n : Int} {o : Str} {b1 b2 b3 : Tok} (hr : IsRw (Str.ofString "jcc") #[.str (condT o) b1, .str (Str.ofString "order") b2, .int n b3] r T) (hT : ∀ q ∈ T, q ∈ news) (hs : (dS, oS) ∈ news) (hS : ShapesOf w dS oS) (ho : o ∈ ops) (h0 : 0 ≤ n) (h1 : n ≤ 1000000) :
   Ct w mean mg mb 16 302 (news) True [.ref r, .ref dS] (fun v ns => v = .ref r ∧ ns = news) :=
  c_ck (cs := [99, 107, 108]) (sh := Str.ofString "ckl") hr hT hs hS (by decide +kernel) (by decide +kernel) (by decide +kernel) (Nat.le_of_ble_eq_true rfl) (by decide +kernel) (fun _ => .cons (fun _ _ => c_pfc ho) (.cons (fun _ _ => c_pfk) (.cons (fun _ _ => c_pfl h0 h1) (.nil))))
theorem c_ckrr {w : World} {mean : ExcName → Option Value} {mg mb : Str → Option Value} {news : Led} {r dS : Nat} {T : Led} {oS : Obj} {g k sz : Int} {o : Str} {a1 a2 a3 : Tok} (hr : IsRw (bname o) #[.int sz a1, .int g a2, .int k a3] r T) (hT : ∀ q ∈ T, q ∈ news) (hs : (dS, oS) ∈ news) (hS : ShapesOf w dS oS) (hz : sz = 64 ∨ sz = 32) (h0 : 0 ≤ g) (h1 : g < 16) (h2 : 0 ≤ k) (h3 : k < 16) :
   Ct w mean mg mb 16 302 (news) True [.ref r, .ref dS] (fun v ns => v = .ref r ∧ ns = news) :=
  c_ck (cs := [122, 114, 114]) hr hT hs hS bname_needed bname_ne (by decide +kernel) (Nat.le_of_ble_eq_true rfl) (by decide +kernel) (fun _ => .cons (fun _ _ => c_pfz hz) (.cons (fun _ _ => c_pfr h0 h1) (.cons (fun _ _ => c_pfr h2 h3) (.nil))))
theorem c_ckri {w : World} {mean : ExcName → Option Value} {mg mb : Str → Option Value} {news : Led} {r dS : Nat} {T : Led} {oS : Obj} {g k sz : Int} {o : Str} {a1 a2 a3 : Tok} (hr : IsRw (iname o) #[.int sz a1, .int g a2, .int k a3] r T) (hT : ∀ q ∈ T, q ∈ news) (hs : (dS, oS) ∈ news) (hS : ShapesOf w dS oS) (hz : sz = 64 ∨ sz = 32) (h0 : 0 ≤ g) (h1 : g < 16) (h2 : -2147483648 ≤ k) (h3 : k < 2147483648) :
   Ct w mean mg mb 16 302 (news) True [.ref r, .ref dS] (fun v ns => v = .ref r ∧ ns = news) :=
  c_ck (cs := [122, 114, 105]) hr hT hs hS iname_needed iname_ne (by decide +kernel) (Nat.le_of_ble_eq_true rfl) (by decide +kernel) (fun _ => .cons (fun _ _ => c_pfz hz) (.cons (fun _ _ => c_pfr h0 h1) (.cons (fun _ _ => c_pfi h2 h3) (.nil))))
example : True := by
  k_with "off D9a" => skip
  trivial
end
section
set_option maxHeartbeats 1000000
theorem subT {T l : Led} {p : Addr × Obj} (h : ∀ q ∈ T, q ∈ l) : ∀ q ∈ T, q ∈ p :: l := fun q hq => .tail _ (h q hq)
def isMk (nm : Str) : Bool := [Str.ofString "order", Str.ofString "label", Str.ofString "entry"].any fun x => x == nm
theorem item_at {prog : Program} {w : World} {A : Around} {E : Value → Shared → Prop} {s : Shared} {h₀ : Heap} {L : Addr} {news : Led} {value slice : PySem.Expr} {l n : Nat} {vs : List Value} {k : Int} {u : Tok} {v : Value} {Q : Value → Shared → Prop} (N : News h₀ L s.heap news) (hm : (l, listOf vs.toArray n) ∈ news)
    (h0 : 0 ≤ k) (hk : k < 2 ^ 63) (hx : vs[k.toNat]? = some v) (h : Q v s)
    (hs : subscripted slice false (.ref l) (.int k u) = operate [.ref l, .int k u] (getItem (.ref l) (.int k u))) :
    wpAny (model prog w) A (subscriptTail value slice (.ref l) (.int k u)) Q E s :=
  have hl := News.isList N hm
  tail_any hl.typeIs slot_list_getitem.lookup (wpAny_getItem_list hl h0 hk (by simpa using hx) h) hs
def S_c_mark (kx : Cx) : Prop := ∀ (news : Led) (r : Nat) (T : Led) (nm : Str) (vs : Array Value) (hr : IsRw nm vs r T) (hT : ∀ q ∈ T, q ∈ news), Bd kx 11 (Str.ofString "is_mark") (scopeAt "is_mark") 309 308 (bodyAt "is_mark") (fun yq => [(Str.ofString "row", (.ref r : Value))].reverse.lookup yq) (news) (fun v ns => v = .bool (isMk nm) ∧ ns = news)
noncomputable def kap_c_mark : Cx := kapOf S_c_mark
theorem c_mark_k : S_c_mark kap_c_mark := by
  intro news r T nm vs hr hT
  have e1 : (scopeAt "is_mark") = (scopeAt "is_mark") := rfl
  conv at e1 => rhs; whnf
  have e2 : (bodyAt "is_mark") = (bodyAt "is_mark") := rfl
  conv at e2 => rhs; whnf
  (try dsimp only at e1)
  (try dsimp only at e2)
  refine @bd_lit _ _ _ _ _ _ _ _ _ _ _ _ e1 e2 ?_
  clear e1 e2
  unfold Bd
  k_fill
  intro h tk HB HF HX HN HT hdp hun hE hret
  have HW : Wf kap_c_mark 11 := ⟨HB, HX, HT, hdp, hun⟩
  obtain ⟨d, p, k1, k2, t1, t2, t3, rfl⟩ := hr
  have q1 := hT _ (.head _)
  have q2 := hT _ (.tail _ (.head _))
  have q3 := hT _ (.tail _ (.tail _ (.head _)))
  have HN1 := news_add q1 (news_add q2 (news_add q3 HN HN) HN) HN
  clear HN
  refine frLet HF ?_
  intro mk HF9
  clear HF
  refine ledLet (by with_reducible assumption) ?_
  intro nk HN9
  k_steps
  all_goals (refine' hret _ _ _ _ _ ⟨rfl, rfl⟩ ?bas ?led
             case bas => k_asm
             case led => k_extra "Z3")
theorem c_mark {w : World} {mean : ExcName → Option Value} {mg mb : Str → Option Value} {news : Led} {r : Nat} {T : Led} {nm : Str} {vs : Array Value} (hr : IsRw nm vs r T) (hT : ∀ q ∈ T, q ∈ news) :
   Ct w mean mg mb 12 309 (news) True [.ref r] (fun v ns => v = .bool (isMk nm) ∧ ns = news) := by
  k_extra "Z1"
  exact @kap_all S_c_mark c_mark_k ⟨w, mean, mg, mb, dp, un, gd, outer, A₀, base, h₀, L, s, Q, E⟩ news r T nm vs hr hT
theorem c_mark_v (kx : Cx) (cn8 : Str) (cs8 : Scope) (a8 : Addr) (ccd8 : Value) (cl8 : List (Str × Addr)) (zk : cs8.kind = .function) {D8 : Nat} (zW : Wf kx D8) (zD : Nat.ble 12 D8 = true) {news : Led} {r : Nat} {T : Led} {nm : Str} {vs : Array Value} {m8 : Str → Option Value} {h9 : Heap} {tk9 : Nat} {Q8 E8 : Value → Shared → Prop} (zF : Fr kx.h₀ kx.L h9 m8) (zN : News kx.h₀ kx.L h9 ((news))) (hr : IsRw nm vs r T) (hT : ∀ q ∈ T, q ∈ news)
   (kk9 : ∀ (h' : Heap) (tk' : Nat), let n' : Led := (news); Fr kx.h₀ kx.L h' m8 → News kx.h₀ kx.L h' n' → Q8 (.bool (isMk nm)) (kSt kx h' tk')) : wpAny (kMd kx) (kAr kx (envX cn8 cs8 kx.L a8 ccd8 cl8)) (call (.ref 309) [.ref r]) Q8 E8 (kSt kx h9 tk9) := by
  refine cv_use kx cn8 cs8 a8 ccd8 cl8 zk zW zD (c_mark (hr := hr) (hT := hT)) zF zN ?_
  rintro v news' h' tk' ⟨rfl, rfl⟩ F N
  exact kk9 _ _ F N
def S_c_goal0 (kx : Cx) : Prop := ∀ (news : Led) (r : Nat) (T : Led) (nm : Str) (vs : Array Value) (hr : IsRw nm vs r T) (hT : ∀ q ∈ T, q ∈ news) (g1 : (nm == Str.ofString "jmp") = false) (g2 : (nm == Str.ofString "jcc") = false) (g3 : (nm == Str.ofString "call") = false), Bd kx 11 (Str.ofString "goal_of") (scopeAt "goal_of") 316 315 (bodyAt "goal_of") (fun yq => [(Str.ofString "row", (.ref r : Value))].reverse.lookup yq) (news) (fun v ns => v = .none ∧ ns = news)
noncomputable def kap_c_goal0 : Cx := kapOf S_c_goal0
theorem c_goal0_k : S_c_goal0 kap_c_goal0 := by
  intro news r T nm vs hr hT g1 g2 g3
  have e1 : (scopeAt "goal_of") = (scopeAt "goal_of") := rfl
  conv at e1 => rhs; whnf
  have e2 : (bodyAt "goal_of") = (bodyAt "goal_of") := rfl
  conv at e2 => rhs; whnf
  (try dsimp only at e1)
  (try dsimp only at e2)
  refine @bd_lit _ _ _ _ _ _ _ _ _ _ _ _ e1 e2 ?_
  clear e1 e2
  unfold Bd
  k_fill
  intro h tk HB HF HX HN HT hdp hun hE hret
  have HW : Wf kap_c_goal0 11 := ⟨HB, HX, HT, hdp, hun⟩
  obtain ⟨d, p, k1, k2, t1, t2, t3, rfl⟩ := hr
  have q1 := hT _ (.head _)
  have q2 := hT _ (.tail _ (.head _))
  have q3 := hT _ (.tail _ (.tail _ (.head _)))
  have HN1 := news_add q1 (news_add q2 (news_add q3 HN HN) HN) HN
  clear HN
  refine frLet HF ?_
  intro mk HF9
  clear HF
  refine ledLet (by with_reducible assumption) ?_
  intro nk HN9
  k_steps
  all_goals (refine' hret _ _ _ _ _ ⟨rfl, rfl⟩ ?bas ?led
             case bas => k_asm
             case led => k_extra "Z3")
theorem c_goal0 {w : World} {mean : ExcName → Option Value} {mg mb : Str → Option Value} {news : Led} {r : Nat} {T : Led} {nm : Str} {vs : Array Value} (hr : IsRw nm vs r T) (hT : ∀ q ∈ T, q ∈ news) (g1 : (nm == Str.ofString "jmp") = false) (g2 : (nm == Str.ofString "jcc") = false) (g3 : (nm == Str.ofString "call") = false) :
   Ct w mean mg mb 12 316 (news) True [.ref r] (fun v ns => v = .none ∧ ns = news) := by
  k_extra "Z1"
  exact @kap_all S_c_goal0 c_goal0_k ⟨w, mean, mg, mb, dp, un, gd, outer, A₀, base, h₀, L, s, Q, E⟩ news r T nm vs hr hT g1 g2 g3
theorem c_goal0_v (kx : Cx) (cn8 : Str) (cs8 : Scope) (a8 : Addr) (ccd8 : Value) (cl8 : List (Str × Addr)) (zk : cs8.kind = .function) {D8 : Nat} (zW : Wf kx D8) (zD : Nat.ble 12 D8 = true) {news : Led} {r : Nat} {T : Led} {nm : Str} {vs : Array Value} {m8 : Str → Option Value} {h9 : Heap} {tk9 : Nat} {Q8 E8 : Value → Shared → Prop} (zF : Fr kx.h₀ kx.L h9 m8) (zN : News kx.h₀ kx.L h9 ((news))) (hr : IsRw nm vs r T) (hT : ∀ q ∈ T, q ∈ news) (g1 : (nm == Str.ofString "jmp") = false) (g2 : (nm == Str.ofString "jcc") = false) (g3 : (nm == Str.ofString "call") = false)
   (kk9 : ∀ (h' : Heap) (tk' : Nat), let n' : Led := (news); Fr kx.h₀ kx.L h' m8 → News kx.h₀ kx.L h' n' → Q8 (.none) (kSt kx h' tk')) : wpAny (kMd kx) (kAr kx (envX cn8 cs8 kx.L a8 ccd8 cl8)) (call (.ref 316) [.ref r]) Q8 E8 (kSt kx h9 tk9) := by
  refine cv_use kx cn8 cs8 a8 ccd8 cl8 zk zW zD (c_goal0 (hr := hr) (hT := hT) (g1 := g1) (g2 := g2) (g3 := g3)) zF zN ?_
  rintro v news' h' tk' ⟨rfl, rfl⟩ F N
  exact kk9 _ _ F N
def S_c_goalj (kx : Cx) : Prop := ∀ (news : Led) (r : Nat) (T : Led) (v1 : Value) (n : Int) (b2 b3 : Tok) (hr : IsRw (Str.ofString "jcc") #[v1, .str (Str.ofString "order") b2, .int n b3] r T) (hT : ∀ q ∈ T, q ∈ news), Bd kx 11 (Str.ofString "goal_of") (scopeAt "goal_of") 316 315 (bodyAt "goal_of") (fun yq => [(Str.ofString "row", (.ref r : Value))].reverse.lookup yq) (news) (fun v ns => ∃ (g : Nat), v = .ref g ∧ ns = (g, tupO #[.str (Str.ofString "order") b2, .int n b3]) :: news ∧ AllLt g news)
noncomputable def kap_c_goalj : Cx := kapOf S_c_goalj
theorem c_goalj_k : S_c_goalj kap_c_goalj := by
  intro news r T v1 n b2 b3 hr hT
  have e1 : (scopeAt "goal_of") = (scopeAt "goal_of") := rfl
  conv at e1 => rhs; whnf
  have e2 : (bodyAt "goal_of") = (bodyAt "goal_of") := rfl
  conv at e2 => rhs; whnf
  (try dsimp only at e1)
  (try dsimp only at e2)
  refine @bd_lit _ _ _ _ _ _ _ _ _ _ _ _ e1 e2 ?_
  clear e1 e2
  unfold Bd
  k_fill
  intro h tk HB HF HX HN HT hdp hun hE hret
  have HW : Wf kap_c_goalj 11 := ⟨HB, HX, HT, hdp, hun⟩
  obtain ⟨d, p, k1, k2, t1, t2, t3, rfl⟩ := hr
  have q1 := hT _ (.head _)
  have q2 := hT _ (.tail _ (.head _))
  have q3 := hT _ (.tail _ (.tail _ (.head _)))
  have HN1 := news_add q1 (news_add q2 (news_add q3 HN HN) HN) HN
  clear HN
  refine frLet HF ?_
  intro mk HF9
  clear HF
  refine ledLet (by with_reducible assumption) ?_
  intro nk HN9
  k_steps
  all_goals (refine' hret _ _ _ _ _ ⟨_, rfl, rfl, ?al⟩ ?bas ?led
             case bas => k_asm
             case al => (first | walk_at "AllLt" | (assumption))
             case led => k_extra "Z0")
theorem c_goalj {w : World} {mean : ExcName → Option Value} {mg mb : Str → Option Value} {news : Led} {r : Nat} {T : Led} {v1 : Value} {n : Int} {b2 b3 : Tok} (hr : IsRw (Str.ofString "jcc") #[v1, .str (Str.ofString "order") b2, .int n b3] r T) (hT : ∀ q ∈ T, q ∈ news) :
   Ct w mean mg mb 12 316 (news) True [.ref r] (fun v ns => ∃ (g : Nat), v = .ref g ∧ ns = (g, tupO #[.str (Str.ofString "order") b2, .int n b3]) :: news ∧ AllLt g news) := by
  k_extra "Z1"
  exact @kap_all S_c_goalj c_goalj_k ⟨w, mean, mg, mb, dp, un, gd, outer, A₀, base, h₀, L, s, Q, E⟩ news r T v1 n b2 b3 hr hT
theorem c_goalj_v (kx : Cx) (cn8 : Str) (cs8 : Scope) (a8 : Addr) (ccd8 : Value) (cl8 : List (Str × Addr)) (zk : cs8.kind = .function) {D8 : Nat} (zW : Wf kx D8) (zD : Nat.ble 12 D8 = true) {news : Led} {r : Nat} {T : Led} {v1 : Value} {n : Int} {b2 b3 : Tok} {m8 : Str → Option Value} {h9 : Heap} {tk9 : Nat} {Q8 E8 : Value → Shared → Prop} (zF : Fr kx.h₀ kx.L h9 m8) (zN : News kx.h₀ kx.L h9 ((news))) (hr : IsRw (Str.ofString "jcc") #[v1, .str (Str.ofString "order") b2, .int n b3] r T) (hT : ∀ q ∈ T, q ∈ news)
   (kk9 : ∀ (g : Nat) (h' : Heap) (tk' : Nat), (AllLt g news) → let n' : Led := ((g, tupO #[.str (Str.ofString "order") b2, .int n b3]) :: news); Fr kx.h₀ kx.L h' m8 → News kx.h₀ kx.L h' n' → Q8 (.ref g) (kSt kx h' tk')) : wpAny (kMd kx) (kAr kx (envX cn8 cs8 kx.L a8 ccd8 cl8)) (call (.ref 316) [.ref r]) Q8 E8 (kSt kx h9 tk9) := by
  refine cv_use kx cn8 cs8 a8 ccd8 cl8 zk zW zD (c_goalj (hr := hr) (hT := hT)) zF zN ?_
  rintro v news' h' tk' ⟨g, rfl, rfl, f09⟩ F N
  exact kk9 g _ _ f09 F N
end
section
set_option maxHeartbeats 1000000
example : True := by
  k_with ".compareOp In ref ref" => ((fail_if_success k_extra "off D12"); (k_here; k_dflt (refine' in_mark (b := false) ?huCO ?NCO ?loCO ?hmCO ?MCO ?hkCO ?hkaCO key_mix ?hbCO (fun t => ?_); (case NCO => k_asm); (case hmCO => (repeat (first | exact List.Mem.head _ | refine List.Mem.tail _ ?_))); (case MCO => first | assumption | exact MarkO.ofEmpty (by assumption)); (case loCO => assumption); (case hkaCO => (repeat (first | exact List.Mem.head _ | refine List.Mem.tail _ ?_))); (case hkCO => (repeat' (first | exact List.forall_mem_nil _ | refine List.forall_mem_cons.mpr (And.intro ?_ ?_) | exact List.Mem.head _ | refine List.Mem.tail _ ?_))); (case hbCO => kernel_rfl); (case huCO => ktr_units))))
  k_with ".setItem ref ref" => ((fail_if_success k_extra "off D12"); (k_here; k_dflt ((first | (refine' setItem_mark (own := []) ?huCP ?hvCP ?FCP ?NCP ?haCP ?hbCP ?MCP ?hkCP ?hkaCP key_mix (fun h' tk' o' F' N' M' => ?_) ?zCP; (case NCP => k_asm)) | (refine' setItem_mark (own := [_]) ?huCP ?hvCP ?FCP ?NCP ?haCP ?hbCP ?MCP ?hkCP ?hkaCP key_mix (fun h' tk' o' F' N' M' => ?_) ?zCP; (case NCP => k_asm)) | (refine' setItem_mark (own := [_, _]) ?huCP ?hvCP ?FCP ?NCP ?haCP ?hbCP ?MCP ?hkCP ?hkaCP key_mix (fun h' tk' o' F' N' M' => ?_) ?zCP; (case NCP => k_asm)) | (refine' setItem_mark (own := [_, _, _]) ?huCP ?hvCP ?FCP ?NCP ?haCP ?hbCP ?MCP ?hkCP ?hkaCP key_mix (fun h' tk' o' F' N' M' => ?_) ?zCP; (case NCP => k_asm))); (case FCP => k_asm); (case MCP => first | assumption | exact MarkO.ofEmpty (by assumption)); (case hvCP => exact PyProof.V.Flat.int _ _); (case haCP => k_all); (case hbCP => k_all); (case hkaCP => (repeat (first | exact List.Mem.head _ | refine List.Mem.tail _ ?_))); (case hkCP => (repeat' (first | exact List.forall_mem_nil _ | refine List.forall_mem_cons.mpr (And.intro ?_ ?_) | exact List.Mem.head _ | refine List.Mem.tail _ ?_))); (case zCP => first | exact Nat.le_of_ble_eq_true (by kernel_rfl)); (case huCP => ktr_units)); (try dsimp only [List.nil_append, List.cons_append] at N')))
  k_with ".subscriptTail Name Name ref int" => ((fail_if_success k_extra "off D12"); (k_here; k_dflt (refine' item_at ?NCQ ?hmCQ ?h0CQ ?hkCQ ?hxCQ ?_ ?hsCQ; (case NCQ => k_asm); (case hmCQ => (repeat (first | exact List.Mem.head _ | refine List.Mem.tail _ ?_))); (case h0CQ => decide); (case hkCQ => decide); (case hxCQ => rfl); (case hsCQ => with_unfolding_all rfl))))
  k_with ".call ref" => (k_here; (with_reducible show wpAny _ _ (call (Value.ref 309) [_]) _ _ _); k_dflt (refine c_mark_v _ _ _ _ _ _ rfl (zW := by assumption) (zD := by exact rfl) (zF := by k_asm) (zN := by k_asm) (hr := by assumption) (hT := by (repeat (first | assumption | refine subT ?_))) (kk9 := ?_)); walk_at "After")
  trivial
inductive RT_c_marks (w : World) (news : Led) (v : Value) (ns : Led) : Prop where
  | mk (d : Nat) (o : Obj) (y1 y2 : Nat) (f1 f2 f3 f4 : Tok) (q9 : v = .ref d ∧ ns = (d, o) :: (y2, tupO #[.str (Str.ofString "order") f3, .int 2 f4]) :: (y1, tupO #[.str (Str.ofString "order") f1, .int 1 f2]) :: news ∧ (d == sysModules) = false ∧ MarkO thePr w [(y2, tupO #[.str (Str.ofString "order") f3, .int 2 f4]), (y1, tupO #[.str (Str.ofString "order") f1, .int 1 f2])] o (PyProof.V.putD (encTuple mixEnc [.inl (Str.ofString "order"), .inr 2]) (.int 5) (PyProof.V.putD (encTuple mixEnc [.inl (Str.ofString "order"), .inr 1]) (.int 2) [])) ∧ AllLt d news ∧ AllLt y1 news ∧ AllLt y2 news) : RT_c_marks w news v ns
theorem c_marks_i {w : World} {news : Led} {h₀ : Heap} {L : Addr} {m : Str → Option Value} {s : Shared} {Q : Value → Shared → Prop}
   (kk9 : ∀ v news' h' tk', (RT_c_marks w news) v news' → Fr h₀ L h' m → News h₀ L h' news' → Q v { s with heap := h', toks := tk' }) :
   ∀ (d : Nat) (o : Obj) (y1 y2 : Nat) (f1 f2 f3 f4 : Tok) (h' : Heap) (tk' : Nat), ((d == sysModules) = false) → (MarkO thePr w [(y2, tupO #[.str (Str.ofString "order") f3, .int 2 f4]), (y1, tupO #[.str (Str.ofString "order") f1, .int 1 f2])] o (PyProof.V.putD (encTuple mixEnc [.inl (Str.ofString "order"), .inr 2]) (.int 5) (PyProof.V.putD (encTuple mixEnc [.inl (Str.ofString "order"), .inr 1]) (.int 2) []))) → (AllLt d news) → (AllLt y1 news) → (AllLt y2 news) → Fr h₀ L h' m → News h₀ L h' ((d, o) :: (y2, tupO #[.str (Str.ofString "order") f3, .int 2 f4]) :: (y1, tupO #[.str (Str.ofString "order") f1, .int 1 f2]) :: news) → Q (.ref d) { s with heap := h', toks := tk' } := by
  intro d o y1 y2 f1 f2 f3 f4 h' tk' f09 f19 f29 f39 f49 F N
  exact kk9 _ _ _ _ ⟨d, o, y1, y2, f1, f2, f3, f4, rfl, rfl, f09, f19, f29, f39, f49⟩ F N
def S_c_marks (kx : Cx) : Prop := ∀ (news : Led) (rl ln : Nat) (nm0 : Str) (vs0 : Array Value) (v1 : Value) (n : Int) (b2 b3 c1 c2 e1 e2 e3 e4 e5 e6 : Tok) (r0 : Nat) (T0 : Led) (r1 : Nat) (T1 : Led) (r2 : Nat) (T2 : Led) (r3 : Nat) (T3 : Led) (r4 : Nat) (T4 : Led) (r5 : Nat) (T5 : Led) (r6 : Nat) (T6 : Led) (r7 : Nat) (T7 : Led) (hl : (rl, listOf #[.ref r0, .ref r1, .ref r2, .ref r3, .ref r4, .ref r5, .ref r6, .ref r7] ln) ∈ news) (hr0 : IsRw nm0 vs0 r0 T0) (hT0 : ∀ q ∈ T0, q ∈ news) (hr1 : IsRw (Str.ofString "jcc") #[v1, .str (Str.ofString "order") b2, .int n b3] r1 T1) (hT1 : ∀ q ∈ T1, q ∈ news) (hr2 : IsRw (Str.ofString "order") #[.int 1 c1] r2 T2) (hT2 : ∀ q ∈ T2, q ∈ news) (hr3 : IsRw (Str.ofString "mov_imm") #[.int 32 e1, .int 9 e2, .int 1 e3] r3 T3) (hT3 : ∀ q ∈ T3, q ∈ news) (hr4 : IsRw (Str.ofString "ret") #[] r4 T4) (hT4 : ∀ q ∈ T4, q ∈ news) (hr5 : IsRw (Str.ofString "order") #[.int 2 c2] r5 T5) (hT5 : ∀ q ∈ T5, q ∈ news) (hr6 : IsRw (Str.ofString "mov_imm") #[.int 32 e4, .int 9 e5, .int 2 e6] r6 T6) (hT6 : ∀ q ∈ T6, q ∈ news) (hr7 : IsRw (Str.ofString "ret") #[] r7 T7) (hT7 : ∀ q ∈ T7, q ∈ news) (hm0 : isMk nm0 = false), Bd kx 19 (Str.ofString "marks_of") (scopeAt "marks_of") 323 322 (bodyAt "marks_of") (fun yq => [(Str.ofString "rows", (.ref rl : Value))].reverse.lookup yq) (news) (RT_c_marks kx.w news)
noncomputable def kap_c_marks : Cx := kapOf S_c_marks
set_option maxHeartbeats 4000000 in
theorem c_marks_k : S_c_marks kap_c_marks := by
  intro news rl ln nm0 vs0 v1 n b2 b3 c1 c2 e1 e2 e3 e4 e5 e6 r0 T0 r1 T1 r2 T2 r3 T3 r4 T4 r5 T5 r6 T6 r7 T7 hl hr0 hT0 hr1 hT1 hr2 hT2 hr3 hT3 hr4 hT4 hr5 hT5 hr6 hT6 hr7 hT7 hm0
  have e1 : (scopeAt "marks_of") = (scopeAt "marks_of") := rfl
  conv at e1 => rhs; whnf
  have e2 : (bodyAt "marks_of") = (bodyAt "marks_of") := rfl
  conv at e2 => rhs; whnf
  (try dsimp only at e1)
  (try dsimp only at e2)
  refine @bd_lit _ _ _ _ _ _ _ _ _ _ _ _ e1 e2 ?_
  clear e1 e2
  unfold Bd
  k_fill
  intro h tk HB HF HX HN HT hdp hun hE hret
  have HW : Wf kap_c_marks 19 := ⟨HB, HX, HT, hdp, hun⟩
  replace hret := fun mq => c_marks_i (hret mq)
  obtain ⟨d2, p2, ka2, kb2, ta2, tb2, tc2, rfl⟩ := hr2
  have qa2 := hT2 _ (.head _)
  have qb2 := hT2 _ (.tail _ (.head _))
  have qc2 := hT2 _ (.tail _ (.tail _ (.head _)))
  obtain ⟨d5, p5, ka5, kb5, ta5, tb5, tc5, rfl⟩ := hr5
  have qa5 := hT5 _ (.head _)
  have qb5 := hT5 _ (.tail _ (.head _))
  have qc5 := hT5 _ (.tail _ (.tail _ (.head _)))
  have HN1 := news_add hl (news_add qa2 (news_add qb2 (news_add qc2 (news_add qa5 (news_add qb5 (news_add qc5 HN HN) HN) HN) HN) HN) HN) HN
  have hr2 : IsRw (Str.ofString "order") #[.int 1 c1] r2 [(r2, instObj 269 d2), (d2, dictOf [⟨ka2, .str (Str.ofString "name") ta2, .str (Str.ofString "order") tc2⟩, ⟨kb2, .str (Str.ofString "parts") tb2, .ref p2⟩] 2), (p2, tupO #[.int 1 c1])] := isRw_mk
  have hr5 : IsRw (Str.ofString "order") #[.int 2 c2] r5 [(r5, instObj 269 d5), (d5, dictOf [⟨ka5, .str (Str.ofString "name") ta5, .str (Str.ofString "order") tc5⟩, ⟨kb5, .str (Str.ofString "parts") tb5, .ref p5⟩] 2), (p5, tupO #[.int 2 c2])] := isRw_mk
  clear HN
  refine frLet HF ?_
  intro mk HF9
  clear HF
  refine ledLet (by with_reducible assumption) ?_
  intro nk HN9
  k_steps
  all_goals (refine' hret _ _ _ _ _ _ _ _ _ _ _ ?lo ?M ?a1 ?a2 ?a3 ?bas ?led
             case M => assumption
             case lo => assumption
             case a1 => (first | walk_at "AllLt" | (assumption))
             case a2 => (first | walk_at "AllLt" | (assumption))
             case a3 => (first | assumption | exact lt_led (by with_reducible assumption) (by k_mem) | exact lt_alt (by with_reducible assumption) (by k_mem) | walk_at "AllLt")
             case bas => k_asm
             case led => k_extra "Z0")
theorem c_marks {w : World} {mean : ExcName → Option Value} {mg mb : Str → Option Value} {news : Led} {rl ln : Nat} {nm0 : Str} {vs0 : Array Value} {v1 : Value} {n : Int} {b2 b3 c1 c2 e1 e2 e3 e4 e5 e6 : Tok} {r0 : Nat} {T0 : Led} {r1 : Nat} {T1 : Led} {r2 : Nat} {T2 : Led} {r3 : Nat} {T3 : Led} {r4 : Nat} {T4 : Led} {r5 : Nat} {T5 : Led} {r6 : Nat} {T6 : Led} {r7 : Nat} {T7 : Led} (hl : (rl, listOf #[.ref r0, .ref r1, .ref r2, .ref r3, .ref r4, .ref r5, .ref r6, .ref r7] ln) ∈ news) (hr0 : IsRw nm0 vs0 r0 T0) (hT0 : ∀ q ∈ T0, q ∈ news) (hr1 : IsRw (Str.ofString "jcc") #[v1, .str (Str.ofString "order") b2, .int n b3] r1 T1) (hT1 : ∀ q ∈ T1, q ∈ news) (hr2 : IsRw (Str.ofString "order") #[.int 1 c1] r2 T2) (hT2 : ∀ q ∈ T2, q ∈ news) (hr3 : IsRw (Str.ofString "mov_imm") #[.int 32 e1, .int 9 e2, .int 1 e3] r3 T3) (hT3 : ∀ q ∈ T3, q ∈ news) (hr4 : IsRw (Str.ofString "ret") #[] r4 T4) (hT4 : ∀ q ∈ T4, q ∈ news) (hr5 : IsRw (Str.ofString "order") #[.int 2 c2] r5 T5) (hT5 : ∀ q ∈ T5, q ∈ news) (hr6 : IsRw (Str.ofString "mov_imm") #[.int 32 e4, .int 9 e5, .int 2 e6] r6 T6) (hT6 : ∀ q ∈ T6, q ∈ news) (hr7 : IsRw (Str.ofString "ret") #[] r7 T7) (hT7 : ∀ q ∈ T7, q ∈ news) (hm0 : isMk nm0 = false) :
   Ct w mean mg mb 20 323 (news) True [.ref rl] (RT_c_marks w news) := by
  k_extra "Z1"
  exact @kap_all S_c_marks c_marks_k ⟨w, mean, mg, mb, dp, un, gd, outer, A₀, base, h₀, L, s, Q, E⟩ news rl ln nm0 vs0 v1 n b2 b3 c1 c2 e1 e2 e3 e4 e5 e6 r0 T0 r1 T1 r2 T2 r3 T3 r4 T4 r5 T5 r6 T6 r7 T7 hl hr0 hT0 hr1 hT1 hr2 hT2 hr3 hT3 hr4 hT4 hr5 hT5 hr6 hT6 hr7 hT7 hm0
theorem c_marks_v (kx : Cx) (cn8 : Str) (cs8 : Scope) (a8 : Addr) (ccd8 : Value) (cl8 : List (Str × Addr)) (zk : cs8.kind = .function) {D8 : Nat} (zW : Wf kx D8) (zD : Nat.ble 20 D8 = true) {news : Led} {rl ln : Nat} {nm0 : Str} {vs0 : Array Value} {v1 : Value} {n : Int} {b2 b3 c1 c2 e1 e2 e3 e4 e5 e6 : Tok} {r0 : Nat} {T0 : Led} {r1 : Nat} {T1 : Led} {r2 : Nat} {T2 : Led} {r3 : Nat} {T3 : Led} {r4 : Nat} {T4 : Led} {r5 : Nat} {T5 : Led} {r6 : Nat} {T6 : Led} {r7 : Nat} {T7 : Led} {m8 : Str → Option Value} {h9 : Heap} {tk9 : Nat} {Q8 E8 : Value → Shared → Prop} (zF : Fr kx.h₀ kx.L h9 m8) (zN : News kx.h₀ kx.L h9 ((news))) (hl : (rl, listOf #[.ref r0, .ref r1, .ref r2, .ref r3, .ref r4, .ref r5, .ref r6, .ref r7] ln) ∈ news) (hr0 : IsRw nm0 vs0 r0 T0) (hT0 : ∀ q ∈ T0, q ∈ news) (hr1 : IsRw (Str.ofString "jcc") #[v1, .str (Str.ofString "order") b2, .int n b3] r1 T1) (hT1 : ∀ q ∈ T1, q ∈ news) (hr2 : IsRw (Str.ofString "order") #[.int 1 c1] r2 T2) (hT2 : ∀ q ∈ T2, q ∈ news) (hr3 : IsRw (Str.ofString "mov_imm") #[.int 32 e1, .int 9 e2, .int 1 e3] r3 T3) (hT3 : ∀ q ∈ T3, q ∈ news) (hr4 : IsRw (Str.ofString "ret") #[] r4 T4) (hT4 : ∀ q ∈ T4, q ∈ news) (hr5 : IsRw (Str.ofString "order") #[.int 2 c2] r5 T5) (hT5 : ∀ q ∈ T5, q ∈ news) (hr6 : IsRw (Str.ofString "mov_imm") #[.int 32 e4, .int 9 e5, .int 2 e6] r6 T6) (hT6 : ∀ q ∈ T6, q ∈ news) (hr7 : IsRw (Str.ofString "ret") #[] r7 T7) (hT7 : ∀ q ∈ T7, q ∈ news) (hm0 : isMk nm0 = false)
   (kk9 : ∀ (d : Nat) (o : Obj) (y1 y2 : Nat) (f1 f2 f3 f4 : Tok) (h' : Heap) (tk' : Nat), ((d == sysModules) = false) → (MarkO thePr kx.w [(y2, tupO #[.str (Str.ofString "order") f3, .int 2 f4]), (y1, tupO #[.str (Str.ofString "order") f1, .int 1 f2])] o (PyProof.V.putD (encTuple mixEnc [.inl (Str.ofString "order"), .inr 2]) (.int 5) (PyProof.V.putD (encTuple mixEnc [.inl (Str.ofString "order"), .inr 1]) (.int 2) []))) → (AllLt d news) → (AllLt y1 news) → (AllLt y2 news) → let n' : Led := ((d, o) :: (y2, tupO #[.str (Str.ofString "order") f3, .int 2 f4]) :: (y1, tupO #[.str (Str.ofString "order") f1, .int 1 f2]) :: news); Fr kx.h₀ kx.L h' m8 → News kx.h₀ kx.L h' n' → Q8 (.ref d) (kSt kx h' tk')) : wpAny (kMd kx) (kAr kx (envX cn8 cs8 kx.L a8 ccd8 cl8)) (call (.ref 323) [.ref rl]) Q8 E8 (kSt kx h9 tk9) := by
  refine cv_use kx cn8 cs8 a8 ccd8 cl8 zk zW zD (c_marks (hl := hl) (hr0 := hr0) (hT0 := hT0) (hr1 := hr1) (hT1 := hT1) (hr2 := hr2) (hT2 := hT2) (hr3 := hr3) (hT3 := hT3) (hr4 := hr4) (hT4 := hT4) (hr5 := hr5) (hT5 := hT5) (hr6 := hr6) (hT6 := hT6) (hr7 := hr7) (hT7 := hT7) (hm0 := hm0)) zF zN ?_
  rintro v news' h' tk' ⟨d, o, y1, y2, f1, f2, f3, f4, rfl, rfl, f09, f19, f29, f39, f49⟩ F N
  exact kk9 d o y1 y2 f1 f2 f3 f4 _ _ f09 f19 f29 f39 f49 F N
example : True := by
  k_with "off D12" => skip
  trivial
end
section
set_option maxHeartbeats 1000000
example : True := by
  k_with "nolean" => fail_if_success k_extra "off D13d"
  trivial
def CkRow (w : World) (mean : ExcName → Option Value) (mg mb : Str → Option Value) (r : Nat) (T : Led) : Prop := ∀ (news : Led) (dS : Nat) (oS : Obj), (∀ q ∈ T, q ∈ news) → (dS, oS) ∈ news → ShapesOf w dS oS → Ct w mean mg mb 16 302 news True [.ref r, .ref dS] (fun v ns => v = .ref r ∧ ns = news)

example : True := by
  k_with "off D13d" => skip
  trivial
end
section
set_option maxHeartbeats 1000000
example : True := by
  k_with ".compareOp NotIn ref ref" => ((fail_if_success k_extra "off D13"); (k_here; k_dflt (refine' notin_mark (b := false) ?huCS ?NCS ?loCS ?hmCS ?MCS ?hkCS ?hkaCS key_mix ?hbCS (fun t => ?_); (case NCS => k_asm); (case hmCS => (repeat (first | exact List.Mem.head _ | refine List.Mem.tail _ ?_))); (case MCS => assumption); (case loCS => assumption); (case hkaCS => (repeat (first | exact List.Mem.head _ | refine List.Mem.tail _ ?_))); (case hkCS => (repeat' (first | exact List.forall_mem_nil _ | refine List.forall_mem_cons.mpr (And.intro ?_ ?_) | exact List.Mem.head _ | refine List.Mem.tail _ ?_))); (case hbCS => assumption); (case huCS => ktr_units))))
  k_with ".subscriptTail Name Name ref int" => ((fail_if_success k_extra "off D13"); (k_here; k_dflt (refine' item_at ?NCT ?hmCT ?h0CT ?hkCT ?hxCT ?_ ?hsCT; (case NCT => k_asm); (case hmCT => (repeat (first | exact List.Mem.head _ | refine List.Mem.tail _ ?_))); (case h0CT => decide); (case hkCT => decide); (case hxCT => rfl); (case hsCT => with_unfolding_all rfl))))
  k_with ".call ref" => (k_here; (with_reducible show wpAny _ _ (call (Value.ref 323) [_]) _ _ _); k_dflt (refine c_marks_v _ _ _ _ _ _ rfl (zW := by assumption) (zD := by exact rfl) (zF := by k_asm) (zN := by k_asm) (hl := by walk_at "Mem") (hr0 := by assumption) (hT0 := by (repeat (first | assumption | refine subT ?_))) (hr1 := by assumption) (hT1 := by (repeat (first | assumption | refine subT ?_))) (hr2 := by assumption) (hT2 := by (repeat (first | assumption | refine subT ?_))) (hr3 := by assumption) (hT3 := by (repeat (first | assumption | refine subT ?_))) (hr4 := by assumption) (hT4 := by (repeat (first | assumption | refine subT ?_))) (hr5 := by assumption) (hT5 := by (repeat (first | assumption | refine subT ?_))) (hr6 := by assumption) (hT6 := by (repeat (first | assumption | refine subT ?_))) (hr7 := by assumption) (hT7 := by (repeat (first | assumption | refine subT ?_))) (hm0 := by assumption) (kk9 := ?_)); (intro x09Z x19Z x29Z x39Z x49Z x59Z x69Z x79Z h9Z tk9Z hf09Z hf19Z hf29Z hf39Z hf49Z nkZ F9Z N9Z; (try simp only [AllLt, and_true] at hf29Z); (repeat (have h9Z := And.left hf29Z; replace hf29Z := And.right hf29Z));(try simp only [AllLt, and_true] at hf39Z); (repeat (have h9Z := And.left hf39Z; replace hf39Z := And.right hf39Z));(try simp only [AllLt, and_true] at hf49Z); (repeat (have h9Z := And.left hf49Z; replace hf49Z := And.right hf49Z)); (try dsimp only); (try k_fold)))
  k_with ".call ref" => (k_here; (with_reducible show wpAny _ _ (call (Value.ref 280) _) _ _ _); k_dflt (refine c_shapes_v _ _ _ _ _ _ rfl (zW := by assumption) (zD := by exact rfl) (zF := by k_asm) (zN := by k_asm) (kk9 := ?_)); walk_at "After")
  trivial
theorem X_eD13_1 {news : Led}  {h₀ : Heap} {L : Addr} {m : Str → Option Value} {s : Shared} {Q : Value → Shared → Prop}
   (kk9 : ∀ (h' : Heap) (tk' : Nat), let n' : Led := (news); Fr h₀ L h' m → News h₀ L h' n' → Q (.ref r) { s with heap := h', toks := tk' }) : ∀ (v : Value) (news' : Led) (h' : Heap) (tk' : Nat), (v = .ref r ∧ news' = news) → Fr h₀ L h' m → News h₀ L h' news' → Q v { s with heap := h', toks := tk' } := by
  rintro v news' h' tk' ⟨rfl, rfl⟩ F N
  exact kk9 _ _ F N
example : True := by
  k_with ".call ref" => (k_here; (with_reducible show wpAny _ _ (call (Value.ref 302) [_, _]) _ _ _); k_dflt (refine' ct_use ((show CkRow _ _ _ _ _ _ from ?hckCW) _ _ _ ?hTCW ?hsCW ?hSCW) ?kBCW ?kFCW ?kXCW ?kNCW ?kTCW ?kkCW trivial ?kdCW ?kuCW (X_eD13_1 ?_); (case kBCW => k_asm); (case kFCW => k_asm); (case kXCW => k_asm); (case kNCW => k_asm); (case kTCW => k_asm); (case hckCW => assumption); (case hTCW => (repeat (first | assumption | refine subT ?_))); (case hsCW => (repeat (first | exact List.Mem.head _ | refine List.Mem.tail _ ?_))); (case hSCW => assumption); (case kkCW => first | exact rfl | assumption);  (case kdCW => ktr_room); (case kuCW => ktr_units); (intro h9Z tk9Z nkZ F9Z N9Z;  (try dsimp only [List.nil_append, List.cons_append] at N9Z); (try dsimp only); (try k_fold))))
  k_with ".call ref" => (k_here; (with_reducible show wpAny _ _ (call (Value.ref 316) [_]) _ _ _); k_dflt (refine c_goal0_v _ _ _ _ _ _ rfl (zW := by assumption) (zD := by exact rfl) (zF := by k_asm) (zN := by k_asm) (hr := by assumption) (hT := by (repeat (first | assumption | refine subT ?_))) (g1 := by (first | assumption | decide +kernel)) (g2 := by (first | assumption | decide +kernel)) (g3 := by (first | assumption | decide +kernel)) (kk9 := ?_)); walk_at "After")
  k_with ".call ref" => (k_here; (with_reducible show wpAny _ _ (call (Value.ref 316) [_]) _ _ _); k_dflt (refine c_goalj_v _ _ _ _ _ _ rfl (zW := by assumption) (zD := by exact rfl) (zF := by k_asm) (zN := by k_asm) (hr := by assumption) (hT := by (repeat (first | assumption | refine subT ?_))) (kk9 := ?_)); (intro x09Z h9Z tk9Z hf09Z nkZ F9Z N9Z; (try simp only [AllLt, and_true] at hf09Z); (repeat (have h9Z := And.left hf09Z; replace hf09Z := And.right hf09Z)); (try dsimp only); (try k_fold)))
  trivial
inductive RT_c_crows (w : World) (news : Led) (v : Value) (ns : Led) : Prop where
  | mk (d : Nat) (o : Obj) (y1 y2 : Nat) (f1 f2 f3 f4 : Tok) (q9 : v = .ref d ∧ ns = (d, o) :: (y2, tupO #[.str (Str.ofString "order") f3, .int 2 f4]) :: (y1, tupO #[.str (Str.ofString "order") f1, .int 1 f2]) :: news ∧ (d == sysModules) = false ∧ MarkO thePr w [(y2, tupO #[.str (Str.ofString "order") f3, .int 2 f4]), (y1, tupO #[.str (Str.ofString "order") f1, .int 1 f2])] o (PyProof.V.putD (encTuple mixEnc [.inl (Str.ofString "order"), .inr 2]) (.int 5) (PyProof.V.putD (encTuple mixEnc [.inl (Str.ofString "order"), .inr 1]) (.int 2) [])) ∧ AllLt d news ∧ AllLt y1 news ∧ AllLt y2 news) : RT_c_crows w news v ns
theorem c_crows_i {w : World} {news : Led} {h₀ : Heap} {L : Addr} {m : Str → Option Value} {s : Shared} {Q : Value → Shared → Prop}
   (kk9 : ∀ v news' h' tk', (RT_c_crows w news) v news' → Fr h₀ L h' m → News h₀ L h' news' → Q v { s with heap := h', toks := tk' }) :
   ∀ (d : Nat) (o : Obj) (y1 y2 : Nat) (f1 f2 f3 f4 : Tok) (h' : Heap) (tk' : Nat), ((d == sysModules) = false) → (MarkO thePr w [(y2, tupO #[.str (Str.ofString "order") f3, .int 2 f4]), (y1, tupO #[.str (Str.ofString "order") f1, .int 1 f2])] o (PyProof.V.putD (encTuple mixEnc [.inl (Str.ofString "order"), .inr 2]) (.int 5) (PyProof.V.putD (encTuple mixEnc [.inl (Str.ofString "order"), .inr 1]) (.int 2) []))) → (AllLt d news) → (AllLt y1 news) → (AllLt y2 news) → Fr h₀ L h' m → News h₀ L h' ((d, o) :: (y2, tupO #[.str (Str.ofString "order") f3, .int 2 f4]) :: (y1, tupO #[.str (Str.ofString "order") f1, .int 1 f2]) :: news) → Q (.ref d) { s with heap := h', toks := tk' } := by
  intro d o y1 y2 f1 f2 f3 f4 h' tk' f09 f19 f29 f39 f49 F N
  exact kk9 _ _ _ _ ⟨d, o, y1, y2, f1, f2, f3, f4, rfl, rfl, f09, f19, f29, f39, f49⟩ F N
def S_c_crows (kx : Cx) : Prop := ∀ (news : Led) (rl ln : Nat) (nm0 : Str) (vs0 : Array Value) (v1 : Value) (n : Int) (b2 b3 c1 c2 e1 e2 e3 e4 e5 e6 : Tok) (r0 : Nat) (T0 : Led) (r1 : Nat) (T1 : Led) (r2 : Nat) (T2 : Led) (r3 : Nat) (T3 : Led) (r4 : Nat) (T4 : Led) (r5 : Nat) (T5 : Led) (r6 : Nat) (T6 : Led) (r7 : Nat) (T7 : Led) (hl : (rl, listOf #[.ref r0, .ref r1, .ref r2, .ref r3, .ref r4, .ref r5, .ref r6, .ref r7] ln) ∈ news) (hr0 : IsRw nm0 vs0 r0 T0) (hT0 : ∀ q ∈ T0, q ∈ news) (hr1 : IsRw (Str.ofString "jcc") #[v1, .str (Str.ofString "order") b2, .int n b3] r1 T1) (hT1 : ∀ q ∈ T1, q ∈ news) (hr2 : IsRw (Str.ofString "order") #[.int 1 c1] r2 T2) (hT2 : ∀ q ∈ T2, q ∈ news) (hr3 : IsRw (Str.ofString "mov_imm") #[.int 32 e1, .int 9 e2, .int 1 e3] r3 T3) (hT3 : ∀ q ∈ T3, q ∈ news) (hr4 : IsRw (Str.ofString "ret") #[] r4 T4) (hT4 : ∀ q ∈ T4, q ∈ news) (hr5 : IsRw (Str.ofString "order") #[.int 2 c2] r5 T5) (hT5 : ∀ q ∈ T5, q ∈ news) (hr6 : IsRw (Str.ofString "mov_imm") #[.int 32 e4, .int 9 e5, .int 2 e6] r6 T6) (hT6 : ∀ q ∈ T6, q ∈ news) (hr7 : IsRw (Str.ofString "ret") #[] r7 T7) (hT7 : ∀ q ∈ T7, q ∈ news) (hk0 : CkRow kx.w kx.mean kx.mg kx.mb r0 T0) (hk1 : CkRow kx.w kx.mean kx.mg kx.mb r1 T1) (hk2 : CkRow kx.w kx.mean kx.mg kx.mb r2 T2) (hk3 : CkRow kx.w kx.mean kx.mg kx.mb r3 T3) (hk4 : CkRow kx.w kx.mean kx.mg kx.mb r4 T4) (hk5 : CkRow kx.w kx.mean kx.mg kx.mb r5 T5) (hk6 : CkRow kx.w kx.mean kx.mg kx.mb r6 T6) (hk7 : CkRow kx.w kx.mean kx.mg kx.mb r7 T7) (hm0 : isMk nm0 = false) (g1 : (nm0 == Str.ofString "jmp") = false) (g2 : (nm0 == Str.ofString "jcc") = false) (g3 : (nm0 == Str.ofString "call") = false) (hn : n = 1 ∨ n = 2), Bd kx 35 (Str.ofString "check_rows") (scopeAt "check_rows") 330 329 (bodyAt "check_rows") (fun yq => [(Str.ofString "rows", (.ref rl : Value))].reverse.lookup yq) (news) (RT_c_crows kx.w news)
noncomputable def kap_c_crows : Cx := kapOf S_c_crows
set_option maxHeartbeats 4000000 in
theorem c_crows_k : S_c_crows kap_c_crows := by
  intro news rl ln nm0 vs0 v1 n b2 b3 c1 c2 e1 e2 e3 e4 e5 e6 r0 T0 r1 T1 r2 T2 r3 T3 r4 T4 r5 T5 r6 T6 r7 T7 hl hr0 hT0 hr1 hT1 hr2 hT2 hr3 hT3 hr4 hT4 hr5 hT5 hr6 hT6 hr7 hT7 hk0 hk1 hk2 hk3 hk4 hk5 hk6 hk7 hm0 g1 g2 g3 hn
  have e1 : (scopeAt "check_rows") = (scopeAt "check_rows") := rfl
  conv at e1 => rhs; whnf
  have e2 : (bodyAt "check_rows") = (bodyAt "check_rows") := rfl
  conv at e2 => rhs; whnf
  (try dsimp only at e1)
  (try dsimp only at e2)
  refine @bd_lit _ _ _ _ _ _ _ _ _ _ _ _ e1 e2 ?_
  clear e1 e2
  unfold Bd
  k_fill
  intro h tk HB HF HX HN HT hdp hun hE hret
  have HW : Wf kap_c_crows 35 := ⟨HB, HX, HT, hdp, hun⟩
  replace hret := fun mq => c_crows_i (hret mq)
  have HN1 := news_add hl HN HN
  clear HN
  have hlk : (!(PySem.Spec.lookup (encTuple mixEnc [.inl (Str.ofString "order"), .inr n]) (PyProof.V.putD (encTuple mixEnc [.inl (Str.ofString "order"), .inr 2]) (.int 5) (PyProof.V.putD (encTuple mixEnc [.inl (Str.ofString "order"), .inr 1]) (.int 2) []))).isSome) = false := by rcases hn with rfl | rfl <;> kernel_rfl
  refine frLet HF ?_
  intro mk HF9
  clear HF
  refine ledLet (by with_reducible assumption) ?_
  intro nk HN9
  k_steps
  all_goals (refine' hret _ _ _ _ _ _ _ _ _ _ _ ?lo ?M ?a1 ?a2 ?a3 ?bas ?led
             case M => assumption
             case lo => assumption
             case a1 => (first | walk_at "AllLt" | (assumption))
             case a2 => (first | walk_at "AllLt" | (assumption))
             case a3 => (first | assumption | exact lt_led (by with_reducible assumption) (by k_mem) | exact lt_alt (by with_reducible assumption) (by k_mem) | walk_at "AllLt")
             case bas => k_asm
             case led => k_extra "Z0")
theorem c_crows {w : World} {mean : ExcName → Option Value} {mg mb : Str → Option Value} {news : Led} {rl ln : Nat} {nm0 : Str} {vs0 : Array Value} {v1 : Value} {n : Int} {b2 b3 c1 c2 e1 e2 e3 e4 e5 e6 : Tok} {r0 : Nat} {T0 : Led} {r1 : Nat} {T1 : Led} {r2 : Nat} {T2 : Led} {r3 : Nat} {T3 : Led} {r4 : Nat} {T4 : Led} {r5 : Nat} {T5 : Led} {r6 : Nat} {T6 : Led} {r7 : Nat} {T7 : Led} (hl : (rl, listOf #[.ref r0, .ref r1, .ref r2, .ref r3, .ref r4, .ref r5, .ref r6, .ref r7] ln) ∈ news) (hr0 : IsRw nm0 vs0 r0 T0) (hT0 : ∀ q ∈ T0, q ∈ news) (hr1 : IsRw (Str.ofString "jcc") #[v1, .str (Str.ofString "order") b2, .int n b3] r1 T1) (hT1 : ∀ q ∈ T1, q ∈ news) (hr2 : IsRw (Str.ofString "order") #[.int 1 c1] r2 T2) (hT2 : ∀ q ∈ T2, q ∈ news) (hr3 : IsRw (Str.ofString "mov_imm") #[.int 32 e1, .int 9 e2, .int 1 e3] r3 T3) (hT3 : ∀ q ∈ T3, q ∈ news) (hr4 : IsRw (Str.ofString "ret") #[] r4 T4) (hT4 : ∀ q ∈ T4, q ∈ news) (hr5 : IsRw (Str.ofString "order") #[.int 2 c2] r5 T5) (hT5 : ∀ q ∈ T5, q ∈ news) (hr6 : IsRw (Str.ofString "mov_imm") #[.int 32 e4, .int 9 e5, .int 2 e6] r6 T6) (hT6 : ∀ q ∈ T6, q ∈ news) (hr7 : IsRw (Str.ofString "ret") #[] r7 T7) (hT7 : ∀ q ∈ T7, q ∈ news) (hk0 : CkRow w mean mg mb r0 T0) (hk1 : CkRow w mean mg mb r1 T1) (hk2 : CkRow w mean mg mb r2 T2) (hk3 : CkRow w mean mg mb r3 T3) (hk4 : CkRow w mean mg mb r4 T4) (hk5 : CkRow w mean mg mb r5 T5) (hk6 : CkRow w mean mg mb r6 T6) (hk7 : CkRow w mean mg mb r7 T7) (hm0 : isMk nm0 = false) (g1 : (nm0 == Str.ofString "jmp") = false) (g2 : (nm0 == Str.ofString "jcc") = false) (g3 : (nm0 == Str.ofString "call") = false) (hn : n = 1 ∨ n = 2) :
   Ct w mean mg mb 36 330 (news) True [.ref rl] (RT_c_crows w news) := by
  k_extra "Z1"
  exact @kap_all S_c_crows c_crows_k ⟨w, mean, mg, mb, dp, un, gd, outer, A₀, base, h₀, L, s, Q, E⟩ news rl ln nm0 vs0 v1 n b2 b3 c1 c2 e1 e2 e3 e4 e5 e6 r0 T0 r1 T1 r2 T2 r3 T3 r4 T4 r5 T5 r6 T6 r7 T7 hl hr0 hT0 hr1 hT1 hr2 hT2 hr3 hT3 hr4 hT4 hr5 hT5 hr6 hT6 hr7 hT7 hk0 hk1 hk2 hk3 hk4 hk5 hk6 hk7 hm0 g1 g2 g3 hn
theorem c_crows_v (kx : Cx) (cn8 : Str) (cs8 : Scope) (a8 : Addr) (ccd8 : Value) (cl8 : List (Str × Addr)) (zk : cs8.kind = .function) {D8 : Nat} (zW : Wf kx D8) (zD : Nat.ble 36 D8 = true) {news : Led} {rl ln : Nat} {nm0 : Str} {vs0 : Array Value} {v1 : Value} {n : Int} {b2 b3 c1 c2 e1 e2 e3 e4 e5 e6 : Tok} {r0 : Nat} {T0 : Led} {r1 : Nat} {T1 : Led} {r2 : Nat} {T2 : Led} {r3 : Nat} {T3 : Led} {r4 : Nat} {T4 : Led} {r5 : Nat} {T5 : Led} {r6 : Nat} {T6 : Led} {r7 : Nat} {T7 : Led} {m8 : Str → Option Value} {h9 : Heap} {tk9 : Nat} {Q8 E8 : Value → Shared → Prop} (zF : Fr kx.h₀ kx.L h9 m8) (zN : News kx.h₀ kx.L h9 ((news))) (hl : (rl, listOf #[.ref r0, .ref r1, .ref r2, .ref r3, .ref r4, .ref r5, .ref r6, .ref r7] ln) ∈ news) (hr0 : IsRw nm0 vs0 r0 T0) (hT0 : ∀ q ∈ T0, q ∈ news) (hr1 : IsRw (Str.ofString "jcc") #[v1, .str (Str.ofString "order") b2, .int n b3] r1 T1) (hT1 : ∀ q ∈ T1, q ∈ news) (hr2 : IsRw (Str.ofString "order") #[.int 1 c1] r2 T2) (hT2 : ∀ q ∈ T2, q ∈ news) (hr3 : IsRw (Str.ofString "mov_imm") #[.int 32 e1, .int 9 e2, .int 1 e3] r3 T3) (hT3 : ∀ q ∈ T3, q ∈ news) (hr4 : IsRw (Str.ofString "ret") #[] r4 T4) (hT4 : ∀ q ∈ T4, q ∈ news) (hr5 : IsRw (Str.ofString "order") #[.int 2 c2] r5 T5) (hT5 : ∀ q ∈ T5, q ∈ news) (hr6 : IsRw (Str.ofString "mov_imm") #[.int 32 e4, .int 9 e5, .int 2 e6] r6 T6) (hT6 : ∀ q ∈ T6, q ∈ news) (hr7 : IsRw (Str.ofString "ret") #[] r7 T7) (hT7 : ∀ q ∈ T7, q ∈ news) (hk0 : CkRow kx.w kx.mean kx.mg kx.mb r0 T0) (hk1 : CkRow kx.w kx.mean kx.mg kx.mb r1 T1) (hk2 : CkRow kx.w kx.mean kx.mg kx.mb r2 T2) (hk3 : CkRow kx.w kx.mean kx.mg kx.mb r3 T3) (hk4 : CkRow kx.w kx.mean kx.mg kx.mb r4 T4) (hk5 : CkRow kx.w kx.mean kx.mg kx.mb r5 T5) (hk6 : CkRow kx.w kx.mean kx.mg kx.mb r6 T6) (hk7 : CkRow kx.w kx.mean kx.mg kx.mb r7 T7) (hm0 : isMk nm0 = false) (g1 : (nm0 == Str.ofString "jmp") = false) (g2 : (nm0 == Str.ofString "jcc") = false) (g3 : (nm0 == Str.ofString "call") = false) (hn : n = 1 ∨ n = 2)
   (kk9 : ∀ (d : Nat) (o : Obj) (y1 y2 : Nat) (f1 f2 f3 f4 : Tok) (h' : Heap) (tk' : Nat), ((d == sysModules) = false) → (MarkO thePr kx.w [(y2, tupO #[.str (Str.ofString "order") f3, .int 2 f4]), (y1, tupO #[.str (Str.ofString "order") f1, .int 1 f2])] o (PyProof.V.putD (encTuple mixEnc [.inl (Str.ofString "order"), .inr 2]) (.int 5) (PyProof.V.putD (encTuple mixEnc [.inl (Str.ofString "order"), .inr 1]) (.int 2) []))) → (AllLt d news) → (AllLt y1 news) → (AllLt y2 news) → let n' : Led := ((d, o) :: (y2, tupO #[.str (Str.ofString "order") f3, .int 2 f4]) :: (y1, tupO #[.str (Str.ofString "order") f1, .int 1 f2]) :: news); Fr kx.h₀ kx.L h' m8 → News kx.h₀ kx.L h' n' → Q8 (.ref d) (kSt kx h' tk')) : wpAny (kMd kx) (kAr kx (envX cn8 cs8 kx.L a8 ccd8 cl8)) (call (.ref 330) [.ref rl]) Q8 E8 (kSt kx h9 tk9) := by
  refine cv_use kx cn8 cs8 a8 ccd8 cl8 zk zW zD (c_crows (hl := hl) (hr0 := hr0) (hT0 := hT0) (hr1 := hr1) (hT1 := hT1) (hr2 := hr2) (hT2 := hT2) (hr3 := hr3) (hT3 := hT3) (hr4 := hr4) (hT4 := hT4) (hr5 := hr5) (hT5 := hT5) (hr6 := hr6) (hT6 := hT6) (hr7 := hr7) (hT7 := hT7) (hk0 := hk0) (hk1 := hk1) (hk2 := hk2) (hk3 := hk3) (hk4 := hk4) (hk5 := hk5) (hk6 := hk6) (hk7 := hk7) (hm0 := hm0) (g1 := g1) (g2 := g2) (g3 := g3) (hn := hn)) zF zN ?_
  rintro v news' h' tk' ⟨d, o, y1, y2, f1, f2, f3, f4, rfl, rfl, f09, f19, f29, f39, f49⟩ F N
  exact kk9 d o y1 y2 f1 f2 f3 f4 _ _ f09 f19 f29 f39 f49 F N
example : True := by
  k_with "off D13" => skip
  trivial
end
section
set_option maxHeartbeats 1000000
abbrev CtC (w : World) (mean : ExcName → Option Value) (mg mb : Str → Option Value) (D : Nat) (f : Nat) (news : Led) (pre : Prop) (vs : List Value) (Ret : Value → Led → Prop) : Prop :=
  ∀ (dp un : Nat) (gd : Option (List Code)) (cn : Str) (cs : Scope) (a : Addr) (ccd : Value) (cl : List (Str × Addr)) (outer : List Env) (A₀ : Around) (base h₀ : Heap) (L : Addr) (m : Str → Option Value) (s : Shared) (Q E : Value → Shared → Prop),
    Below A₀ base outer h₀ → Fr h₀ L s.heap m → (hd.heap_39 w.params).In h₀ → News h₀ L s.heap news → Top hd.view_39 loo mean mg mb h₀ → cs.kind = .function → pre → dp + D < recursionLimit → un + 8 * D < cLine →
    (∀ v news' h' tk', Ret v news' → Fr h₀ L h' m → News h₀ L h' news' → Q v { s with heap := h', toks := tk' }) →
    codeAny (model PySem.Challenge.rw_ok0177_01.row.prog w) (ktrTop dp un gd cn cs L a ccd cl outer) (.call (.ref f) ⟨vs, []⟩) (fun r s' => match r with | .ok (.ret v) => Q v s' | .ok _ => False | .error e => E e s') s
theorem ctc_meth {w : World} {mean : ExcName → Option Value} {mg mb : Str → Option Value} {D f q : Nat} {self : Value} {news news2 : Led} {pre : Prop} {vs : List Value} {Ret : Value → Led → Prop}
    (C : CtC w mean mg mb D f news pre (self :: vs) Ret) {dp un : Nat} {gd : Option (List Code)} {cn : Str} {cs : Scope} {a : Addr} {ccd : Value} {cl : List (Str × Addr)} {outer : List Env} {A₀ : Around} {base h₀ : Heap} {L : Addr} {m : Str → Option Value} {s : Shared} {Q E : Value → Shared → Prop}
    (N2 : News h₀ L s.heap news2) (hq : (q, methodObj (.ref f) self) ∈ news2) (B : Below A₀ base outer h₀) (F : Fr h₀ L s.heap m) (X : (hd.heap_39 w.params).In h₀) (N : News h₀ L s.heap news) (T : Top hd.view_39 loo mean mg mb h₀) (hk : cs.kind = .function) (hp : pre) (hd : dp + D < recursionLimit) (hu : un + 8 * D < cLine)
    (hR : ∀ v news' h' tk', Ret v news' → Fr h₀ L h' m → News h₀ L h' news' → Q v { s with heap := h', toks := tk' }) :
    wpAny (model PySem.Challenge.rw_ok0177_01.row.prog w) (ktrTop dp un gd cn cs L a ccd cl outer) (call (.ref q) vs) Q E s :=
  call_meth N2 hq (C _ _ _ _ _ _ _ _ _ _ _ _ _ _ _ _ _ B F X N T hk hp hd hu hR)
end
section
set_option maxHeartbeats 1000000
def pw (sz : Int) : Int := if sz = 64 then 18446744073709551616 else 4294967296
def sgB (sz x : Int) : Bool := decide (pw sz / 2 ≤ x)
inductive IsFl (c z sg ov : Bool) (d : Obj) : Prop where
  | mk (h1 h2 h3 h4 : Int) (t1 t2 t3 t4 : Tok) (q9 : d = dictOf [⟨h1, .str (Str.ofString "carry") t1, .bool c⟩, ⟨h2, .str (Str.ofString "zero") t2, .bool z⟩, ⟨h3, .str (Str.ofString "sign") t3, .bool sg⟩, ⟨h4, .str (Str.ofString "over") t4, .bool ov⟩] 4) : IsFl c z sg ov d
theorem isFl_mk {c z sg ov : Bool} {h1 h2 h3 h4 : Int} {t1 t2 t3 t4 : Tok} : IsFl c z sg ov (dictOf [⟨h1, .str (Str.ofString "carry") t1, .bool c⟩, ⟨h2, .str (Str.ofString "zero") t2, .bool z⟩, ⟨h3, .str (Str.ofString "sign") t3, .bool sg⟩, ⟨h4, .str (Str.ofString "over") t4, .bool ov⟩] 4) := ⟨_, _, _, _, _, _, _, _, rfl⟩
theorem mask64 (x : Int) : Builtin.bitAnd x (1 * 2 ^ Int.toNat 64 - 1) = x.fmod 18446744073709551616 := by
  have := kbt_maskF x 64
  exact this
theorem mask32 (x : Int) : Builtin.bitAnd x (1 * 2 ^ Int.toNat 32 - 1) = x.fmod 4294967296 := by
  have := kbt_maskF x 32
  exact this
theorem bit1 (y : Int) : Builtin.bitAnd y 1 = y % 2 := kbt_mask y 1
theorem sg64_eq {x : Int} (h0 : 0 ≤ x) (h1 : x < 18446744073709551616) : (Builtin.bitAnd (x.fdiv (2 ^ (64 - 1 : Int).toNat)) 1 == 1) = decide (9223372036854775808 ≤ x) := by
  rw [bit1, show (2 : Int) ^ (64 - 1 : Int).toNat = 9223372036854775808 from by decide, Int.fdiv_eq_ediv_of_nonneg _ (by decide)]
  by_cases h : 9223372036854775808 ≤ x
  · rw [decide_eq_true h, beq_iff_eq]; omega
  · rw [decide_eq_false h, beq_eq_false_iff_ne]; omega
theorem sg32_eq {x : Int} (h0 : 0 ≤ x) (h1 : x < 4294967296) : (Builtin.bitAnd (x.fdiv (2 ^ (32 - 1 : Int).toNat)) 1 == 1) = decide (2147483648 ≤ x) := by
  rw [bit1, show (2 : Int) ^ (32 - 1 : Int).toNat = 2147483648 from by decide, Int.fdiv_eq_ediv_of_nonneg _ (by decide)]
  by_cases h : 2147483648 ≤ x
  · rw [decide_eq_true h, beq_iff_eq]; omega
  · rw [decide_eq_false h, beq_eq_false_iff_ne]; omega
theorem pw_pos (sz : Int) : 0 < pw sz := by unfold pw; split <;> decide
theorem fmod_lo (sz x : Int) : 0 ≤ x.fmod (pw sz) := by rw [Int.fmod_eq_emod_of_nonneg _ (Int.le_of_lt (pw_pos sz))]; exact Int.emod_nonneg _ (Int.ne_of_gt (pw_pos sz))
theorem fmod_hi (sz x : Int) : x.fmod (pw sz) < pw sz := by rw [Int.fmod_eq_emod_of_nonneg _ (Int.le_of_lt (pw_pos sz))]; exact Int.emod_lt_of_pos _ (pw_pos sz)
def S_c_wrap64 (kx : Cx) : Prop := ∀ (news : Led) (x : Int) (t u : Tok), Bd kx 7 (Str.ofString "wrap") (scopeAt "wrap") 93 92 (bodyAt "wrap") (fun yq => [(Str.ofString "worth", (.int x t : Value)), (Str.ofString "size", (.int 64 u : Value))].reverse.lookup yq) (news) (fun v ns => ∃ (q : Tok), v = .int (x.fmod 18446744073709551616) q ∧ ns = news)
noncomputable def kap_c_wrap64 : Cx := kapOf S_c_wrap64
theorem c_wrap64_k : S_c_wrap64 kap_c_wrap64 := by
  intro news x t u
  have e1 : (scopeAt "wrap") = (scopeAt "wrap") := rfl
  conv at e1 => rhs; whnf
  have e2 : (bodyAt "wrap") = (bodyAt "wrap") := rfl
  conv at e2 => rhs; whnf
  (try dsimp only at e1)
  (try dsimp only at e2)
  refine @bd_lit _ _ _ _ _ _ _ _ _ _ _ _ e1 e2 ?_
  clear e1 e2
  unfold Bd
  k_fill
  intro h tk HB HF HX HN HT hdp hun hE hret
  have HW : Wf kap_c_wrap64 7 := ⟨HB, HX, HT, hdp, hun⟩
  refine frLet HF ?_
  intro mk HF9
  clear HF
  refine ledLet (by with_reducible assumption) ?_
  intro nk HN9
  k_steps
  all_goals (refine' hret _ _ _ _ _ ⟨_, congrArg (Value.int · _) (mask64 x), rfl⟩ ?bas ?led
             case bas => k_asm
             case led => k_extra "Z3")
theorem c_wrap64 {w : World} {mean : ExcName → Option Value} {mg mb : Str → Option Value} {news : Led} {x : Int} {t u : Tok}  :
   Ct w mean mg mb 8 93 (news) True [.int x t, .int 64 u] (fun v ns => ∃ (q : Tok), v = .int (x.fmod 18446744073709551616) q ∧ ns = news) := by
  k_extra "Z1"
  exact @kap_all S_c_wrap64 c_wrap64_k ⟨w, mean, mg, mb, dp, un, gd, outer, A₀, base, h₀, L, s, Q, E⟩ news x t u
def S_c_wrap32 (kx : Cx) : Prop := ∀ (news : Led) (x : Int) (t u : Tok), Bd kx 7 (Str.ofString "wrap") (scopeAt "wrap") 93 92 (bodyAt "wrap") (fun yq => [(Str.ofString "worth", (.int x t : Value)), (Str.ofString "size", (.int 32 u : Value))].reverse.lookup yq) (news) (fun v ns => ∃ (q : Tok), v = .int (x.fmod 4294967296) q ∧ ns = news)
noncomputable def kap_c_wrap32 : Cx := kapOf S_c_wrap32
theorem c_wrap32_k : S_c_wrap32 kap_c_wrap32 := by
  intro news x t u
  have e1 : (scopeAt "wrap") = (scopeAt "wrap") := rfl
  conv at e1 => rhs; whnf
  have e2 : (bodyAt "wrap") = (bodyAt "wrap") := rfl
  conv at e2 => rhs; whnf
  (try dsimp only at e1)
  (try dsimp only at e2)
  refine @bd_lit _ _ _ _ _ _ _ _ _ _ _ _ e1 e2 ?_
  clear e1 e2
  unfold Bd
  k_fill
  intro h tk HB HF HX HN HT hdp hun hE hret
  have HW : Wf kap_c_wrap32 7 := ⟨HB, HX, HT, hdp, hun⟩
  refine frLet HF ?_
  intro mk HF9
  clear HF
  refine ledLet (by with_reducible assumption) ?_
  intro nk HN9
  k_steps
  all_goals (refine' hret _ _ _ _ _ ⟨_, congrArg (Value.int · _) (mask32 x), rfl⟩ ?bas ?led
             case bas => k_asm
             case led => k_extra "Z3")
theorem c_wrap32 {w : World} {mean : ExcName → Option Value} {mg mb : Str → Option Value} {news : Led} {x : Int} {t u : Tok}  :
   Ct w mean mg mb 8 93 (news) True [.int x t, .int 32 u] (fun v ns => ∃ (q : Tok), v = .int (x.fmod 4294967296) q ∧ ns = news) := by
  k_extra "Z1"
  exact @kap_all S_c_wrap32 c_wrap32_k ⟨w, mean, mg, mb, dp, un, gd, outer, A₀, base, h₀, L, s, Q, E⟩ news x t u
def S_c_sgb64 (kx : Cx) : Prop := ∀ (news : Led) (x : Int) (t u : Tok) (h0 : 0 ≤ x) (h1 : x < 18446744073709551616), Bd kx 7 (Str.ofString "sign_bit") (scopeAt "sign_bit") 524 523 (bodyAt "sign_bit") (fun yq => [(Str.ofString "worth", (.int x t : Value)), (Str.ofString "size", (.int 64 u : Value))].reverse.lookup yq) (news) (fun v ns => v = .bool (decide (9223372036854775808 ≤ x)) ∧ ns = news)
noncomputable def kap_c_sgb64 : Cx := kapOf S_c_sgb64
theorem c_sgb64_k : S_c_sgb64 kap_c_sgb64 := by
  intro news x t u h0 h1
  have e1 : (scopeAt "sign_bit") = (scopeAt "sign_bit") := rfl
  conv at e1 => rhs; whnf
  have e2 : (bodyAt "sign_bit") = (bodyAt "sign_bit") := rfl
  conv at e2 => rhs; whnf
  (try dsimp only at e1)
  (try dsimp only at e2)
  refine @bd_lit _ _ _ _ _ _ _ _ _ _ _ _ e1 e2 ?_
  clear e1 e2
  unfold Bd
  k_fill
  intro h tk HB HF HX HN HT hdp hun hE hret
  have HW : Wf kap_c_sgb64 7 := ⟨HB, HX, HT, hdp, hun⟩
  refine frLet HF ?_
  intro mk HF9
  clear HF
  refine ledLet (by with_reducible assumption) ?_
  intro nk HN9
  k_steps
  all_goals (refine' hret _ _ _ _ _ ⟨congrArg Value.bool (sg64_eq h0 h1), rfl⟩ ?bas ?led
             case bas => k_asm
             case led => k_extra "Z3")
theorem c_sgb64 {w : World} {mean : ExcName → Option Value} {mg mb : Str → Option Value} {news : Led} {x : Int} {t u : Tok} (h0 : 0 ≤ x) (h1 : x < 18446744073709551616) :
   Ct w mean mg mb 8 524 (news) True [.int x t, .int 64 u] (fun v ns => v = .bool (decide (9223372036854775808 ≤ x)) ∧ ns = news) := by
  k_extra "Z1"
  exact @kap_all S_c_sgb64 c_sgb64_k ⟨w, mean, mg, mb, dp, un, gd, outer, A₀, base, h₀, L, s, Q, E⟩ news x t u h0 h1
def S_c_sgb32 (kx : Cx) : Prop := ∀ (news : Led) (x : Int) (t u : Tok) (h0 : 0 ≤ x) (h1 : x < 4294967296), Bd kx 7 (Str.ofString "sign_bit") (scopeAt "sign_bit") 524 523 (bodyAt "sign_bit") (fun yq => [(Str.ofString "worth", (.int x t : Value)), (Str.ofString "size", (.int 32 u : Value))].reverse.lookup yq) (news) (fun v ns => v = .bool (decide (2147483648 ≤ x)) ∧ ns = news)
noncomputable def kap_c_sgb32 : Cx := kapOf S_c_sgb32
theorem c_sgb32_k : S_c_sgb32 kap_c_sgb32 := by
  intro news x t u h0 h1
  have e1 : (scopeAt "sign_bit") = (scopeAt "sign_bit") := rfl
  conv at e1 => rhs; whnf
  have e2 : (bodyAt "sign_bit") = (bodyAt "sign_bit") := rfl
  conv at e2 => rhs; whnf
  (try dsimp only at e1)
  (try dsimp only at e2)
  refine @bd_lit _ _ _ _ _ _ _ _ _ _ _ _ e1 e2 ?_
  clear e1 e2
  unfold Bd
  k_fill
  intro h tk HB HF HX HN HT hdp hun hE hret
  have HW : Wf kap_c_sgb32 7 := ⟨HB, HX, HT, hdp, hun⟩
  refine frLet HF ?_
  intro mk HF9
  clear HF
  refine ledLet (by with_reducible assumption) ?_
  intro nk HN9
  k_steps
  all_goals (refine' hret _ _ _ _ _ ⟨congrArg Value.bool (sg32_eq h0 h1), rfl⟩ ?bas ?led
             case bas => k_asm
             case led => k_extra "Z3")
theorem c_sgb32 {w : World} {mean : ExcName → Option Value} {mg mb : Str → Option Value} {news : Led} {x : Int} {t u : Tok} (h0 : 0 ≤ x) (h1 : x < 4294967296) :
   Ct w mean mg mb 8 524 (news) True [.int x t, .int 32 u] (fun v ns => v = .bool (decide (2147483648 ≤ x)) ∧ ns = news) := by
  k_extra "Z1"
  exact @kap_all S_c_sgb32 c_sgb32_k ⟨w, mean, mg, mb, dp, un, gd, outer, A₀, base, h₀, L, s, Q, E⟩ news x t u h0 h1
theorem c_wrapS {w : World} {mean : ExcName → Option Value} {mg mb : Str → Option Value} {news : Led} {x sz : Int} {t u : Tok} (hz : sz = 64 ∨ sz = 32) :
   Ct w mean mg mb 8 93 (news) True [.int x t, .int sz u] (fun v ns => ∃ (q : Tok), v = .int (x.fmod (pw sz)) q ∧ ns = news) := by
  rcases hz with rfl | rfl
  · exact c_wrap64
  · exact c_wrap32
theorem c_wrapS_u {w : World} {mean : ExcName → Option Value} {mg mb : Str → Option Value} {news : Led} {x sz : Int} {t u : Tok} {dp8 un8 : Nat} {gd8 : Option (List Code)} {cn8 : Str} {cs8 : Scope} {a8 : Addr} {ccd8 : Value} {cl8 : List (Str × Addr)} {outer8 : List Env} {A8 : Around} {base8 h8 : Heap} {L8 : Addr} {m8 : Str → Option Value} {s8 : Shared} {Q8 E8 : Value → Shared → Prop}
   (zB : Below A8 base8 outer8 h8 := by k_asm) (zF : Fr h8 L8 s8.heap m8 := by k_asm) (zX : (hd.heap_39 w.params).In h8 := by k_asm) (zN : News h8 L8 s8.heap ((news)) := by k_asm) (zT : Top hd.view_39 loo mean mg mb h8 := by k_asm) (zk : cs8.kind = .function := by first | exact rfl | assumption) (hz : sz = 64 ∨ sz = 32) (zd : dp8 + 8 < recursionLimit := by ktr_room) (zu : un8 + 8 * 8 < cLine := by ktr_units)
   (kk9 : ∀ (q : Tok) (h' : Heap) (tk' : Nat), let n' : Led := (news); Fr h8 L8 h' m8 → News h8 L8 h' n' → Q8 (.int (x.fmod (pw sz)) q) { s8 with heap := h', toks := tk' }) :
   wpAny (model PySem.Challenge.rw_ok0177_01.row.prog w) (ktrTop dp8 un8 gd8 cn8 cs8 L8 a8 ccd8 cl8 outer8) (call (.ref 93) [.int x t, .int sz u]) Q8 E8 s8 := by
  refine ct_use (c_wrapS (hz := hz)) zB zF zX zN zT zk trivial zd zu ?_
  rintro v news' h' tk' ⟨q, rfl, rfl⟩ F N
  exact kk9 q _ _ F N
theorem c_wrapS_v (kx : Cx) (cn8 : Str) (cs8 : Scope) (a8 : Addr) (ccd8 : Value) (cl8 : List (Str × Addr)) (zk : cs8.kind = .function) {D8 : Nat} (zW : Wf kx D8) (zD : Nat.ble 8 D8 = true) {news : Led} {x sz : Int} {t u : Tok} {m8 : Str → Option Value} {h9 : Heap} {tk9 : Nat} {Q8 E8 : Value → Shared → Prop} (zF : Fr kx.h₀ kx.L h9 m8) (zN : News kx.h₀ kx.L h9 ((news))) (hz : sz = 64 ∨ sz = 32)
   (kk9 : ∀ (q : Tok) (h' : Heap) (tk' : Nat), let n' : Led := (news); Fr kx.h₀ kx.L h' m8 → News kx.h₀ kx.L h' n' → Q8 (.int (x.fmod (pw sz)) q) (kSt kx h' tk')) : wpAny (kMd kx) (kAr kx (envX cn8 cs8 kx.L a8 ccd8 cl8)) (call (.ref 93) [.int x t, .int sz u]) Q8 E8 (kSt kx h9 tk9) := by
  refine cv_use kx cn8 cs8 a8 ccd8 cl8 zk zW zD (c_wrapS (hz := hz)) zF zN ?_
  rintro v news' h' tk' ⟨q, rfl, rfl⟩ F N
  exact kk9 q _ _ F N
theorem c_sgbS {w : World} {mean : ExcName → Option Value} {mg mb : Str → Option Value} {news : Led} {x sz : Int} {t u : Tok} (hz : sz = 64 ∨ sz = 32) (h0 : 0 ≤ x) (h1 : x < pw sz) :
   Ct w mean mg mb 8 524 (news) True [.int x t, .int sz u] (fun v ns => v = .bool (sgB sz x) ∧ ns = news) := by
  rcases hz with rfl | rfl
  · exact c_sgb64 h0 h1
  · exact c_sgb32 h0 h1
theorem c_sgbS_v (kx : Cx) (cn8 : Str) (cs8 : Scope) (a8 : Addr) (ccd8 : Value) (cl8 : List (Str × Addr)) (zk : cs8.kind = .function) {D8 : Nat} (zW : Wf kx D8) (zD : Nat.ble 8 D8 = true) {news : Led} {x sz : Int} {t u : Tok} {m8 : Str → Option Value} {h9 : Heap} {tk9 : Nat} {Q8 E8 : Value → Shared → Prop} (zF : Fr kx.h₀ kx.L h9 m8) (zN : News kx.h₀ kx.L h9 ((news))) (hz : sz = 64 ∨ sz = 32) (h0 : 0 ≤ x) (h1 : x < pw sz)
   (kk9 : ∀ (h' : Heap) (tk' : Nat), let n' : Led := (news); Fr kx.h₀ kx.L h' m8 → News kx.h₀ kx.L h' n' → Q8 (.bool (sgB sz x)) (kSt kx h' tk')) : wpAny (kMd kx) (kAr kx (envX cn8 cs8 kx.L a8 ccd8 cl8)) (call (.ref 524) [.int x t, .int sz u]) Q8 E8 (kSt kx h9 tk9) := by
  refine cv_use kx cn8 cs8 a8 ccd8 cl8 zk zW zD (c_sgbS (u := u) (hz := hz) (h0 := h0) (h1 := h1)) zF zN ?_
  rintro v news' h' tk' ⟨rfl, rfl⟩ F N
  exact kk9 _ _ F N
end
section
set_option maxHeartbeats 1000000
example : True := by
  k_with ".call ref" => (k_here; (with_reducible show wpAny _ _ (call (Value.ref 93) [_, _]) _ _ _); k_dflt (refine c_wrapS_u (hz := by (first | assumption | omega)) (kk9 := ?_)); walk_at "After")
  k_with ".call ref" => (k_here; (with_reducible show wpAny _ _ (call (Value.ref 93) [_, _]) _ _ _); k_dflt (refine c_wrapS_v _ _ _ _ _ _ rfl (zW := by assumption) (zD := by exact rfl) (zF := by k_asm) (zN := by k_asm) (hz := by (first | assumption | omega)) (kk9 := ?_)); walk_at "After")
  k_with ".call ref" => (k_here; (with_reducible show wpAny _ _ (call (Value.ref 524) [_, _]) _ _ _); k_dflt (refine c_sgbS_v _ _ _ _ _ _ rfl (zW := by assumption) (zD := by exact rfl) (zF := by k_asm) (zN := by k_asm) (hz := by (first | assumption | omega)) (h0 := by (first | assumption | omega)) (h1 := by (first | assumption | omega)) (kk9 := ?_)); walk_at "After")
  trivial
theorem isFl_t {c z sg p q : Bool} {d : Obj} (h : p = true) (f : IsFl c z sg q d) : IsFl c z sg (p && q) d := by rw [h]; exact f
theorem isFl_f {c z sg p q : Bool} {d : Obj} (h : p = false) (f : IsFl c z sg p d) : IsFl c z sg (p && q) d := by
  have e : (p && q) = p := by rw [h]; rfl
  rw [e]; exact f
theorem allLt_mono {a b : Nat} (h : a ≤ b) : ∀ {l : Led}, AllLt a l → AllLt b l
  | [], _ => trivial
  | _ :: _, k => ⟨Nat.lt_of_lt_of_le k.1 h, allLt_mono h k.2⟩
inductive RT_c_dflags (news : Led) (a : Int) (b : Int) (sz : Int) (v : Value) (ns : Led) : Prop where
  | mk (fx fd : Nat) (d : Obj) (q9 : v = .ref fx ∧ ns = (fx, instObj 506 fd) :: (fd, d) :: news ∧ IsFl (decide (a < b)) ((a - b).fmod (pw sz) == 0) (sgB sz ((a - b).fmod (pw sz))) ((sgB sz a != sgB sz b) && (sgB sz ((a - b).fmod (pw sz)) != sgB sz a)) d ∧ AllLt fx news ∧ AllLt fd news ∧ fd ≠ fx) : RT_c_dflags news a b sz v ns
theorem c_dflags_i {news : Led} {a b sz : Int} {h₀ : Heap} {L : Addr} {m : Str → Option Value} {s : Shared} {Q : Value → Shared → Prop}
   (kk9 : ∀ v news' h' tk', (RT_c_dflags news a b sz) v news' → Fr h₀ L h' m → News h₀ L h' news' → Q v { s with heap := h', toks := tk' }) :
   ∀ (fx fd : Nat) (d : Obj) (h' : Heap) (tk' : Nat), (IsFl (decide (a < b)) ((a - b).fmod (pw sz) == 0) (sgB sz ((a - b).fmod (pw sz))) ((sgB sz a != sgB sz b) && (sgB sz ((a - b).fmod (pw sz)) != sgB sz a)) d) → (AllLt fx news) → (AllLt fd news) → (fd ≠ fx) → Fr h₀ L h' m → News h₀ L h' ((fx, instObj 506 fd) :: (fd, d) :: news) → Q (.ref fx) { s with heap := h', toks := tk' } := by
  intro fx fd d h' tk' f09 f19 f29 f39 F N
  exact kk9 _ _ _ _ ⟨fx, fd, d, rfl, rfl, f09, f19, f29, f39⟩ F N
def S_c_dflags (kx : Cx) : Prop := ∀ (news : Led) (a b sz : Int) (t u q : Tok) (hz : sz = 64 ∨ sz = 32) (ha0 : 0 ≤ a) (ha1 : a < pw sz) (hb0 : 0 ≤ b) (hb1 : b < pw sz), Bd kx 19 (Str.ofString "difference_flags") (scopeAt "difference_flags") 545 544 (bodyAt "difference_flags") (fun yq => [(Str.ofString "one", (.int a t : Value)), (Str.ofString "other", (.int b u : Value)), (Str.ofString "size", (.int sz q : Value))].reverse.lookup yq) (news) (RT_c_dflags news a b sz)
noncomputable def kap_c_dflags : Cx := kapOf S_c_dflags
theorem c_dflags_k : S_c_dflags kap_c_dflags := by
  intro news a b sz t u q hz ha0 ha1 hb0 hb1
  have e1 : (scopeAt "difference_flags") = (scopeAt "difference_flags") := rfl
  conv at e1 => rhs; whnf
  have e2 : (bodyAt "difference_flags") = (bodyAt "difference_flags") := rfl
  conv at e2 => rhs; whnf
  (try dsimp only at e1)
  (try dsimp only at e2)
  refine @bd_lit _ _ _ _ _ _ _ _ _ _ _ _ e1 e2 ?_
  clear e1 e2
  unfold Bd
  k_fill
  intro h tk HB HF HX HN HT hdp hun hE hret
  have HW : Wf kap_c_dflags 19 := ⟨HB, HX, HT, hdp, hun⟩
  replace hret := fun mq => c_dflags_i (hret mq)
  have hw0 := fmod_lo sz (a - b)
  have hw1 := fmod_hi sz (a - b)
  refine frLet HF ?_
  intro mk HF9
  clear HF
  refine ledLet (by with_reducible assumption) ?_
  intro nk HN9
  k_steps
  all_goals (refine' hret _ _ _ _ _ _ ?fl ?a1 ?a2 ?a3 ?bas ?led
             case led => k_extra "Z0"
             case bas => k_asm
             case fl => first | exact isFl_mk | exact isFl_t (by assumption) isFl_mk | exact isFl_f (by assumption) isFl_mk
             case a2 => (first | walk_at "AllLt" | (assumption))
             case a1 => (first | walk_at "AllLt" | (exact allLt_mono (Nat.le_of_lt (by assumption)) (by assumption)))
             case a3 => (first | omega | exact lt_led (by with_reducible assumption) (by k_mem) | exact lt_alt (by with_reducible assumption) (by k_mem) | walk_at "AllLt"))
theorem c_dflags {w : World} {mean : ExcName → Option Value} {mg mb : Str → Option Value} {news : Led} {a b sz : Int} {t u q : Tok} (hz : sz = 64 ∨ sz = 32) (ha0 : 0 ≤ a) (ha1 : a < pw sz) (hb0 : 0 ≤ b) (hb1 : b < pw sz) :
   Ct w mean mg mb 20 545 (news) True [.int a t, .int b u, .int sz q] (RT_c_dflags news a b sz) := by
  k_extra "Z1"
  exact @kap_all S_c_dflags c_dflags_k ⟨w, mean, mg, mb, dp, un, gd, outer, A₀, base, h₀, L, s, Q, E⟩ news a b sz t u q hz ha0 ha1 hb0 hb1
theorem c_dflags_v (kx : Cx) (cn8 : Str) (cs8 : Scope) (a8 : Addr) (ccd8 : Value) (cl8 : List (Str × Addr)) (zk : cs8.kind = .function) {D8 : Nat} (zW : Wf kx D8) (zD : Nat.ble 20 D8 = true) {news : Led} {a b sz : Int} {t u q : Tok} {m8 : Str → Option Value} {h9 : Heap} {tk9 : Nat} {Q8 E8 : Value → Shared → Prop} (zF : Fr kx.h₀ kx.L h9 m8) (zN : News kx.h₀ kx.L h9 ((news))) (hz : sz = 64 ∨ sz = 32) (ha0 : 0 ≤ a) (ha1 : a < pw sz) (hb0 : 0 ≤ b) (hb1 : b < pw sz)
   (kk9 : ∀ (fx fd : Nat) (d : Obj) (h' : Heap) (tk' : Nat), (IsFl (decide (a < b)) ((a - b).fmod (pw sz) == 0) (sgB sz ((a - b).fmod (pw sz))) ((sgB sz a != sgB sz b) && (sgB sz ((a - b).fmod (pw sz)) != sgB sz a)) d) → (AllLt fx news) → (AllLt fd news) → (fd ≠ fx) → let n' : Led := ((fx, instObj 506 fd) :: (fd, d) :: news); Fr kx.h₀ kx.L h' m8 → News kx.h₀ kx.L h' n' → Q8 (.ref fx) (kSt kx h' tk')) : wpAny (kMd kx) (kAr kx (envX cn8 cs8 kx.L a8 ccd8 cl8)) (call (.ref 545) [.int a t, .int b u, .int sz q]) Q8 E8 (kSt kx h9 tk9) := by
  refine cv_use kx cn8 cs8 a8 ccd8 cl8 zk zW zD (c_dflags (hz := hz) (ha0 := ha0) (ha1 := ha1) (hb0 := hb0) (hb1 := hb1)) zF zN ?_
  rintro v news' h' tk' ⟨fx, fd, d, rfl, rfl, f09, f19, f29, f39⟩ F N
  exact kk9 fx fd d _ _ f09 f19 f29 f39 F N
inductive RT_c_lflags (news : Led) (a : Int) (sz : Int) (v : Value) (ns : Led) : Prop where
  | mk (fx fd : Nat) (d : Obj) (q9 : v = .ref fx ∧ ns = (fx, instObj 506 fd) :: (fd, d) :: news ∧ IsFl false (a == 0) (sgB sz a) false d ∧ AllLt fx news ∧ AllLt fd news ∧ fd ≠ fx) : RT_c_lflags news a sz v ns
theorem c_lflags_i {news : Led} {a sz : Int} {h₀ : Heap} {L : Addr} {m : Str → Option Value} {s : Shared} {Q : Value → Shared → Prop}
   (kk9 : ∀ v news' h' tk', (RT_c_lflags news a sz) v news' → Fr h₀ L h' m → News h₀ L h' news' → Q v { s with heap := h', toks := tk' }) :
   ∀ (fx fd : Nat) (d : Obj) (h' : Heap) (tk' : Nat), (IsFl false (a == 0) (sgB sz a) false d) → (AllLt fx news) → (AllLt fd news) → (fd ≠ fx) → Fr h₀ L h' m → News h₀ L h' ((fx, instObj 506 fd) :: (fd, d) :: news) → Q (.ref fx) { s with heap := h', toks := tk' } := by
  intro fx fd d h' tk' f09 f19 f29 f39 F N
  exact kk9 _ _ _ _ ⟨fx, fd, d, rfl, rfl, f09, f19, f29, f39⟩ F N
def S_c_lflags (kx : Cx) : Prop := ∀ (news : Led) (a sz : Int) (t q : Tok) (hz : sz = 64 ∨ sz = 32) (ha0 : 0 ≤ a) (ha1 : a < pw sz), Bd kx 19 (Str.ofString "logic_flags") (scopeAt "logic_flags") 531 530 (bodyAt "logic_flags") (fun yq => [(Str.ofString "worth", (.int a t : Value)), (Str.ofString "size", (.int sz q : Value))].reverse.lookup yq) (news) (RT_c_lflags news a sz)
noncomputable def kap_c_lflags : Cx := kapOf S_c_lflags
theorem c_lflags_k : S_c_lflags kap_c_lflags := by
  intro news a sz t q hz ha0 ha1
  have e1 : (scopeAt "logic_flags") = (scopeAt "logic_flags") := rfl
  conv at e1 => rhs; whnf
  have e2 : (bodyAt "logic_flags") = (bodyAt "logic_flags") := rfl
  conv at e2 => rhs; whnf
  (try dsimp only at e1)
  (try dsimp only at e2)
  refine @bd_lit _ _ _ _ _ _ _ _ _ _ _ _ e1 e2 ?_
  clear e1 e2
  unfold Bd
  k_fill
  intro h tk HB HF HX HN HT hdp hun hE hret
  have HW : Wf kap_c_lflags 19 := ⟨HB, HX, HT, hdp, hun⟩
  replace hret := fun mq => c_lflags_i (hret mq)
  refine frLet HF ?_
  intro mk HF9
  clear HF
  refine ledLet (by with_reducible assumption) ?_
  intro nk HN9
  k_steps
  all_goals (refine' hret _ _ _ _ _ _ ?fl ?a1 ?a2 ?a3 ?bas ?led
             case led => k_extra "Z0"
             case bas => k_asm
             case fl => first | exact isFl_mk | exact isFl_t (by assumption) isFl_mk | exact isFl_f (by assumption) isFl_mk
             case a2 => (first | walk_at "AllLt" | (assumption))
             case a1 => (first | walk_at "AllLt" | (exact allLt_mono (Nat.le_of_lt (by assumption)) (by assumption)))
             case a3 => (first | omega | exact lt_led (by with_reducible assumption) (by k_mem) | exact lt_alt (by with_reducible assumption) (by k_mem) | walk_at "AllLt"))
theorem c_lflags {w : World} {mean : ExcName → Option Value} {mg mb : Str → Option Value} {news : Led} {a sz : Int} {t q : Tok} (hz : sz = 64 ∨ sz = 32) (ha0 : 0 ≤ a) (ha1 : a < pw sz) :
   Ct w mean mg mb 20 531 (news) True [.int a t, .int sz q] (RT_c_lflags news a sz) := by
  k_extra "Z1"
  exact @kap_all S_c_lflags c_lflags_k ⟨w, mean, mg, mb, dp, un, gd, outer, A₀, base, h₀, L, s, Q, E⟩ news a sz t q hz ha0 ha1
theorem c_lflags_v (kx : Cx) (cn8 : Str) (cs8 : Scope) (a8 : Addr) (ccd8 : Value) (cl8 : List (Str × Addr)) (zk : cs8.kind = .function) {D8 : Nat} (zW : Wf kx D8) (zD : Nat.ble 20 D8 = true) {news : Led} {a sz : Int} {t q : Tok} {m8 : Str → Option Value} {h9 : Heap} {tk9 : Nat} {Q8 E8 : Value → Shared → Prop} (zF : Fr kx.h₀ kx.L h9 m8) (zN : News kx.h₀ kx.L h9 ((news))) (hz : sz = 64 ∨ sz = 32) (ha0 : 0 ≤ a) (ha1 : a < pw sz)
   (kk9 : ∀ (fx fd : Nat) (d : Obj) (h' : Heap) (tk' : Nat), (IsFl false (a == 0) (sgB sz a) false d) → (AllLt fx news) → (AllLt fd news) → (fd ≠ fx) → let n' : Led := ((fx, instObj 506 fd) :: (fd, d) :: news); Fr kx.h₀ kx.L h' m8 → News kx.h₀ kx.L h' n' → Q8 (.ref fx) (kSt kx h' tk')) : wpAny (kMd kx) (kAr kx (envX cn8 cs8 kx.L a8 ccd8 cl8)) (call (.ref 531) [.int a t, .int sz q]) Q8 E8 (kSt kx h9 tk9) := by
  refine cv_use kx cn8 cs8 a8 ccd8 cl8 zk zW zD (c_lflags (hz := hz) (ha0 := ha0) (ha1 := ha1)) zF zN ?_
  rintro v news' h' tk' ⟨fx, fd, d, rfl, rfl, f09, f19, f29, f39⟩ F N
  exact kk9 fx fd d _ _ f09 f19 f29 f39 F N
end
section
set_option maxHeartbeats 1000000
inductive IsMach (rl mk rg fl pl : Nat) (pc od st : Int) (ov : Bool) (d : Obj) : Prop where
  | mk (h1 h2 h3 h4 h5 h6 h7 h8 h9 : Int) (t1 t2 t3 t4 t5 t6 t7 t8 t9 u6 u7 u8 : Tok) (q9 : d = dictOf [⟨h1, .str (Str.ofString "rows") t1, .ref rl⟩, ⟨h2, .str (Str.ofString "marks") t2, .ref mk⟩, ⟨h3, .str (Str.ofString "regs") t3, .ref rg⟩, ⟨h4, .str (Str.ofString "flags") t4, .ref fl⟩, ⟨h5, .str (Str.ofString "pile") t5, .ref pl⟩, ⟨h6, .str (Str.ofString "at") t6, .int pc u6⟩, ⟨h7, .str (Str.ofString "order") t7, .int od u7⟩, ⟨h8, .str (Str.ofString "steps") t8, .int st u8⟩, ⟨h9, .str (Str.ofString "is_over") t9, .bool ov⟩] 9) : IsMach rl mk rg fl pl pc od st ov d
theorem isMach_mk {rl mk rg fl pl : Nat} {pc od st : Int} {ov : Bool} {h1 h2 h3 h4 h5 h6 h7 h8 h9 : Int} {t1 t2 t3 t4 t5 t6 t7 t8 t9 u6 u7 u8 : Tok} : IsMach rl mk rg fl pl pc od st ov (dictOf [⟨h1, .str (Str.ofString "rows") t1, .ref rl⟩, ⟨h2, .str (Str.ofString "marks") t2, .ref mk⟩, ⟨h3, .str (Str.ofString "regs") t3, .ref rg⟩, ⟨h4, .str (Str.ofString "flags") t4, .ref fl⟩, ⟨h5, .str (Str.ofString "pile") t5, .ref pl⟩, ⟨h6, .str (Str.ofString "at") t6, .int pc u6⟩, ⟨h7, .str (Str.ofString "order") t7, .int od u7⟩, ⟨h8, .str (Str.ofString "steps") t8, .int st u8⟩, ⟨h9, .str (Str.ofString "is_over") t9, .bool ov⟩] 9) := ⟨_, _, _, _, _, _, _, _, _, _, _, _, _, _, _, _, _, _, _, _, _, rfl⟩
section
variable {prog : Program} {w : World} {A : Around} {E : Value → Shared → Prop} {s : Shared} {h₀ : Heap} {L : Addr} {m : Str → Option Value} {news : Led}
theorem ints_getD : ∀ {vs : List Value} {xs : List Int} (_ : IntsAre vs xs) (i : Nat), i < xs.length → ∃ t, vs[i]? = some (.int (xs.getD i 0) t)
  | _, _, .nil, i, h => absurd h (Nat.not_lt_zero _)
  | _, _, .cons _ t _, 0, _ => ⟨t, rfl⟩
  | _, _, .cons _ _ r, i + 1, h => ints_getD r i (Nat.lt_of_succ_lt_succ h)
theorem item_intsG {value slice : PySem.Expr} {l n : Nat} {vs : List Value} {xs : List Int} {k : Int} {u : Tok} {Q : Value → Shared → Prop} (N : News h₀ L s.heap news) (hm : (l, listOf vs.toArray n) ∈ news) (hI : IntsAre vs xs)
    (h0 : 0 ≤ k) (hk : k < xs.length) (hsz : xs.length ≤ 100) (h : ∀ t, Q (.int (xs.getD k.toNat 0) t) s)
    (hs : subscripted slice false (.ref l) (.int k u) = operate [.ref l, .int k u] (getItem (.ref l) (.int k u))) :
    wpAny (model prog w) A (subscriptTail value slice (.ref l) (.int k u)) Q E s := by
  have hl := News.isList N hm
  obtain ⟨t, h1⟩ := ints_getD hI k.toNat (by omega)
  exact tail_any hl.typeIs slot_list_getitem.lookup (wpAny_getItem_list hl h0 (by omega) (by simpa using h1) (h t)) hs
end
theorem band_lo {a b : Int} (ha : 0 ≤ a) (hb : 0 ≤ b) : 0 ≤ Builtin.bitAnd a b := by rw [bitAnd_pp ha hb]; exact Int.natCast_nonneg _
theorem band_hi {a b c : Int} (ha : 0 ≤ a) (hb : 0 ≤ b) (hc : b < c) : Builtin.bitAnd a b < c := by
  rw [bitAnd_pp ha hb]
  have := @Nat.and_le_right a.toNat b.toNat
  omega
example : True := by
  k_with ".subscriptTail Attribute Name" => ((fail_if_success k_extra "off E3"); (k_here; (with_reducible show wpAny _ _ (subscriptTail _ _ (Value.ref _) (Value.int _ _)) _ _ _); k_dflt (refine' item_intsG ?NDc ?hmDc ?hIDc ?h0Dc ?hkDc ?hszDc (fun _ => ?_) ?hsDc; (case NDc => k_asm); (case hIDc => assumption); (case hmDc => (repeat (first | exact List.Mem.head _ | assumption | refine List.Mem.tail _ ?_))); (case h0Dc => first | assumption | omega); (case hkDc => first | assumption | omega); (case hszDc => omega); (case hsDc => with_unfolding_all rfl))))
  trivial
def S_c_take (kx : Cx) : Prop := ∀ (news : Led) (mx md rl mk rg fl pl rn : Nat) (pc od st : Int) (ov : Bool) (d : Obj) (vs : List Value) (xs : List Int) (k sz : Int) (t u : Tok) (hm1 : (mx, instObj 718 md) ∈ news) (hm2 : (md, d) ∈ news) (hM : IsMach rl mk rg fl pl pc od st ov d) (hm3 : (rg, listOf vs.toArray rn) ∈ news) (hI : IntsAre vs xs) (hlen : xs.length = 16) (hk0 : 0 ≤ k) (hk1 : k < 16) (hz : sz = 64 ∨ sz = 32), Bd kx 13 (Str.ofString "PlainRows.take") (methScope "PlainRows" "take") 631 630 (methBody "PlainRows" "take") (fun yq => [(Str.ofString "self", (.ref mx : Value)), (Str.ofString "number", (.int k t : Value)), (Str.ofString "size", (.int sz u : Value))].reverse.lookup yq) (news) (fun v ns => ∃ (q : Tok), v = .int ((xs.getD k.toNat 0).fmod (pw sz)) q ∧ ns = news)
noncomputable def kap_c_take : Cx := kapOf S_c_take
theorem c_take_k : S_c_take kap_c_take := by
  intro news mx md rl mk rg fl pl rn pc od st ov d vs xs k sz t u hm1 hm2 hM hm3 hI hlen hk0 hk1 hz
  have e1 : (methScope "PlainRows" "take") = (methScope "PlainRows" "take") := rfl
  conv at e1 => rhs; whnf
  have e2 : (methBody "PlainRows" "take") = (methBody "PlainRows" "take") := rfl
  conv at e2 => rhs; whnf
  (try dsimp only at e1)
  (try dsimp only at e2)
  refine @bd_lit _ _ _ _ _ _ _ _ _ _ _ _ e1 e2 ?_
  clear e1 e2
  unfold Bd
  k_fill
  intro h tk HB HF HX HN HT hdp hun hE hret
  have HW : Wf kap_c_take 13 := ⟨HB, HX, HT, hdp, hun⟩
  obtain ⟨h1, h2, h3, h4, h5, h6, h7, h8, h9, t1, t2, t3, t4, t5, t6, t7, t8, t9, u6, u7, u8, rfl⟩ := hM
  have HN1 := news_add hm1 (news_add hm2 (news_add hm3 HN HN) HN) HN
  clear HN
  refine frLet HF ?_
  intro mk HF9
  clear HF
  refine ledLet (by with_reducible assumption) ?_
  intro nk HN9
  k_steps
  all_goals (refine' hret _ _ _ _ _ ⟨_, rfl, rfl⟩ ?bas ?led
             case bas => k_asm
             case led => k_extra "Z3")
theorem c_take {w : World} {mean : ExcName → Option Value} {mg mb : Str → Option Value} {news : Led} {mx md rl mk rg fl pl rn : Nat} {pc od st : Int} {ov : Bool} {d : Obj} {vs : List Value} {xs : List Int} {k sz : Int} {t u : Tok} (hm1 : (mx, instObj 718 md) ∈ news) (hm2 : (md, d) ∈ news) (hM : IsMach rl mk rg fl pl pc od st ov d) (hm3 : (rg, listOf vs.toArray rn) ∈ news) (hI : IntsAre vs xs) (hlen : xs.length = 16) (hk0 : 0 ≤ k) (hk1 : k < 16) (hz : sz = 64 ∨ sz = 32) :
   Ct w mean mg mb 14 631 (news) True [.ref mx, .int k t, .int sz u] (fun v ns => ∃ (q : Tok), v = .int ((xs.getD k.toNat 0).fmod (pw sz)) q ∧ ns = news) := by
  k_extra "Z1"
  exact @kap_all S_c_take c_take_k ⟨w, mean, mg, mb, dp, un, gd, outer, A₀, base, h₀, L, s, Q, E⟩ news mx md rl mk rg fl pl rn pc od st ov d vs xs k sz t u hm1 hm2 hM hm3 hI hlen hk0 hk1 hz
theorem c_take_v (kx : Cx) (cn8 : Str) (cs8 : Scope) (a8 : Addr) (ccd8 : Value) (cl8 : List (Str × Addr)) (zk : cs8.kind = .function) {D8 : Nat} (zW : Wf kx D8) (zD : Nat.ble 14 D8 = true) {news : Led} {mx md rl mk rg fl pl rn : Nat} {pc od st : Int} {ov : Bool} {d : Obj} {vs : List Value} {xs : List Int} {k sz : Int} {t u : Tok} {m8 : Str → Option Value} {h9 : Heap} {tk9 : Nat} {Q8 E8 : Value → Shared → Prop} (zF : Fr kx.h₀ kx.L h9 m8) (zN : News kx.h₀ kx.L h9 ((news))) (hm1 : (mx, instObj 718 md) ∈ news) (hm2 : (md, d) ∈ news) (hM : IsMach rl mk rg fl pl pc od st ov d) (hm3 : (rg, listOf vs.toArray rn) ∈ news) (hI : IntsAre vs xs) (hlen : xs.length = 16) (hk0 : 0 ≤ k) (hk1 : k < 16) (hz : sz = 64 ∨ sz = 32)
   (kk9 : ∀ (q : Tok) (h' : Heap) (tk' : Nat), let n' : Led := (news); Fr kx.h₀ kx.L h' m8 → News kx.h₀ kx.L h' n' → Q8 (.int ((xs.getD k.toNat 0).fmod (pw sz)) q) (kSt kx h' tk')) : wpAny (kMd kx) (kAr kx (envX cn8 cs8 kx.L a8 ccd8 cl8)) (call (.ref 631) [.ref mx, .int k t, .int sz u]) Q8 E8 (kSt kx h9 tk9) := by
  refine cv_use kx cn8 cs8 a8 ccd8 cl8 zk zW zD (c_take (hm1 := hm1) (hm2 := hm2) (hM := hM) (hm3 := hm3) (hI := hI) (hlen := hlen) (hk0 := hk0) (hk1 := hk1) (hz := hz)) zF zN ?_
  rintro v news' h' tk' ⟨q, rfl, rfl⟩ F N
  exact kk9 q _ _ F N
example : True := by
  k_with "off E3" => skip
  trivial
end
section
set_option maxHeartbeats 1000000
example : True := by
  k_with ".subscriptTail Attribute Name" => ((fail_if_success k_extra "off E4S"); (k_here; (with_reducible show wpAny _ _ (subscriptTail _ _ (Value.ref _) (Value.int _ _)) _ _ _); k_dflt (refine' item_intsG ?NDd ?hmDd ?hIDd ?h0Dd ?hkDd ?hszDd (fun _ => ?_) ?hsDd; (case NDd => k_asm); (case hIDd => assumption); (case hmDd => (repeat (first | exact List.Mem.head _ | assumption | refine List.Mem.tail _ ?_))); (case h0Dd => first | assumption | omega); (case hkDd => first | assumption | omega); (case hszDd => omega); (case hsDd => with_unfolding_all rfl))))
  k_with ".call ref" => (k_here; (with_reducible show wpAny _ _ (call (Value.ref 631) [_, _, _]) _ _ _); k_dflt (refine c_take_v _ _ _ _ _ _ rfl (zW := by assumption) (zD := by exact rfl) (zF := by k_asm) (zN := by k_asm) (hm1 := by walk_at "Mem") (hm2 := by walk_at "Mem") (hM := by (first | assumption | exact isMach_mk)) (hm3 := by walk_at "Mem") (hI := by assumption) (hlen := by assumption) (hk0 := by (first | assumption | omega)) (hk1 := by (first | assumption | omega)) (hz := by (first | assumption | omega)) (kk9 := ?_)); walk_at "After")
  k_with ".call ref" => (k_here; (with_reducible show wpAny _ _ (call (Value.ref 545) [_, _, _]) _ _ _); k_dflt (refine c_dflags_v _ _ _ _ _ _ rfl (zW := by assumption) (zD := by exact rfl) (zF := by k_asm) (zN := by k_asm) (hz := by (first | assumption | omega)) (ha0 := by (first | assumption | omega)) (ha1 := by (first | assumption | omega)) (hb0 := by (first | assumption | omega)) (hb1 := by (first | assumption | omega)) (kk9 := ?_)); (intro x09Z x19Z x29Z h9Z tk9Z hf09Z hf19Z hf29Z hf39Z nkZ F9Z N9Z; (try simp only [AllLt, and_true] at hf19Z); (repeat (have h9Z := And.left hf19Z; replace hf19Z := And.right hf19Z));(try simp only [AllLt, and_true] at hf29Z); (repeat (have h9Z := And.left hf29Z; replace hf29Z := And.right hf29Z)); (try dsimp only); (try k_fold)))
  k_with ".call ref" => (k_here; (with_reducible show wpAny _ _ (call (Value.ref 531) [_, _]) _ _ _); k_dflt (refine c_lflags_v _ _ _ _ _ _ rfl (zW := by assumption) (zD := by exact rfl) (zF := by k_asm) (zN := by k_asm) (hz := by (first | assumption | omega)) (ha0 := by (first | assumption | omega)) (ha1 := by (first | assumption | omega)) (kk9 := ?_)); (intro x09Z x19Z x29Z h9Z tk9Z hf09Z hf19Z hf29Z hf39Z nkZ F9Z N9Z; (try simp only [AllLt, and_true] at hf19Z); (repeat (have h9Z := And.left hf19Z; replace hf19Z := And.right hf19Z));(try simp only [AllLt, and_true] at hf29Z); (repeat (have h9Z := And.left hf29Z; replace hf29Z := And.right hf29Z)); (try dsimp only); (try k_fold)))
  trivial
inductive RT_sides (news : Led) (cf zf sf vf : Bool) (v : Value) (ns : Led) : Prop where
  | mk (D fx fd : Nat) (df : Obj) (q9 : v = .ref D ∧ ns = (D, tupO #[.none, .ref fx]) :: (fx, instObj 506 fd) :: (fd, df) :: news ∧ IsFl cf zf sf vf df ∧ AllLt fx news ∧ AllLt fd news ∧ fd ≠ fx ∧ AllLt D ((fx, instObj 506 fd) :: (fd, df) :: news)) : RT_sides news cf zf sf vf v ns
theorem c_sides_i {news : Led} {cf zf sf vf : Bool} {h₀ : Heap} {L : Addr} {m : Str → Option Value} {s : Shared} {Q : Value → Shared → Prop}
   (kk9 : ∀ v news' h' tk', (RT_sides news cf zf sf vf) v news' → Fr h₀ L h' m → News h₀ L h' news' → Q v { s with heap := h', toks := tk' }) :
   ∀ (D fx fd : Nat) (df : Obj) (h' : Heap) (tk' : Nat), (IsFl cf zf sf vf df) → (AllLt fx news) → (AllLt fd news) → (fd ≠ fx) → (AllLt D ((fx, instObj 506 fd) :: (fd, df) :: news)) → Fr h₀ L h' m → News h₀ L h' ((D, tupO #[.none, .ref fx]) :: (fx, instObj 506 fd) :: (fd, df) :: news) → Q (.ref D) { s with heap := h', toks := tk' } := by
  intro D fx fd df h' tk' f09 f19 f29 f39 f49 F N
  exact kk9 _ _ _ _ ⟨D, fx, fd, df, rfl, rfl, f09, f19, f29, f39, f49⟩ F N
def Sides (w : World) (mean : ExcName → Option Value) (mg mb : Str → Option Value) (pl : Str) (a b sz : Int) (cf zf sf vf : Bool) : Prop :=
  ∀ (news : Led) (t ta tb ts : Tok), Ct w mean mg mb 30 573 news True [.str pl t, .int a ta, .int b tb, .int sz ts] (RT_sides news cf zf sf vf)
def S_c_sidesC (kx : Cx) : Prop := ∀ (news : Led) (a b sz : Int) (t ta tb ts : Tok) (hz : sz = 64 ∨ sz = 32) (ha0 : 0 ≤ a) (ha1 : a < pw sz) (hb0 : 0 ≤ b) (hb1 : b < pw sz), Bd kx 29 (Str.ofString "two_sides") (scopeAt "two_sides") 573 572 (bodyAt "two_sides") (fun yq => [(Str.ofString "name", (.str (Str.ofString "cmp") t : Value)), (Str.ofString "one", (.int a ta : Value)), (Str.ofString "other", (.int b tb : Value)), (Str.ofString "size", (.int sz ts : Value))].reverse.lookup yq) (news) (RT_sides news (decide (a < b)) ((a - b).fmod (pw sz) == 0) (sgB sz ((a - b).fmod (pw sz))) ((sgB sz a != sgB sz b) && (sgB sz ((a - b).fmod (pw sz)) != sgB sz a)))
noncomputable def kap_c_sidesC : Cx := kapOf S_c_sidesC
set_option maxHeartbeats 4000000 in
theorem c_sidesC_k : S_c_sidesC kap_c_sidesC := by
  intro news a b sz t ta tb ts hz ha0 ha1 hb0 hb1
  have e1 : (scopeAt "two_sides") = (scopeAt "two_sides") := rfl
  conv at e1 => rhs; whnf
  have e2 : (bodyAt "two_sides") = (bodyAt "two_sides") := rfl
  conv at e2 => rhs; whnf
  (try dsimp only at e1)
  (try dsimp only at e2)
  refine @bd_lit _ _ _ _ _ _ _ _ _ _ _ _ e1 e2 ?_
  clear e1 e2
  unfold Bd
  k_fill
  intro h tk HB HF HX HN HT hdp hun hE hret
  have HW : Wf kap_c_sidesC 29 := ⟨HB, HX, HT, hdp, hun⟩
  replace hret := fun mq => c_sides_i (hret mq)
  refine frLet HF ?_
  intro mk HF9
  clear HF
  refine ledLet (by with_reducible assumption) ?_
  intro nk HN9
  k_steps
  all_goals (refine' hret _ _ _ _ _ _ _ ?fl ?a1 ?a2 ?a3 ?a4 ?bas ?led
             case bas => k_asm
             case fl => assumption
             case led => (first | k_asm | exact cb_drop (by k_asm) (fun q hq => by first | (exact hq) | walk_at "Mem"))
             case a1 => k_extra "Z5"
             case a2 => k_extra "Z5"
             case a3 => (first | assumption | omega)
             case a4 => (first | assumption | walk_at "AllLt" | exact allLt_of (by assumption)))
theorem c_sidesC {w : World} {mean : ExcName → Option Value} {mg mb : Str → Option Value} {news : Led} {a b sz : Int} {t ta tb ts : Tok} (hz : sz = 64 ∨ sz = 32) (ha0 : 0 ≤ a) (ha1 : a < pw sz) (hb0 : 0 ≤ b) (hb1 : b < pw sz) :
   Ct w mean mg mb 30 573 (news) True [.str (Str.ofString "cmp") t, .int a ta, .int b tb, .int sz ts] (RT_sides news (decide (a < b)) ((a - b).fmod (pw sz) == 0) (sgB sz ((a - b).fmod (pw sz))) ((sgB sz a != sgB sz b) && (sgB sz ((a - b).fmod (pw sz)) != sgB sz a))) := by
  k_extra "Z1"
  exact @kap_all S_c_sidesC c_sidesC_k ⟨w, mean, mg, mb, dp, un, gd, outer, A₀, base, h₀, L, s, Q, E⟩ news a b sz t ta tb ts hz ha0 ha1 hb0 hb1
def S_c_sidesT (kx : Cx) : Prop := ∀ (news : Led) (a b sz : Int) (t ta tb ts : Tok) (hz : sz = 64 ∨ sz = 32) (ha0 : 0 ≤ a) (ha1 : a < pw sz) (hb0 : 0 ≤ b) (hb1 : b < pw sz), Bd kx 29 (Str.ofString "two_sides") (scopeAt "two_sides") 573 572 (bodyAt "two_sides") (fun yq => [(Str.ofString "name", (.str (Str.ofString "test") t : Value)), (Str.ofString "one", (.int a ta : Value)), (Str.ofString "other", (.int b tb : Value)), (Str.ofString "size", (.int sz ts : Value))].reverse.lookup yq) (news) (RT_sides news false (Builtin.bitAnd a b == 0) (sgB sz (Builtin.bitAnd a b)) false)
noncomputable def kap_c_sidesT : Cx := kapOf S_c_sidesT
set_option maxHeartbeats 4000000 in
theorem c_sidesT_k : S_c_sidesT kap_c_sidesT := by
  intro news a b sz t ta tb ts hz ha0 ha1 hb0 hb1
  have e1 : (scopeAt "two_sides") = (scopeAt "two_sides") := rfl
  conv at e1 => rhs; whnf
  have e2 : (bodyAt "two_sides") = (bodyAt "two_sides") := rfl
  conv at e2 => rhs; whnf
  (try dsimp only at e1)
  (try dsimp only at e2)
  refine @bd_lit _ _ _ _ _ _ _ _ _ _ _ _ e1 e2 ?_
  clear e1 e2
  unfold Bd
  k_fill
  intro h tk HB HF HX HN HT hdp hun hE hret
  have HW : Wf kap_c_sidesT 29 := ⟨HB, HX, HT, hdp, hun⟩
  replace hret := fun mq => c_sides_i (hret mq)
  have r6 := band_lo ha0 hb0
  have r7 := band_hi ha0 hb0 hb1
  refine frLet HF ?_
  intro mk HF9
  clear HF
  refine ledLet (by with_reducible assumption) ?_
  intro nk HN9
  k_steps
  all_goals (refine' hret _ _ _ _ _ _ _ ?fl ?a1 ?a2 ?a3 ?a4 ?bas ?led
             case bas => k_asm
             case fl => assumption
             case led => (first | k_asm | exact cb_drop (by k_asm) (fun q hq => by first | (exact hq) | walk_at "Mem"))
             case a1 => k_extra "Z5"
             case a2 => k_extra "Z5"
             case a3 => (first | assumption | omega)
             case a4 => (first | assumption | walk_at "AllLt" | exact allLt_of (by assumption)))
theorem c_sidesT {w : World} {mean : ExcName → Option Value} {mg mb : Str → Option Value} {news : Led} {a b sz : Int} {t ta tb ts : Tok} (hz : sz = 64 ∨ sz = 32) (ha0 : 0 ≤ a) (ha1 : a < pw sz) (hb0 : 0 ≤ b) (hb1 : b < pw sz) :
   Ct w mean mg mb 30 573 (news) True [.str (Str.ofString "test") t, .int a ta, .int b tb, .int sz ts] (RT_sides news false (Builtin.bitAnd a b == 0) (sgB sz (Builtin.bitAnd a b)) false) := by
  k_extra "Z1"
  exact @kap_all S_c_sidesT c_sidesT_k ⟨w, mean, mg, mb, dp, un, gd, outer, A₀, base, h₀, L, s, Q, E⟩ news a b sz t ta tb ts hz ha0 ha1 hb0 hb1
example : True := by
  k_with "off E4S" => skip
  trivial
end
section
set_option maxHeartbeats 1000000
example : True := by
  k_with ".subscriptTail Attribute Name" => ((fail_if_success k_extra "off E4G"); (k_here; (with_reducible show wpAny _ _ (subscriptTail _ _ (Value.ref _) (Value.int _ _)) _ _ _); k_dflt (refine' item_intsG ?NDh ?hmDh ?hIDh ?h0Dh ?hkDh ?hszDh (fun _ => ?_) ?hsDh; (case NDh => k_asm); (case hIDh => assumption); (case hmDh => (repeat (first | exact List.Mem.head _ | assumption | refine List.Mem.tail _ ?_))); (case h0Dh => first | assumption | omega); (case hkDh => first | assumption | omega); (case hszDh => omega); (case hsDh => with_unfolding_all rfl))))
  trivial
theorem sides_use (x : Cx) (cn : Str) (cs : Scope) (a9 : Addr) (ccd : Value) (cl : List (Str × Addr)) (hk : cs.kind = .function) {D8 : Nat} (W : Wf x D8) (hD : Nat.ble 30 D8 = true) {pn : Str} {a b sz : Int} {cf zf sf vf : Bool} {t ta tb ts : Tok} {nk : Led} {m : Str → Option Value} {tk : Nat} {h : Heap} {Q E : Value → Shared → Prop}
    (C : Sides x.w x.mean x.mg x.mb pn a b sz cf zf sf vf) (F : Fr x.h₀ x.L h m) (N : News x.h₀ x.L h nk) (k : ∀ (D fx fd : Nat) (df : Obj) (h' : Heap) (tk' : Nat), IsFl cf zf sf vf df → AllLt fx nk → AllLt fd nk → fd ≠ fx → AllLt D ((fx, instObj 506 fd) :: (fd, df) :: nk) → Fr x.h₀ x.L h' m → let n' : Led := (D, tupO #[.none, .ref fx]) :: (fx, instObj 506 fd) :: (fd, df) :: nk; News x.h₀ x.L h' n' → Q (.ref D) (kSt x h' tk')) :
    wpAny (kMd x) (kAr x (envX cn cs x.L a9 ccd cl)) (call (.ref 573) [.str pn t, .int a ta, .int b tb, .int sz ts]) Q E (kSt x h tk) := cv_use x cn cs a9 ccd cl hk W hD (C nk t ta tb ts) F N (fun v nw' h' tk' r F' N' => by obtain ⟨D, fx, fd, df, rfl, rfl, q1, q2, q3, q4, q5⟩ := r; exact k D fx fd df h' tk' q1 q2 q3 q4 q5 F' N')
example : True := by
  k_with ".call ref" => (k_here; (with_reducible show wpAny _ _ (call (Value.ref 573) _) _ _ _); k_dflt (refine' sides_use _ _ _ _ _ _ ?kkDi ?WDi ?hDDi ?CDi ?FDi ?NDi ?_; (case CDi => assumption); (case kkDi => exact rfl); (case WDi => assumption); (case hDDi => exact rfl); (case FDi => k_asm); (case NDi => k_asm)); (intro D9Z x9Z f9Z o9Z h9Z tk9Z hf09Z hf19Z hf29Z hf39Z hf49Z F9Z nkZ N9Z; (try simp only [AllLt, and_true] at hf19Z); (repeat (have h9Z := And.left hf19Z; replace hf19Z := And.right hf19Z)); (try simp only [AllLt, and_true] at hf29Z); (repeat (have h9Z := And.left hf29Z; replace hf29Z := And.right hf29Z)); (try dsimp only); (try k_fold)))
  trivial
theorem c_two_i {mx md rl mk rg pl : Nat} {pc od st : Int} {ov : Bool} {d : Obj} {rest : Led} {cf zf sf vf : Bool} {h₀ : Heap} {L : Addr} {m : Str → Option Value} {s : Shared} {Q : Value → Shared → Prop}
   (kk9 : ∀ v news' h' tk', (fun (v : Value) (ns : Led) => ∃ (fx fd : Nat) (d' df : Obj), v = .bool true ∧ ns = (mx, instObj 718 md) :: (md, d') :: (fx, instObj 506 fd) :: (fd, df) :: rest ∧ IsMach rl mk rg fx pl pc od st ov d' ∧ IsFl cf zf sf vf df ∧ AllLt fx ((mx, instObj 718 md) :: (md, d) :: rest) ∧ AllLt fd ((mx, instObj 718 md) :: (md, d) :: rest) ∧ fd ≠ fx) v news' → Fr h₀ L h' m → News h₀ L h' news' → Q v { s with heap := h', toks := tk' }) :
   ∀ (fx fd : Nat) (d' df : Obj) (h' : Heap) (tk' : Nat), (IsMach rl mk rg fx pl pc od st ov d') → (IsFl cf zf sf vf df) → (AllLt fx ((mx, instObj 718 md) :: (md, d) :: rest)) → (AllLt fd ((mx, instObj 718 md) :: (md, d) :: rest)) → (fd ≠ fx) → Fr h₀ L h' m → News h₀ L h' ((mx, instObj 718 md) :: (md, d') :: (fx, instObj 506 fd) :: (fd, df) :: rest) → Q (.bool true) { s with heap := h', toks := tk' } := by
  intro fx fd d' df h' tk' f09 f19 f29 f39 f49 F N
  exact kk9 _ _ _ _ ⟨fx, fd, d', df, rfl, rfl, f09, f19, f29, f39, f49⟩ F N
def S_c_twoR (kx : Cx) : Prop := ∀ (mx md rl mk rg fl pl rn : Nat) (pc od st : Int) (ov : Bool) (d : Obj) (rest : Led) (vs : List Value) (xs : List Int) (pt : Nat) (g k sz : Int) (a1 a2 a3 tn : Tok) (nm : Str) (cf zf sf vf : Bool) (hM : IsMach rl mk rg fl pl pc od st ov d) (hm3 : (rg, listOf vs.toArray rn) ∈ rest) (hpt : (pt, tupO #[.int sz a1, .int g a2, .int k a3]) ∈ rest) (hI : IntsAre vs xs) (hlen : xs.length = 16) (hg0 : 0 ≤ g) (hg1 : g < 16) (hz : sz = 64 ∨ sz = 32) (ha : md ≠ mx) (hap : ∀ q ∈ rest, q.1 ≠ md) (hk0 : 0 ≤ k) (hk1 : k < 16) (hnl : nm.length ≤ 16) (hS : (Txt.slice nm (some (-4)) none == Str.ofString "_imm") = false) (hA : ([Str.ofString "add", Str.ofString "sub", Str.ofString "and", Str.ofString "or", Str.ofString "xor", Str.ofString "cmp", Str.ofString "test"].any fun x => x == nm) = true) (hnn : (nm != nm) = false) (hC : Sides kx.w kx.mean kx.mg kx.mb nm ((xs.getD g.toNat 0).fmod (pw sz)) ((xs.getD k.toNat 0).fmod (pw sz)) sz cf zf sf vf), Bd kx 39 (Str.ofString "PlainRows.two_sided_row") (methScope "PlainRows" "two_sided_row") 659 658 (methBody "PlainRows" "two_sided_row") (fun yq => [(Str.ofString "self", (.ref mx : Value)), (Str.ofString "name", (.str nm tn : Value)), (Str.ofString "parts", (.ref pt : Value))].reverse.lookup yq) ((mx, instObj 718 md) :: (md, d) :: rest) (fun v ns => ∃ (fx fd : Nat) (d' df : Obj), v = .bool true ∧ ns = (mx, instObj 718 md) :: (md, d') :: (fx, instObj 506 fd) :: (fd, df) :: rest ∧ IsMach rl mk rg fx pl pc od st ov d' ∧ IsFl cf zf sf vf df ∧ AllLt fx ((mx, instObj 718 md) :: (md, d) :: rest) ∧ AllLt fd ((mx, instObj 718 md) :: (md, d) :: rest) ∧ fd ≠ fx)
noncomputable def kap_c_twoR : Cx := kapOf S_c_twoR
set_option maxHeartbeats 4000000 in
theorem c_twoR_k : S_c_twoR kap_c_twoR := by
  intro mx md rl mk rg fl pl rn pc od st ov d rest vs xs pt g k sz a1 a2 a3 tn nm cf zf sf vf hM hm3 hpt hI hlen hg0 hg1 hz ha hap hk0 hk1 hnl hS hA hnn hC
  have e1 : (methScope "PlainRows" "two_sided_row") = (methScope "PlainRows" "two_sided_row") := rfl
  conv at e1 => rhs; whnf
  have e2 : (methBody "PlainRows" "two_sided_row") = (methBody "PlainRows" "two_sided_row") := rfl
  conv at e2 => rhs; whnf
  (try dsimp only at e1)
  (try dsimp only at e2)
  refine @bd_lit _ _ _ _ _ _ _ _ _ _ _ _ e1 e2 ?_
  clear e1 e2
  unfold Bd
  k_fill
  intro h tk HB HF HX HN HT hdp hun hE hret
  have HW : Wf kap_c_twoR 39 := ⟨HB, HX, HT, hdp, hun⟩
  replace hret := fun mq => c_two_i (hret mq)
  obtain ⟨h1, h2, h3, h4, h5, h6, h7, h8, h9, t1, t2, t3, t4, t5, t6, t7, t8, t9, u6, u7, u8, rfl⟩ := hM
  have HN1 : News kap_c_twoR.h₀ kap_c_twoR.L h ((mx, instObj 718 md) :: (md, dictOf [⟨h1, .str (Str.ofString "rows") t1, .ref rl⟩, ⟨h2, .str (Str.ofString "marks") t2, .ref mk⟩, ⟨h3, .str (Str.ofString "regs") t3, .ref rg⟩, ⟨h4, .str (Str.ofString "flags") t4, .ref fl⟩, ⟨h5, .str (Str.ofString "pile") t5, .ref pl⟩, ⟨h6, .str (Str.ofString "at") t6, .int pc u6⟩, ⟨h7, .str (Str.ofString "order") t7, .int od u7⟩, ⟨h8, .str (Str.ofString "steps") t8, .int st u8⟩, ⟨h9, .str (Str.ofString "is_over") t9, .bool ov⟩] 9) :: (rg, listOf vs.toArray rn) :: (pt, tupO #[.int sz a1, .int g a2, .int k a3]) :: rest) := news_add (.head _) (news_add (.tail _ (.head _)) (news_add (.tail _ (.tail _ hm3)) (news_add (.tail _ (.tail _ hpt)) (fun q hq => HN q (.tail _ (.tail _ hq))) HN) HN) HN) HN
  clear HN
  have e1 := hap _ hm3
  have e2 := hap _ hpt
  dsimp only at e1 e2
  refine frLet HF ?_
  intro mk HF9
  clear HF
  refine ledLet (by with_reducible assumption) ?_
  intro nk HN9
  k_steps
  all_goals (first | (exfalso; exact ne_of_tf (by assumption) (by assumption)) | skip)
  all_goals (refine' hret _ _ _ _ _ _ _ isMach_mk ?fl ?a1 ?a2 ?a3 ?bas ?led
             case led => k_extra "Z0"
             case bas => k_asm
             case fl => assumption
             case a1 => k_extra "Z4"
             case a2 => k_extra "Z4"
             case a3 => (first | (first | assumption | omega) | exact lt_led (by with_reducible assumption) (by k_mem) | exact lt_alt (by with_reducible assumption) (by k_mem) | walk_at "AllLt"))
theorem c_twoR {w : World} {mean : ExcName → Option Value} {mg mb : Str → Option Value} {mx md rl mk rg fl pl rn : Nat} {pc od st : Int} {ov : Bool} {d : Obj} {rest : Led} {vs : List Value} {xs : List Int} {pt : Nat} {g k sz : Int} {a1 a2 a3 tn : Tok} {nm : Str} {cf zf sf vf : Bool} (hM : IsMach rl mk rg fl pl pc od st ov d) (hm3 : (rg, listOf vs.toArray rn) ∈ rest) (hpt : (pt, tupO #[.int sz a1, .int g a2, .int k a3]) ∈ rest) (hI : IntsAre vs xs) (hlen : xs.length = 16) (hg0 : 0 ≤ g) (hg1 : g < 16) (hz : sz = 64 ∨ sz = 32) (ha : md ≠ mx) (hap : ∀ q ∈ rest, q.1 ≠ md) (hk0 : 0 ≤ k) (hk1 : k < 16) (hnl : nm.length ≤ 16) (hS : (Txt.slice nm (some (-4)) none == Str.ofString "_imm") = false) (hA : ([Str.ofString "add", Str.ofString "sub", Str.ofString "and", Str.ofString "or", Str.ofString "xor", Str.ofString "cmp", Str.ofString "test"].any fun x => x == nm) = true) (hnn : (nm != nm) = false) (hC : Sides w mean mg mb nm ((xs.getD g.toNat 0).fmod (pw sz)) ((xs.getD k.toNat 0).fmod (pw sz)) sz cf zf sf vf) :
   CtC w mean mg mb 40 659 ((mx, instObj 718 md) :: (md, d) :: rest) True [.ref mx, .str nm tn, .ref pt] (fun v ns => ∃ (fx fd : Nat) (d' df : Obj), v = .bool true ∧ ns = (mx, instObj 718 md) :: (md, d') :: (fx, instObj 506 fd) :: (fd, df) :: rest ∧ IsMach rl mk rg fx pl pc od st ov d' ∧ IsFl cf zf sf vf df ∧ AllLt fx ((mx, instObj 718 md) :: (md, d) :: rest) ∧ AllLt fd ((mx, instObj 718 md) :: (md, d) :: rest) ∧ fd ≠ fx) := by
  k_extra "Z2"
  exact @kap_all S_c_twoR c_twoR_k ⟨w, mean, mg, mb, dp, un, gd, outer, A₀, base, h₀, L, s, Q, E⟩ mx md rl mk rg fl pl rn pc od st ov d rest vs xs pt g k sz a1 a2 a3 tn nm cf zf sf vf hM hm3 hpt hI hlen hg0 hg1 hz ha hap hk0 hk1 hnl hS hA hnn hC
def S_c_twoI (kx : Cx) : Prop := ∀ (mx md rl mk rg fl pl rn : Nat) (pc od st : Int) (ov : Bool) (d : Obj) (rest : Led) (vs : List Value) (xs : List Int) (pt : Nat) (g k sz : Int) (a1 a2 a3 tn : Tok) (nm : Str) (cf zf sf vf : Bool) (hM : IsMach rl mk rg fl pl pc od st ov d) (hm3 : (rg, listOf vs.toArray rn) ∈ rest) (hpt : (pt, tupO #[.int sz a1, .int g a2, .int k a3]) ∈ rest) (hI : IntsAre vs xs) (hlen : xs.length = 16) (hg0 : 0 ≤ g) (hg1 : g < 16) (hz : sz = 64 ∨ sz = 32) (ha : md ≠ mx) (hap : ∀ q ∈ rest, q.1 ≠ md) (hnl : nm.length ≤ 16) (hS : (Txt.slice nm (some (-4)) none == Str.ofString "_imm") = true) (hA : ([Str.ofString "add", Str.ofString "sub", Str.ofString "and", Str.ofString "or", Str.ofString "xor", Str.ofString "cmp", Str.ofString "test"].any fun x => x == (Txt.slice nm none (some (-4)))) = true) (hnn : ((Txt.slice nm none (some (-4))) != nm) = true) (hC : Sides kx.w kx.mean kx.mg kx.mb (Txt.slice nm none (some (-4))) ((xs.getD g.toNat 0).fmod (pw sz)) (k.fmod (pw sz)) sz cf zf sf vf), Bd kx 39 (Str.ofString "PlainRows.two_sided_row") (methScope "PlainRows" "two_sided_row") 659 658 (methBody "PlainRows" "two_sided_row") (fun yq => [(Str.ofString "self", (.ref mx : Value)), (Str.ofString "name", (.str nm tn : Value)), (Str.ofString "parts", (.ref pt : Value))].reverse.lookup yq) ((mx, instObj 718 md) :: (md, d) :: rest) (fun v ns => ∃ (fx fd : Nat) (d' df : Obj), v = .bool true ∧ ns = (mx, instObj 718 md) :: (md, d') :: (fx, instObj 506 fd) :: (fd, df) :: rest ∧ IsMach rl mk rg fx pl pc od st ov d' ∧ IsFl cf zf sf vf df ∧ AllLt fx ((mx, instObj 718 md) :: (md, d) :: rest) ∧ AllLt fd ((mx, instObj 718 md) :: (md, d) :: rest) ∧ fd ≠ fx)
noncomputable def kap_c_twoI : Cx := kapOf S_c_twoI
set_option maxHeartbeats 4000000 in
theorem c_twoI_k : S_c_twoI kap_c_twoI := by
  intro mx md rl mk rg fl pl rn pc od st ov d rest vs xs pt g k sz a1 a2 a3 tn nm cf zf sf vf hM hm3 hpt hI hlen hg0 hg1 hz ha hap hnl hS hA hnn hC
  have e1 : (methScope "PlainRows" "two_sided_row") = (methScope "PlainRows" "two_sided_row") := rfl
  conv at e1 => rhs; whnf
  have e2 : (methBody "PlainRows" "two_sided_row") = (methBody "PlainRows" "two_sided_row") := rfl
  conv at e2 => rhs; whnf
  (try dsimp only at e1)
  (try dsimp only at e2)
  refine @bd_lit _ _ _ _ _ _ _ _ _ _ _ _ e1 e2 ?_
  clear e1 e2
  unfold Bd
  k_fill
  intro h tk HB HF HX HN HT hdp hun hE hret
  have HW : Wf kap_c_twoI 39 := ⟨HB, HX, HT, hdp, hun⟩
  replace hret := fun mq => c_two_i (hret mq)
  obtain ⟨h1, h2, h3, h4, h5, h6, h7, h8, h9, t1, t2, t3, t4, t5, t6, t7, t8, t9, u6, u7, u8, rfl⟩ := hM
  have HN1 : News kap_c_twoI.h₀ kap_c_twoI.L h ((mx, instObj 718 md) :: (md, dictOf [⟨h1, .str (Str.ofString "rows") t1, .ref rl⟩, ⟨h2, .str (Str.ofString "marks") t2, .ref mk⟩, ⟨h3, .str (Str.ofString "regs") t3, .ref rg⟩, ⟨h4, .str (Str.ofString "flags") t4, .ref fl⟩, ⟨h5, .str (Str.ofString "pile") t5, .ref pl⟩, ⟨h6, .str (Str.ofString "at") t6, .int pc u6⟩, ⟨h7, .str (Str.ofString "order") t7, .int od u7⟩, ⟨h8, .str (Str.ofString "steps") t8, .int st u8⟩, ⟨h9, .str (Str.ofString "is_over") t9, .bool ov⟩] 9) :: (rg, listOf vs.toArray rn) :: (pt, tupO #[.int sz a1, .int g a2, .int k a3]) :: rest) := news_add (.head _) (news_add (.tail _ (.head _)) (news_add (.tail _ (.tail _ hm3)) (news_add (.tail _ (.tail _ hpt)) (fun q hq => HN q (.tail _ (.tail _ hq))) HN) HN) HN) HN
  clear HN
  have e1 := hap _ hm3
  have e2 := hap _ hpt
  dsimp only at e1 e2
  refine frLet HF ?_
  intro mk HF9
  clear HF
  refine ledLet (by with_reducible assumption) ?_
  intro nk HN9
  k_steps
  all_goals (first | (exfalso; exact ne_of_tf (by assumption) (by assumption)) | skip)
  all_goals (refine' hret _ _ _ _ _ _ _ isMach_mk ?fl ?a1 ?a2 ?a3 ?bas ?led
             case led => k_extra "Z0"
             case bas => k_asm
             case fl => assumption
             case a1 => k_extra "Z4"
             case a2 => k_extra "Z4"
             case a3 => (first | (first | assumption | omega) | exact lt_led (by with_reducible assumption) (by k_mem) | exact lt_alt (by with_reducible assumption) (by k_mem) | walk_at "AllLt"))
theorem c_twoI {w : World} {mean : ExcName → Option Value} {mg mb : Str → Option Value} {mx md rl mk rg fl pl rn : Nat} {pc od st : Int} {ov : Bool} {d : Obj} {rest : Led} {vs : List Value} {xs : List Int} {pt : Nat} {g k sz : Int} {a1 a2 a3 tn : Tok} {nm : Str} {cf zf sf vf : Bool} (hM : IsMach rl mk rg fl pl pc od st ov d) (hm3 : (rg, listOf vs.toArray rn) ∈ rest) (hpt : (pt, tupO #[.int sz a1, .int g a2, .int k a3]) ∈ rest) (hI : IntsAre vs xs) (hlen : xs.length = 16) (hg0 : 0 ≤ g) (hg1 : g < 16) (hz : sz = 64 ∨ sz = 32) (ha : md ≠ mx) (hap : ∀ q ∈ rest, q.1 ≠ md) (hnl : nm.length ≤ 16) (hS : (Txt.slice nm (some (-4)) none == Str.ofString "_imm") = true) (hA : ([Str.ofString "add", Str.ofString "sub", Str.ofString "and", Str.ofString "or", Str.ofString "xor", Str.ofString "cmp", Str.ofString "test"].any fun x => x == (Txt.slice nm none (some (-4)))) = true) (hnn : ((Txt.slice nm none (some (-4))) != nm) = true) (hC : Sides w mean mg mb (Txt.slice nm none (some (-4))) ((xs.getD g.toNat 0).fmod (pw sz)) (k.fmod (pw sz)) sz cf zf sf vf) :
   CtC w mean mg mb 40 659 ((mx, instObj 718 md) :: (md, d) :: rest) True [.ref mx, .str nm tn, .ref pt] (fun v ns => ∃ (fx fd : Nat) (d' df : Obj), v = .bool true ∧ ns = (mx, instObj 718 md) :: (md, d') :: (fx, instObj 506 fd) :: (fd, df) :: rest ∧ IsMach rl mk rg fx pl pc od st ov d' ∧ IsFl cf zf sf vf df ∧ AllLt fx ((mx, instObj 718 md) :: (md, d) :: rest) ∧ AllLt fd ((mx, instObj 718 md) :: (md, d) :: rest) ∧ fd ≠ fx) := by
  k_extra "Z2"
  exact @kap_all S_c_twoI c_twoI_k ⟨w, mean, mg, mb, dp, un, gd, outer, A₀, base, h₀, L, s, Q, E⟩ mx md rl mk rg fl pl rn pc od st ov d rest vs xs pt g k sz a1 a2 a3 tn nm cf zf sf vf hM hm3 hpt hI hlen hg0 hg1 hz ha hap hnl hS hA hnn hC
example : True := by
  k_with "off E4G" => skip
  trivial
end
section
set_option maxHeartbeats 1000000
theorem slc : Txt.slice (Str.ofString "cmp_imm") none (some (-4)) = Str.ofString "cmp" := by decide +kernel
theorem slt : Txt.slice (Str.ofString "test_imm") none (some (-4)) = Str.ofString "test" := by decide +kernel
theorem c_two_cmp {w : World} {mean : ExcName → Option Value} {mg mb : Str → Option Value} {mx md rl mk rg fl pl rn : Nat} {pc od st : Int} {ov : Bool} {d : Obj} {rest : Led} {vs : List Value} {xs : List Int} {pt : Nat} {g k sz : Int} {a1 a2 a3 tn : Tok} (hM : IsMach rl mk rg fl pl pc od st ov d) (hm3 : (rg, listOf vs.toArray rn) ∈ rest) (hpt : (pt, tupO #[.int sz a1, .int g a2, .int k a3]) ∈ rest) (hI : IntsAre vs xs) (hlen : xs.length = 16) (hg0 : 0 ≤ g) (hg1 : g < 16) (hz : sz = 64 ∨ sz = 32) (ha : md ≠ mx) (hap : ∀ q ∈ rest, q.1 ≠ md) (hk0 : 0 ≤ k) (hk1 : k < 16) :
   CtC w mean mg mb 40 659 ((mx, instObj 718 md) :: (md, d) :: rest) True [.ref mx, .str (Str.ofString "cmp") tn, .ref pt] (fun v ns => ∃ (fx fd : Nat) (d' df : Obj), v = .bool true ∧ ns = (mx, instObj 718 md) :: (md, d') :: (fx, instObj 506 fd) :: (fd, df) :: rest ∧ IsMach rl mk rg fx pl pc od st ov d' ∧ IsFl (decide (((xs.getD g.toNat 0).fmod (pw sz)) < ((xs.getD k.toNat 0).fmod (pw sz)))) (((((xs.getD g.toNat 0).fmod (pw sz)) - ((xs.getD k.toNat 0).fmod (pw sz))).fmod (pw sz)) == 0) (sgB sz ((((xs.getD g.toNat 0).fmod (pw sz)) - ((xs.getD k.toNat 0).fmod (pw sz))).fmod (pw sz))) ((sgB sz ((xs.getD g.toNat 0).fmod (pw sz)) != sgB sz ((xs.getD k.toNat 0).fmod (pw sz))) && (sgB sz ((((xs.getD g.toNat 0).fmod (pw sz)) - ((xs.getD k.toNat 0).fmod (pw sz))).fmod (pw sz)) != sgB sz ((xs.getD g.toNat 0).fmod (pw sz)))) df ∧ AllLt fx ((mx, instObj 718 md) :: (md, d) :: rest) ∧ AllLt fd ((mx, instObj 718 md) :: (md, d) :: rest) ∧ fd ≠ fx) :=
  c_twoR hM hm3 hpt hI hlen hg0 hg1 hz ha hap hk0 hk1 (by decide +kernel) (by decide +kernel) (by decide +kernel) (bne_self_eq_false _) (fun _ _ _ _ _ => c_sidesC hz (fmod_lo _ _) (fmod_hi _ _) (fmod_lo _ _) (fmod_hi _ _))
theorem c_two_cmp_imm {w : World} {mean : ExcName → Option Value} {mg mb : Str → Option Value} {mx md rl mk rg fl pl rn : Nat} {pc od st : Int} {ov : Bool} {d : Obj} {rest : Led} {vs : List Value} {xs : List Int} {pt : Nat} {g k sz : Int} {a1 a2 a3 tn : Tok} (hM : IsMach rl mk rg fl pl pc od st ov d) (hm3 : (rg, listOf vs.toArray rn) ∈ rest) (hpt : (pt, tupO #[.int sz a1, .int g a2, .int k a3]) ∈ rest) (hI : IntsAre vs xs) (hlen : xs.length = 16) (hg0 : 0 ≤ g) (hg1 : g < 16) (hz : sz = 64 ∨ sz = 32) (ha : md ≠ mx) (hap : ∀ q ∈ rest, q.1 ≠ md) :
   CtC w mean mg mb 40 659 ((mx, instObj 718 md) :: (md, d) :: rest) True [.ref mx, .str (Str.ofString "cmp_imm") tn, .ref pt] (fun v ns => ∃ (fx fd : Nat) (d' df : Obj), v = .bool true ∧ ns = (mx, instObj 718 md) :: (md, d') :: (fx, instObj 506 fd) :: (fd, df) :: rest ∧ IsMach rl mk rg fx pl pc od st ov d' ∧ IsFl (decide (((xs.getD g.toNat 0).fmod (pw sz)) < (k.fmod (pw sz)))) (((((xs.getD g.toNat 0).fmod (pw sz)) - (k.fmod (pw sz))).fmod (pw sz)) == 0) (sgB sz ((((xs.getD g.toNat 0).fmod (pw sz)) - (k.fmod (pw sz))).fmod (pw sz))) ((sgB sz ((xs.getD g.toNat 0).fmod (pw sz)) != sgB sz (k.fmod (pw sz))) && (sgB sz ((((xs.getD g.toNat 0).fmod (pw sz)) - (k.fmod (pw sz))).fmod (pw sz)) != sgB sz ((xs.getD g.toNat 0).fmod (pw sz)))) df ∧ AllLt fx ((mx, instObj 718 md) :: (md, d) :: rest) ∧ AllLt fd ((mx, instObj 718 md) :: (md, d) :: rest) ∧ fd ≠ fx) :=
  c_twoI hM hm3 hpt hI hlen hg0 hg1 hz ha hap (by decide +kernel) (by decide +kernel) (slc ▸ (by decide +kernel)) (slc ▸ (by decide +kernel)) (slc ▸ fun _ _ _ _ _ => c_sidesC hz (fmod_lo _ _) (fmod_hi _ _) (fmod_lo _ _) (fmod_hi _ _))
theorem c_two_test {w : World} {mean : ExcName → Option Value} {mg mb : Str → Option Value} {mx md rl mk rg fl pl rn : Nat} {pc od st : Int} {ov : Bool} {d : Obj} {rest : Led} {vs : List Value} {xs : List Int} {pt : Nat} {g k sz : Int} {a1 a2 a3 tn : Tok} (hM : IsMach rl mk rg fl pl pc od st ov d) (hm3 : (rg, listOf vs.toArray rn) ∈ rest) (hpt : (pt, tupO #[.int sz a1, .int g a2, .int k a3]) ∈ rest) (hI : IntsAre vs xs) (hlen : xs.length = 16) (hg0 : 0 ≤ g) (hg1 : g < 16) (hz : sz = 64 ∨ sz = 32) (ha : md ≠ mx) (hap : ∀ q ∈ rest, q.1 ≠ md) (hk0 : 0 ≤ k) (hk1 : k < 16) :
   CtC w mean mg mb 40 659 ((mx, instObj 718 md) :: (md, d) :: rest) True [.ref mx, .str (Str.ofString "test") tn, .ref pt] (fun v ns => ∃ (fx fd : Nat) (d' df : Obj), v = .bool true ∧ ns = (mx, instObj 718 md) :: (md, d') :: (fx, instObj 506 fd) :: (fd, df) :: rest ∧ IsMach rl mk rg fx pl pc od st ov d' ∧ IsFl false ((Builtin.bitAnd ((xs.getD g.toNat 0).fmod (pw sz)) ((xs.getD k.toNat 0).fmod (pw sz))) == 0) (sgB sz (Builtin.bitAnd ((xs.getD g.toNat 0).fmod (pw sz)) ((xs.getD k.toNat 0).fmod (pw sz)))) false df ∧ AllLt fx ((mx, instObj 718 md) :: (md, d) :: rest) ∧ AllLt fd ((mx, instObj 718 md) :: (md, d) :: rest) ∧ fd ≠ fx) :=
  c_twoR hM hm3 hpt hI hlen hg0 hg1 hz ha hap hk0 hk1 (by decide +kernel) (by decide +kernel) (by decide +kernel) (bne_self_eq_false _) (fun _ _ _ _ _ => c_sidesT hz (fmod_lo _ _) (fmod_hi _ _) (fmod_lo _ _) (fmod_hi _ _))
theorem c_two_test_imm {w : World} {mean : ExcName → Option Value} {mg mb : Str → Option Value} {mx md rl mk rg fl pl rn : Nat} {pc od st : Int} {ov : Bool} {d : Obj} {rest : Led} {vs : List Value} {xs : List Int} {pt : Nat} {g k sz : Int} {a1 a2 a3 tn : Tok} (hM : IsMach rl mk rg fl pl pc od st ov d) (hm3 : (rg, listOf vs.toArray rn) ∈ rest) (hpt : (pt, tupO #[.int sz a1, .int g a2, .int k a3]) ∈ rest) (hI : IntsAre vs xs) (hlen : xs.length = 16) (hg0 : 0 ≤ g) (hg1 : g < 16) (hz : sz = 64 ∨ sz = 32) (ha : md ≠ mx) (hap : ∀ q ∈ rest, q.1 ≠ md) :
   CtC w mean mg mb 40 659 ((mx, instObj 718 md) :: (md, d) :: rest) True [.ref mx, .str (Str.ofString "test_imm") tn, .ref pt] (fun v ns => ∃ (fx fd : Nat) (d' df : Obj), v = .bool true ∧ ns = (mx, instObj 718 md) :: (md, d') :: (fx, instObj 506 fd) :: (fd, df) :: rest ∧ IsMach rl mk rg fx pl pc od st ov d' ∧ IsFl false ((Builtin.bitAnd ((xs.getD g.toNat 0).fmod (pw sz)) (k.fmod (pw sz))) == 0) (sgB sz (Builtin.bitAnd ((xs.getD g.toNat 0).fmod (pw sz)) (k.fmod (pw sz)))) false df ∧ AllLt fx ((mx, instObj 718 md) :: (md, d) :: rest) ∧ AllLt fd ((mx, instObj 718 md) :: (md, d) :: rest) ∧ fd ≠ fx) :=
  c_twoI hM hm3 hpt hI hlen hg0 hg1 hz ha hap (by decide +kernel) (by decide +kernel) (slt ▸ (by decide +kernel)) (slt ▸ (by decide +kernel)) (slt ▸ fun _ _ _ _ _ => c_sidesT hz (fmod_lo _ _) (fmod_hi _ _) (fmod_lo _ _) (fmod_hi _ _))
end
section
set_option maxHeartbeats 1000000
def S_c_mv0 (kx : Cx) : Prop := ∀ (news : Led) (mx pt : Nat) (nm : Str) (t : Tok) (n0 : (nm == Str.ofString "mov") = false) (n1 : (nm == Str.ofString "mov_imm") = false) (n2 : (nm == Str.ofString "movabs") = false) (n3 : (nm == Str.ofString "movzx") = false) (n4 : (nm == Str.ofString "movsx") = false) (n5 : (nm == Str.ofString "bswap") = false) (n6 : (nm == Str.ofString "ror16") = false), Bd kx 11 (Str.ofString "PlainRows.move_row") (methScope "PlainRows" "move_row") 652 651 (methBody "PlainRows" "move_row") (fun yq => [(Str.ofString "self", (.ref mx : Value)), (Str.ofString "name", (.str nm t : Value)), (Str.ofString "parts", (.ref pt : Value))].reverse.lookup yq) (news) (fun v ns => v = .bool false ∧ ns = news)
noncomputable def kap_c_mv0 : Cx := kapOf S_c_mv0
theorem c_mv0_k : S_c_mv0 kap_c_mv0 := by
  intro news mx pt nm t n0 n1 n2 n3 n4 n5 n6
  have e1 : (methScope "PlainRows" "move_row") = (methScope "PlainRows" "move_row") := rfl
  conv at e1 => rhs; whnf
  have e2 : (methBody "PlainRows" "move_row") = (methBody "PlainRows" "move_row") := rfl
  conv at e2 => rhs; whnf
  (try dsimp only at e1)
  (try dsimp only at e2)
  refine @bd_lit _ _ _ _ _ _ _ _ _ _ _ _ e1 e2 ?_
  clear e1 e2
  unfold Bd
  k_fill
  intro h tk HB HF HX HN HT hdp hun hE hret
  have HW : Wf kap_c_mv0 11 := ⟨HB, HX, HT, hdp, hun⟩
  refine frLet HF ?_
  intro mk HF9
  clear HF
  refine ledLet (by with_reducible assumption) ?_
  intro nk HN9
  k_steps
  all_goals (refine' hret _ _ _ _ _ ⟨rfl, rfl⟩ ?bas ?led
             case bas => k_asm
             case led => k_extra "Z3")
theorem c_mv0 {w : World} {mean : ExcName → Option Value} {mg mb : Str → Option Value} {news : Led} {mx pt : Nat} {nm : Str} {t : Tok} (n0 : (nm == Str.ofString "mov") = false) (n1 : (nm == Str.ofString "mov_imm") = false) (n2 : (nm == Str.ofString "movabs") = false) (n3 : (nm == Str.ofString "movzx") = false) (n4 : (nm == Str.ofString "movsx") = false) (n5 : (nm == Str.ofString "bswap") = false) (n6 : (nm == Str.ofString "ror16") = false) :
   CtC w mean mg mb 12 652 (news) True [.ref mx, .str nm t, .ref pt] (fun v ns => v = .bool false ∧ ns = news) := by
  k_extra "Z2"
  exact @kap_all S_c_mv0 c_mv0_k ⟨w, mean, mg, mb, dp, un, gd, outer, A₀, base, h₀, L, s, Q, E⟩ news mx pt nm t n0 n1 n2 n3 n4 n5 n6
def S_c_ts_jcc (kx : Cx) : Prop := ∀ (news : Led) (mx pt : Nat) (t : Tok), Bd kx 11 (Str.ofString "PlainRows.two_sided_row") (methScope "PlainRows" "two_sided_row") 659 658 (methBody "PlainRows" "two_sided_row") (fun yq => [(Str.ofString "self", (.ref mx : Value)), (Str.ofString "name", (.str (Str.ofString "jcc") t : Value)), (Str.ofString "parts", (.ref pt : Value))].reverse.lookup yq) (news) (fun v ns => v = .bool false ∧ ns = news)
noncomputable def kap_c_ts_jcc : Cx := kapOf S_c_ts_jcc
theorem c_ts_jcc_k : S_c_ts_jcc kap_c_ts_jcc := by
  intro news mx pt t
  have e1 : (methScope "PlainRows" "two_sided_row") = (methScope "PlainRows" "two_sided_row") := rfl
  conv at e1 => rhs; whnf
  have e2 : (methBody "PlainRows" "two_sided_row") = (methBody "PlainRows" "two_sided_row") := rfl
  conv at e2 => rhs; whnf
  (try dsimp only at e1)
  (try dsimp only at e2)
  refine @bd_lit _ _ _ _ _ _ _ _ _ _ _ _ e1 e2 ?_
  clear e1 e2
  unfold Bd
  k_fill
  intro h tk HB HF HX HN HT hdp hun hE hret
  have HW : Wf kap_c_ts_jcc 11 := ⟨HB, HX, HT, hdp, hun⟩
  refine frLet HF ?_
  intro mk HF9
  clear HF
  refine ledLet (by with_reducible assumption) ?_
  intro nk HN9
  k_steps
  all_goals (refine' hret _ _ _ _ _ ⟨rfl, rfl⟩ ?bas ?led
             case bas => k_asm
             case led => k_extra "Z3")
theorem c_ts_jcc {w : World} {mean : ExcName → Option Value} {mg mb : Str → Option Value} {news : Led} {mx pt : Nat} {t : Tok}  :
   CtC w mean mg mb 12 659 (news) True [.ref mx, .str (Str.ofString "jcc") t, .ref pt] (fun v ns => v = .bool false ∧ ns = news) := by
  k_extra "Z2"
  exact @kap_all S_c_ts_jcc c_ts_jcc_k ⟨w, mean, mg, mb, dp, un, gd, outer, A₀, base, h₀, L, s, Q, E⟩ news mx pt t
def S_c_ts_ret (kx : Cx) : Prop := ∀ (news : Led) (mx pt : Nat) (t : Tok), Bd kx 11 (Str.ofString "PlainRows.two_sided_row") (methScope "PlainRows" "two_sided_row") 659 658 (methBody "PlainRows" "two_sided_row") (fun yq => [(Str.ofString "self", (.ref mx : Value)), (Str.ofString "name", (.str (Str.ofString "ret") t : Value)), (Str.ofString "parts", (.ref pt : Value))].reverse.lookup yq) (news) (fun v ns => v = .bool false ∧ ns = news)
noncomputable def kap_c_ts_ret : Cx := kapOf S_c_ts_ret
theorem c_ts_ret_k : S_c_ts_ret kap_c_ts_ret := by
  intro news mx pt t
  have e1 : (methScope "PlainRows" "two_sided_row") = (methScope "PlainRows" "two_sided_row") := rfl
  conv at e1 => rhs; whnf
  have e2 : (methBody "PlainRows" "two_sided_row") = (methBody "PlainRows" "two_sided_row") := rfl
  conv at e2 => rhs; whnf
  (try dsimp only at e1)
  (try dsimp only at e2)
  refine @bd_lit _ _ _ _ _ _ _ _ _ _ _ _ e1 e2 ?_
  clear e1 e2
  unfold Bd
  k_fill
  intro h tk HB HF HX HN HT hdp hun hE hret
  have HW : Wf kap_c_ts_ret 11 := ⟨HB, HX, HT, hdp, hun⟩
  refine frLet HF ?_
  intro mk HF9
  clear HF
  refine ledLet (by with_reducible assumption) ?_
  intro nk HN9
  k_steps
  all_goals (refine' hret _ _ _ _ _ ⟨rfl, rfl⟩ ?bas ?led
             case bas => k_asm
             case led => k_extra "Z3")
theorem c_ts_ret {w : World} {mean : ExcName → Option Value} {mg mb : Str → Option Value} {news : Led} {mx pt : Nat} {t : Tok}  :
   CtC w mean mg mb 12 659 (news) True [.ref mx, .str (Str.ofString "ret") t, .ref pt] (fun v ns => v = .bool false ∧ ns = news) := by
  k_extra "Z2"
  exact @kap_all S_c_ts_ret c_ts_ret_k ⟨w, mean, mg, mb, dp, un, gd, outer, A₀, base, h₀, L, s, Q, E⟩ news mx pt t
def S_c_sh_jcc (kx : Cx) : Prop := ∀ (news : Led) (mx pt : Nat) (t : Tok), Bd kx 11 (Str.ofString "PlainRows.shift_row") (methScope "PlainRows" "shift_row") 666 665 (methBody "PlainRows" "shift_row") (fun yq => [(Str.ofString "self", (.ref mx : Value)), (Str.ofString "name", (.str (Str.ofString "jcc") t : Value)), (Str.ofString "parts", (.ref pt : Value))].reverse.lookup yq) (news) (fun v ns => v = .bool false ∧ ns = news)
noncomputable def kap_c_sh_jcc : Cx := kapOf S_c_sh_jcc
theorem c_sh_jcc_k : S_c_sh_jcc kap_c_sh_jcc := by
  intro news mx pt t
  have e1 : (methScope "PlainRows" "shift_row") = (methScope "PlainRows" "shift_row") := rfl
  conv at e1 => rhs; whnf
  have e2 : (methBody "PlainRows" "shift_row") = (methBody "PlainRows" "shift_row") := rfl
  conv at e2 => rhs; whnf
  (try dsimp only at e1)
  (try dsimp only at e2)
  refine @bd_lit _ _ _ _ _ _ _ _ _ _ _ _ e1 e2 ?_
  clear e1 e2
  unfold Bd
  k_fill
  intro h tk HB HF HX HN HT hdp hun hE hret
  have HW : Wf kap_c_sh_jcc 11 := ⟨HB, HX, HT, hdp, hun⟩
  refine frLet HF ?_
  intro mk HF9
  clear HF
  refine ledLet (by with_reducible assumption) ?_
  intro nk HN9
  k_steps
  all_goals (refine' hret _ _ _ _ _ ⟨rfl, rfl⟩ ?bas ?led
             case bas => k_asm
             case led => k_extra "Z3")
theorem c_sh_jcc {w : World} {mean : ExcName → Option Value} {mg mb : Str → Option Value} {news : Led} {mx pt : Nat} {t : Tok}  :
   CtC w mean mg mb 12 666 (news) True [.ref mx, .str (Str.ofString "jcc") t, .ref pt] (fun v ns => v = .bool false ∧ ns = news) := by
  k_extra "Z2"
  exact @kap_all S_c_sh_jcc c_sh_jcc_k ⟨w, mean, mg, mb, dp, un, gd, outer, A₀, base, h₀, L, s, Q, E⟩ news mx pt t
def S_c_sh_ret (kx : Cx) : Prop := ∀ (news : Led) (mx pt : Nat) (t : Tok), Bd kx 11 (Str.ofString "PlainRows.shift_row") (methScope "PlainRows" "shift_row") 666 665 (methBody "PlainRows" "shift_row") (fun yq => [(Str.ofString "self", (.ref mx : Value)), (Str.ofString "name", (.str (Str.ofString "ret") t : Value)), (Str.ofString "parts", (.ref pt : Value))].reverse.lookup yq) (news) (fun v ns => v = .bool false ∧ ns = news)
noncomputable def kap_c_sh_ret : Cx := kapOf S_c_sh_ret
theorem c_sh_ret_k : S_c_sh_ret kap_c_sh_ret := by
  intro news mx pt t
  have e1 : (methScope "PlainRows" "shift_row") = (methScope "PlainRows" "shift_row") := rfl
  conv at e1 => rhs; whnf
  have e2 : (methBody "PlainRows" "shift_row") = (methBody "PlainRows" "shift_row") := rfl
  conv at e2 => rhs; whnf
  (try dsimp only at e1)
  (try dsimp only at e2)
  refine @bd_lit _ _ _ _ _ _ _ _ _ _ _ _ e1 e2 ?_
  clear e1 e2
  unfold Bd
  k_fill
  intro h tk HB HF HX HN HT hdp hun hE hret
  have HW : Wf kap_c_sh_ret 11 := ⟨HB, HX, HT, hdp, hun⟩
  refine frLet HF ?_
  intro mk HF9
  clear HF
  refine ledLet (by with_reducible assumption) ?_
  intro nk HN9
  k_steps
  all_goals (refine' hret _ _ _ _ _ ⟨rfl, rfl⟩ ?bas ?led
             case bas => k_asm
             case led => k_extra "Z3")
theorem c_sh_ret {w : World} {mean : ExcName → Option Value} {mg mb : Str → Option Value} {news : Led} {mx pt : Nat} {t : Tok}  :
   CtC w mean mg mb 12 666 (news) True [.ref mx, .str (Str.ofString "ret") t, .ref pt] (fun v ns => v = .bool false ∧ ns = news) := by
  k_extra "Z2"
  exact @kap_all S_c_sh_ret c_sh_ret_k ⟨w, mean, mg, mb, dp, un, gd, outer, A₀, base, h₀, L, s, Q, E⟩ news mx pt t
def S_c_dv_jcc (kx : Cx) : Prop := ∀ (news : Led) (mx pt : Nat) (t : Tok), Bd kx 11 (Str.ofString "PlainRows.division_row") (methScope "PlainRows" "division_row") 673 672 (methBody "PlainRows" "division_row") (fun yq => [(Str.ofString "self", (.ref mx : Value)), (Str.ofString "name", (.str (Str.ofString "jcc") t : Value)), (Str.ofString "parts", (.ref pt : Value))].reverse.lookup yq) (news) (fun v ns => v = .bool false ∧ ns = news)
noncomputable def kap_c_dv_jcc : Cx := kapOf S_c_dv_jcc
theorem c_dv_jcc_k : S_c_dv_jcc kap_c_dv_jcc := by
  intro news mx pt t
  have e1 : (methScope "PlainRows" "division_row") = (methScope "PlainRows" "division_row") := rfl
  conv at e1 => rhs; whnf
  have e2 : (methBody "PlainRows" "division_row") = (methBody "PlainRows" "division_row") := rfl
  conv at e2 => rhs; whnf
  (try dsimp only at e1)
  (try dsimp only at e2)
  refine @bd_lit _ _ _ _ _ _ _ _ _ _ _ _ e1 e2 ?_
  clear e1 e2
  unfold Bd
  k_fill
  intro h tk HB HF HX HN HT hdp hun hE hret
  have HW : Wf kap_c_dv_jcc 11 := ⟨HB, HX, HT, hdp, hun⟩
  refine frLet HF ?_
  intro mk HF9
  clear HF
  refine ledLet (by with_reducible assumption) ?_
  intro nk HN9
  k_steps
  all_goals (refine' hret _ _ _ _ _ ⟨rfl, rfl⟩ ?bas ?led
             case bas => k_asm
             case led => k_extra "Z3")
theorem c_dv_jcc {w : World} {mean : ExcName → Option Value} {mg mb : Str → Option Value} {news : Led} {mx pt : Nat} {t : Tok}  :
   CtC w mean mg mb 12 673 (news) True [.ref mx, .str (Str.ofString "jcc") t, .ref pt] (fun v ns => v = .bool false ∧ ns = news) := by
  k_extra "Z2"
  exact @kap_all S_c_dv_jcc c_dv_jcc_k ⟨w, mean, mg, mb, dp, un, gd, outer, A₀, base, h₀, L, s, Q, E⟩ news mx pt t
def S_c_dv_ret (kx : Cx) : Prop := ∀ (news : Led) (mx pt : Nat) (t : Tok), Bd kx 11 (Str.ofString "PlainRows.division_row") (methScope "PlainRows" "division_row") 673 672 (methBody "PlainRows" "division_row") (fun yq => [(Str.ofString "self", (.ref mx : Value)), (Str.ofString "name", (.str (Str.ofString "ret") t : Value)), (Str.ofString "parts", (.ref pt : Value))].reverse.lookup yq) (news) (fun v ns => v = .bool false ∧ ns = news)
noncomputable def kap_c_dv_ret : Cx := kapOf S_c_dv_ret
theorem c_dv_ret_k : S_c_dv_ret kap_c_dv_ret := by
  intro news mx pt t
  have e1 : (methScope "PlainRows" "division_row") = (methScope "PlainRows" "division_row") := rfl
  conv at e1 => rhs; whnf
  have e2 : (methBody "PlainRows" "division_row") = (methBody "PlainRows" "division_row") := rfl
  conv at e2 => rhs; whnf
  (try dsimp only at e1)
  (try dsimp only at e2)
  refine @bd_lit _ _ _ _ _ _ _ _ _ _ _ _ e1 e2 ?_
  clear e1 e2
  unfold Bd
  k_fill
  intro h tk HB HF HX HN HT hdp hun hE hret
  have HW : Wf kap_c_dv_ret 11 := ⟨HB, HX, HT, hdp, hun⟩
  refine frLet HF ?_
  intro mk HF9
  clear HF
  refine ledLet (by with_reducible assumption) ?_
  intro nk HN9
  k_steps
  all_goals (refine' hret _ _ _ _ _ ⟨rfl, rfl⟩ ?bas ?led
             case bas => k_asm
             case led => k_extra "Z3")
theorem c_dv_ret {w : World} {mean : ExcName → Option Value} {mg mb : Str → Option Value} {news : Led} {mx pt : Nat} {t : Tok}  :
   CtC w mean mg mb 12 673 (news) True [.ref mx, .str (Str.ofString "ret") t, .ref pt] (fun v ns => v = .bool false ∧ ns = news) := by
  k_extra "Z2"
  exact @kap_all S_c_dv_ret c_dv_ret_k ⟨w, mean, mg, mb, dp, un, gd, outer, A₀, base, h₀, L, s, Q, E⟩ news mx pt t
end
section
set_option maxHeartbeats 1000000
example : True := by
  k_with ".subscriptTail" => ((fail_if_success k_extra "off E6"); (k_here; (with_reducible show wpAny _ _ (subscriptTail _ _ (Value.ref _) (Value.ref _)) _ _ _); k_dflt (refine' item_mark ?huDj ?NDj ?loDj ?hmDj ?MDj ?hkDj ?hkaDj key_mix ?hlDj (fun _ _ => ?_) ?hsDj ?hgDj; (case NDj => k_asm); (case hmDj => (repeat (first | exact List.Mem.head _ | refine List.Mem.tail _ ?_))); (case MDj => assumption); (case loDj => assumption); (case hkaDj => (repeat (first | exact List.Mem.head _ | refine List.Mem.tail _ ?_))); (case hkDj => (repeat' (first | exact List.forall_mem_nil _ | refine List.forall_mem_cons.mpr (And.intro ?_ ?_) | exact List.Mem.head _ | refine List.Mem.tail _ ?_))); (case hlDj => assumption); (case huDj => ktr_units); (case hsDj => with_unfolding_all rfl); (case hgDj => (intro _; with_unfolding_all rfl)))))
  k_with ".call ref" => (k_here; (with_reducible show wpAny _ _ (call (Value.ref 566) [_, _]) _ _ _); k_dflt (refine' ct_use (c_cond ?hx1Dk ?hx2Dk) ?kBDk ?kFDk ?kXDk ?kNDk ?kTDk ?kkDk trivial ?kdDk ?kuDk ?_; (case kBDk => k_asm); (case kFDk => k_asm); (case kXDk => k_asm); (case kNDk => k_asm); (case kTDk => k_asm); (case kkDk => first | exact rfl | assumption); (case hx1Dk => (repeat (first | exact List.Mem.head _ | assumption | refine List.Mem.tail _ ?_))); (case hx2Dk => (repeat (first | exact List.Mem.head _ | assumption | refine List.Mem.tail _ ?_))); (case kdDk => ktr_room); (case kuDk => ktr_units); (intro v9Z ns9Z h9Z tk9Z hR9Z F9Z N9Z; obtain ⟨hv9, hn9⟩ := hR9Z; subst hv9 hn9; (try dsimp only); (try k_fold))))
  trivial
theorem isMach_t {rl mk rg fl pl : Nat} {x y od st : Int} {ov b : Bool} {d : Obj} (h : b = true) (M : IsMach rl mk rg fl pl x od st ov d) : IsMach rl mk rg fl pl (if b = true then x else y) od st ov d := by rw [if_pos h]; exact M
theorem isMach_f {rl mk rg fl pl : Nat} {x y od st : Int} {ov b : Bool} {d : Obj} (h : b = false) (M : IsMach rl mk rg fl pl y od st ov d) : IsMach rl mk rg fl pl (if b = true then x else y) od st ov d := by rw [if_neg (by rw [h]; decide)]; exact M
def S_c_wyJ (kx : Cx) : Prop := ∀ (mx md rl mk rg fl pl : Nat) (pc od st : Int) (ov : Bool) (d : Obj) (rest : Led) (om : Obj) (y1 y2 : Nat) (f1 f2 f3 f4 : Tok) (fd : Nat) (df : Obj) (cf zf sf vf : Bool) (pt : Nat) (n tg : Int) (o : Str) (b1 b2 b3 tn : Tok) (hM : IsMach rl mk rg fl pl pc od st ov d) (hpt : (pt, tupO #[.str (condT o) b1, .str (Str.ofString "order") b2, .int n b3]) ∈ rest) (hk1 : (mk, om) ∈ rest) (hk2 : (mk == sysModules) = false) (hk3 : MarkO thePr kx.w [(y2, tupO #[.str (Str.ofString "order") f3, .int 2 f4]), (y1, tupO #[.str (Str.ofString "order") f1, .int 1 f2])] om (PyProof.V.putD (encTuple mixEnc [.inl (Str.ofString "order"), .inr 2]) (.int 5) (PyProof.V.putD (encTuple mixEnc [.inl (Str.ofString "order"), .inr 1]) (.int 2) []))) (hk4 : (y2, tupO #[.str (Str.ofString "order") f3, .int 2 f4]) ∈ rest) (hk5 : (y1, tupO #[.str (Str.ofString "order") f1, .int 1 f2]) ∈ rest) (hf1 : (fl, instObj 506 fd) ∈ rest) (hf2 : (fd, df) ∈ rest) (hf3 : IsFl cf zf sf vf df) (hn : (n = 1 ∧ tg = 2) ∨ (n = 2 ∧ tg = 5)) (ha : md ≠ mx) (hap : ∀ q ∈ rest, q.1 ≠ md), Bd kx 23 (Str.ofString "PlainRows.way_row") (methScope "PlainRows" "way_row") 694 693 (methBody "PlainRows" "way_row") (fun yq => [(Str.ofString "self", (.ref mx : Value)), (Str.ofString "name", (.str (Str.ofString "jcc") tn : Value)), (Str.ofString "parts", (.ref pt : Value))].reverse.lookup yq) ((mx, instObj 718 md) :: (md, d) :: rest) (fun v ns => ∃ (d' : Obj), v = .bool true ∧ ns = (mx, instObj 718 md) :: (md, d') :: rest ∧ IsMach rl mk rg fl pl (if (condB (condT o) cf zf sf vf) = true then tg else pc) od st ov d')
noncomputable def kap_c_wyJ : Cx := kapOf S_c_wyJ
set_option maxHeartbeats 4000000 in
theorem c_wyJ_k : S_c_wyJ kap_c_wyJ := by
  intro mx md rl mk rg fl pl pc od st ov d rest om y1 y2 f1 f2 f3 f4 fd df cf zf sf vf pt n tg o b1 b2 b3 tn hM hpt hk1 hk2 hk3 hk4 hk5 hf1 hf2 hf3 hn ha hap
  have e1 : (methScope "PlainRows" "way_row") = (methScope "PlainRows" "way_row") := rfl
  conv at e1 => rhs; whnf
  have e2 : (methBody "PlainRows" "way_row") = (methBody "PlainRows" "way_row") := rfl
  conv at e2 => rhs; whnf
  (try dsimp only at e1)
  (try dsimp only at e2)
  refine @bd_lit _ _ _ _ _ _ _ _ _ _ _ _ e1 e2 ?_
  clear e1 e2
  unfold Bd
  k_fill
  intro h tk HB HF HX HN HT hdp hun hE hret
  have HW : Wf kap_c_wyJ 23 := ⟨HB, HX, HT, hdp, hun⟩
  obtain ⟨h1, h2, h3, h4, h5, h6, h7, h8, h9, t1, t2, t3, t4, t5, t6, t7, t8, t9, u6, u7, u8, rfl⟩ := hM
  obtain ⟨fh1, fh2, fh3, fh4, ft1, ft2, ft3, ft4, rfl⟩ := hf3
  have HN1 := news_add (List.Mem.head _) (news_add (List.Mem.tail _ (List.Mem.head _)) (news_add (List.Mem.tail _ (List.Mem.tail _ hpt)) (news_add (List.Mem.tail _ (List.Mem.tail _ hk1)) (news_add (List.Mem.tail _ (List.Mem.tail _ hk4)) (news_add (List.Mem.tail _ (List.Mem.tail _ hk5)) (news_add (List.Mem.tail _ (List.Mem.tail _ hf1)) (news_add (List.Mem.tail _ (List.Mem.tail _ hf2)) (fun q hq => HN q (List.Mem.tail _ (List.Mem.tail _ hq))) HN) HN) HN) HN) HN) HN) HN) HN
  clear HN
  have e0 := hap _ hpt
  have e1 := hap _ hk1
  have e2 := hap _ hk4
  have e3 := hap _ hk5
  have e4 := hap _ hf1
  have e5 := hap _ hf2
  dsimp only at e0 e1 e2 e3 e4 e5
  have hlk : PySem.Spec.lookup (encTuple mixEnc [.inl (Str.ofString "order"), .inr n]) (PyProof.V.putD (encTuple mixEnc [.inl (Str.ofString "order"), .inr 2]) (.int 5) (PyProof.V.putD (encTuple mixEnc [.inl (Str.ofString "order"), .inr 1]) (.int 2) [])) = some (.int tg) := by rcases hn with ⟨rfl, rfl⟩ | ⟨rfl, rfl⟩ <;> kernel_rfl
  refine frLet HF ?_
  intro mk HF9
  clear HF
  refine ledLet (by with_reducible assumption) ?_
  intro nk HN9
  k_steps
  all_goals (refine' hret _ _ _ _ _ ⟨_, rfl, rfl, ?m⟩ ?bas ?led
             case led => k_extra "Z0"
             case bas => k_asm
             case m => first | exact isMach_t (by assumption) isMach_mk | exact isMach_f (by assumption) isMach_mk)
theorem c_wyJ {w : World} {mean : ExcName → Option Value} {mg mb : Str → Option Value} {mx md rl mk rg fl pl : Nat} {pc od st : Int} {ov : Bool} {d : Obj} {rest : Led}  {om : Obj} {y1 y2 : Nat} {f1 f2 f3 f4 : Tok} {fd : Nat} {df : Obj} {cf zf sf vf : Bool} {pt : Nat} {n tg : Int} {o : Str} {b1 b2 b3 tn : Tok} (hM : IsMach rl mk rg fl pl pc od st ov d) (hpt : (pt, tupO #[.str (condT o) b1, .str (Str.ofString "order") b2, .int n b3]) ∈ rest) (hk1 : (mk, om) ∈ rest) (hk2 : (mk == sysModules) = false) (hk3 : MarkO thePr w [(y2, tupO #[.str (Str.ofString "order") f3, .int 2 f4]), (y1, tupO #[.str (Str.ofString "order") f1, .int 1 f2])] om (PyProof.V.putD (encTuple mixEnc [.inl (Str.ofString "order"), .inr 2]) (.int 5) (PyProof.V.putD (encTuple mixEnc [.inl (Str.ofString "order"), .inr 1]) (.int 2) []))) (hk4 : (y2, tupO #[.str (Str.ofString "order") f3, .int 2 f4]) ∈ rest) (hk5 : (y1, tupO #[.str (Str.ofString "order") f1, .int 1 f2]) ∈ rest) (hf1 : (fl, instObj 506 fd) ∈ rest) (hf2 : (fd, df) ∈ rest) (hf3 : IsFl cf zf sf vf df) (hn : (n = 1 ∧ tg = 2) ∨ (n = 2 ∧ tg = 5)) (ha : md ≠ mx) (hap : ∀ q ∈ rest, q.1 ≠ md) :
   CtC w mean mg mb 24 694 ((mx, instObj 718 md) :: (md, d) :: rest) True [.ref mx, .str (Str.ofString "jcc") tn, .ref pt] (fun v ns => ∃ (d' : Obj), v = .bool true ∧ ns = (mx, instObj 718 md) :: (md, d') :: rest ∧ IsMach rl mk rg fl pl (if (condB (condT o) cf zf sf vf) = true then tg else pc) od st ov d') := by
  k_extra "Z2"
  exact @kap_all S_c_wyJ c_wyJ_k ⟨w, mean, mg, mb, dp, un, gd, outer, A₀, base, h₀, L, s, Q, E⟩ mx md rl mk rg fl pl pc od st ov d rest om y1 y2 f1 f2 f3 f4 fd df cf zf sf vf pt n tg o b1 b2 b3 tn hM hpt hk1 hk2 hk3 hk4 hk5 hf1 hf2 hf3 hn ha hap
def S_c_wyR (kx : Cx) : Prop := ∀ (mx md rl mk rg fl pl : Nat) (pc od st : Int) (ov : Bool) (d : Obj) (rest : Led) (pt pn : Nat) (tn : Tok) (hM : IsMach rl mk rg fl pl pc od st ov d) (hpl : (pl, listOf #[] pn) ∈ rest) (ha : md ≠ mx) (hap : ∀ q ∈ rest, q.1 ≠ md), Bd kx 23 (Str.ofString "PlainRows.way_row") (methScope "PlainRows" "way_row") 694 693 (methBody "PlainRows" "way_row") (fun yq => [(Str.ofString "self", (.ref mx : Value)), (Str.ofString "name", (.str (Str.ofString "ret") tn : Value)), (Str.ofString "parts", (.ref pt : Value))].reverse.lookup yq) ((mx, instObj 718 md) :: (md, d) :: rest) (fun v ns => ∃ (d' : Obj), v = .bool true ∧ ns = (mx, instObj 718 md) :: (md, d') :: rest ∧ IsMach rl mk rg fl pl pc od st true d')
noncomputable def kap_c_wyR : Cx := kapOf S_c_wyR
set_option maxHeartbeats 4000000 in
theorem c_wyR_k : S_c_wyR kap_c_wyR := by
  intro mx md rl mk rg fl pl pc od st ov d rest pt pn tn hM hpl ha hap
  have e1 : (methScope "PlainRows" "way_row") = (methScope "PlainRows" "way_row") := rfl
  conv at e1 => rhs; whnf
  have e2 : (methBody "PlainRows" "way_row") = (methBody "PlainRows" "way_row") := rfl
  conv at e2 => rhs; whnf
  (try dsimp only at e1)
  (try dsimp only at e2)
  refine @bd_lit _ _ _ _ _ _ _ _ _ _ _ _ e1 e2 ?_
  clear e1 e2
  unfold Bd
  k_fill
  intro h tk HB HF HX HN HT hdp hun hE hret
  have HW : Wf kap_c_wyR 23 := ⟨HB, HX, HT, hdp, hun⟩
  obtain ⟨h1, h2, h3, h4, h5, h6, h7, h8, h9, t1, t2, t3, t4, t5, t6, t7, t8, t9, u6, u7, u8, rfl⟩ := hM
  have HN1 := news_add (List.Mem.head _) (news_add (List.Mem.tail _ (List.Mem.head _)) (news_add (List.Mem.tail _ (List.Mem.tail _ hpl)) (fun q hq => HN q (List.Mem.tail _ (List.Mem.tail _ hq))) HN) HN) HN
  clear HN
  have e0 := hap _ hpl
  dsimp only at e0
  refine frLet HF ?_
  intro mk HF9
  clear HF
  refine ledLet (by with_reducible assumption) ?_
  intro nk HN9
  k_steps
  all_goals (refine' hret _ _ _ _ _ ⟨_, rfl, rfl, isMach_mk⟩ ?bas ?led
             case led => k_extra "Z0"
             case bas => k_asm)
theorem c_wyR {w : World} {mean : ExcName → Option Value} {mg mb : Str → Option Value} {mx md rl mk rg fl pl : Nat} {pc od st : Int} {ov : Bool} {d : Obj} {rest : Led}  {pt pn : Nat} {tn : Tok} (hM : IsMach rl mk rg fl pl pc od st ov d) (hpl : (pl, listOf #[] pn) ∈ rest) (ha : md ≠ mx) (hap : ∀ q ∈ rest, q.1 ≠ md) :
   CtC w mean mg mb 24 694 ((mx, instObj 718 md) :: (md, d) :: rest) True [.ref mx, .str (Str.ofString "ret") tn, .ref pt] (fun v ns => ∃ (d' : Obj), v = .bool true ∧ ns = (mx, instObj 718 md) :: (md, d') :: rest ∧ IsMach rl mk rg fl pl pc od st true d') := by
  k_extra "Z2"
  exact @kap_all S_c_wyR c_wyR_k ⟨w, mean, mg, mb, dp, un, gd, outer, A₀, base, h₀, L, s, Q, E⟩ mx md rl mk rg fl pl pc od st ov d rest pt pn tn hM hpl ha hap
example : True := by
  k_with "off E6" => skip
  trivial
end
section
set_option maxHeartbeats 1000000
example : True := by
  k_with ".subscriptTail Attribute Name" => ((fail_if_success k_extra "off E7"); (k_here; (with_reducible show wpAny _ _ (subscriptTail _ _ (Value.ref _) (Value.int _ _)) _ _ _); k_dflt (refine' item_intsG ?NDl ?hmDl ?hIDl ?h0Dl ?hkDl ?hszDl (fun _ => ?_) ?hsDl; (case NDl => k_asm); (case hIDl => assumption); (case hmDl => (repeat (first | exact List.Mem.head _ | assumption | refine List.Mem.tail _ ?_))); (case h0Dl => first | assumption | omega); (case hkDl => first | assumption | omega); (case hszDl => omega); (case hsDl => with_unfolding_all rfl))))
  trivial
theorem c_mvM_i {mx md rg : Nat} {rest : Led} {xs : List Int} {n : Int} {h₀ : Heap} {L : Addr} {m : Str → Option Value} {s : Shared} {Q : Value → Shared → Prop}
   (kk9 : ∀ v news' h' tk', (fun (v : Value) (ns : Led) => ∃ (vs' : List Value) (n' : Nat), v = .bool true ∧ ns = (mx, instObj 718 md) :: (rg, listOf vs'.toArray n') :: rest ∧ IntsAre vs' (xs.set 9 n)) v news' → Fr h₀ L h' m → News h₀ L h' news' → Q v { s with heap := h', toks := tk' }) :
   ∀ (vs' : List Value) (n' : Nat) (h' : Heap) (tk' : Nat), (IntsAre vs' (xs.set 9 n)) → Fr h₀ L h' m → News h₀ L h' ((mx, instObj 718 md) :: (rg, listOf vs'.toArray n') :: rest) → Q (.bool true) { s with heap := h', toks := tk' } := by
  intro vs' n' h' tk' f09 F N
  exact kk9 _ _ _ _ ⟨vs', n', rfl, rfl, f09⟩ F N
def S_c_mvM (kx : Cx) : Prop := ∀ (mx md rl mk rg fl pl rn : Nat) (pc od st : Int) (ov : Bool) (d : Obj) (rest : Led) (vs : List Value) (xs : List Int) (pt : Nat) (n : Int) (e1 e2 e3 tn : Tok) (hM : IsMach rl mk rg fl pl pc od st ov d) (hpt : (pt, tupO #[.int 32 e1, .int 9 e2, .int n e3]) ∈ rest) (hmd : (md, d) ∈ rest) (hI : IntsAre vs xs) (hlen : xs.length = 16) (hn0 : 0 ≤ n) (hn1 : n < 4294967296) (ha : rg ≠ mx) (hap : ∀ q ∈ rest, q.1 ≠ rg), Bd kx 31 (Str.ofString "PlainRows.move_row") (methScope "PlainRows" "move_row") 652 651 (methBody "PlainRows" "move_row") (fun yq => [(Str.ofString "self", (.ref mx : Value)), (Str.ofString "name", (.str (Str.ofString "mov_imm") tn : Value)), (Str.ofString "parts", (.ref pt : Value))].reverse.lookup yq) ((mx, instObj 718 md) :: (rg, listOf vs.toArray rn) :: rest) (fun v ns => ∃ (vs' : List Value) (n' : Nat), v = .bool true ∧ ns = (mx, instObj 718 md) :: (rg, listOf vs'.toArray n') :: rest ∧ IntsAre vs' (xs.set 9 n))
noncomputable def kap_c_mvM : Cx := kapOf S_c_mvM
set_option maxHeartbeats 4000000 in
theorem c_mvM_k : S_c_mvM kap_c_mvM := by
  intro mx md rl mk rg fl pl rn pc od st ov d rest vs xs pt n e1 e2 e3 tn hM hpt hmd hI hlen hn0 hn1 ha hap
  have e1 : (methScope "PlainRows" "move_row") = (methScope "PlainRows" "move_row") := rfl
  conv at e1 => rhs; whnf
  have e2 : (methBody "PlainRows" "move_row") = (methBody "PlainRows" "move_row") := rfl
  conv at e2 => rhs; whnf
  (try dsimp only at e1)
  (try dsimp only at e2)
  refine @bd_lit _ _ _ _ _ _ _ _ _ _ _ _ e1 e2 ?_
  clear e1 e2
  unfold Bd
  k_fill
  intro h tk HB HF HX HN HT hdp hun hE hret
  have HW : Wf kap_c_mvM 31 := ⟨HB, HX, HT, hdp, hun⟩
  replace hret := fun mq => c_mvM_i (hret mq)
  obtain ⟨h1, h2, h3, h4, h5, h6, h7, h8, h9, t1, t2, t3, t4, t5, t6, t7, t8, t9, u6, u7, u8, rfl⟩ := hM
  have HN1 := news_add (List.Mem.head _) (news_add (List.Mem.tail _ (List.Mem.head _)) (news_add (List.Mem.tail _ (List.Mem.tail _ hpt)) (news_add (List.Mem.tail _ (List.Mem.tail _ hmd)) (fun q hq => HN q (List.Mem.tail _ (List.Mem.tail _ hq))) HN) HN) HN) HN
  clear HN
  have e0 := hap _ hpt
  have e1' := hap _ hmd
  dsimp only at e0 e1'
  have en : n.fmod (pw 32) = n := by
    show n.fmod 4294967296 = n
    rw [Int.fmod_eq_emod_of_nonneg _ (by decide)]; omega
  refine frLet HF ?_
  intro mk HF9
  clear HF
  refine ledLet (by with_reducible assumption) ?_
  intro nk HN9
  k_steps
  all_goals (refine' hret _ _ _ _ _ ?i ?bas ?led
             case led => k_extra "Z0"
             case bas => k_asm
             case i => exact Eq.mp (congrArg (fun z => IntsAre _ (xs.set 9 z)) en) (ints_set hI 9))
theorem c_mvM {w : World} {mean : ExcName → Option Value} {mg mb : Str → Option Value} {mx md rl mk rg fl pl rn : Nat} {pc od st : Int} {ov : Bool} {d : Obj} {rest : Led} {vs : List Value} {xs : List Int} {pt : Nat} {n : Int} {e1 e2 e3 tn : Tok} (hM : IsMach rl mk rg fl pl pc od st ov d) (hpt : (pt, tupO #[.int 32 e1, .int 9 e2, .int n e3]) ∈ rest) (hmd : (md, d) ∈ rest) (hI : IntsAre vs xs) (hlen : xs.length = 16) (hn0 : 0 ≤ n) (hn1 : n < 4294967296) (ha : rg ≠ mx) (hap : ∀ q ∈ rest, q.1 ≠ rg) :
   CtC w mean mg mb 32 652 ((mx, instObj 718 md) :: (rg, listOf vs.toArray rn) :: rest) True [.ref mx, .str (Str.ofString "mov_imm") tn, .ref pt] (fun v ns => ∃ (vs' : List Value) (n' : Nat), v = .bool true ∧ ns = (mx, instObj 718 md) :: (rg, listOf vs'.toArray n') :: rest ∧ IntsAre vs' (xs.set 9 n)) := by
  k_extra "Z2"
  exact @kap_all S_c_mvM c_mvM_k ⟨w, mean, mg, mb, dp, un, gd, outer, A₀, base, h₀, L, s, Q, E⟩ mx md rl mk rg fl pl rn pc od st ov d rest vs xs pt n e1 e2 e3 tn hM hpt hmd hI hlen hn0 hn1 ha hap
example : True := by
  k_with "off E7" => skip
  trivial
end
section
set_option maxHeartbeats 1000000
example : True := by
  k_with "nolean" => fail_if_success k_extra "off E8d"
  trivial
def FlagRow (w : World) (mean : ExcName → Option Value) (mg mb : Str → Option Value) (nm : Str) (vp : Array Value) (xs : List Int) (cf zf sf vf : Bool) : Prop :=
  ∀ (mx md rl mk rg fl pl rn pt : Nat) (pc od st : Int) (ov : Bool) (d : Obj) (vs : List Value) (rest : Led) (tn : Tok), IsMach rl mk rg fl pl pc od st ov d → (rg, listOf vs.toArray rn) ∈ rest → (pt, tupO vp) ∈ rest → IntsAre vs xs → md ≠ mx → (∀ q ∈ rest, q.1 ≠ md) →
    CtC w mean mg mb 40 659 ((mx, instObj 718 md) :: (md, d) :: rest) True [.ref mx, .str nm tn, .ref pt] (fun v ns => ∃ (fx fd : Nat) (d' df : Obj), v = .bool true ∧ ns = (mx, instObj 718 md) :: (md, d') :: (fx, instObj 506 fd) :: (fd, df) :: rest ∧
      IsMach rl mk rg fx pl pc od st ov d' ∧ IsFl cf zf sf vf df ∧ AllLt fx ((mx, instObj 718 md) :: (md, d) :: rest) ∧ AllLt fd ((mx, instObj 718 md) :: (md, d) :: rest) ∧ fd ≠ fx)
example : True := by
  k_with "off E8d" => skip
  trivial
end
section
set_option maxHeartbeats 1000000
example : True := by
  k_with ".subscriptTail Attribute Name" => ((fail_if_success k_extra "off E9S"); (k_here; (with_reducible show wpAny _ _ (subscriptTail _ _ (Value.ref _) (Value.int _ _)) _ _ _); k_dflt (refine' item_at ?NDm ?hmDm ?h0Dm ?hkDm ?hxDm ?_ ?hsDm; (case NDm => k_asm); (case hmDm => (repeat (first | exact List.Mem.head _ | refine List.Mem.tail _ ?_))); (case hxDm => assumption); (case h0Dm => assumption); (case hkDm => omega); (case hsDm => with_unfolding_all rfl))))
  k_with ".pyIter ref" => ((fail_if_success k_extra "off E9S"); (k_here; (with_reducible show wpAny _ _ (pyIter (Value.ref _)) (fun it s₂ => TurnsAt _ _ _ _ _ _ _ _ _ it s₂) _ _); k_dflt (refine' iter_tupTurns ?hhDn ?FDn ?NDn ?hmDn ?hcDn ?hdDn (fun I l1 => (have l2 := l1; ?_)); (case hhDn => rfl); (case FDn => k_asm); (case NDn => k_asm); (case hmDn => (repeat (first | exact List.Mem.head _ | refine List.Mem.tail _ ?_))); (case hcDn => rfl); (case hdDn => rfl)); (try dsimp only [List.map]); (try k_lt l1)))
  trivial
theorem do_use (x : Cx) (cn : Str) (cs : Scope) (a : Addr) (ccd : Value) (cl : List (Str × Addr)) (hk : cs.kind = .function) {D : Nat} (W : Wf x D) (hD : Nat.ble 65 D = true) {mx md rl mk rg fl pl r : Nat} {pc od st : Int} {rest nk : Led} {Rt : Led → Prop} {m : Str → Option Value} {tk : Nat} {h : Heap} {Q E : Value → Shared → Prop} {d1 : Obj}
    (hd : ∀ d1, IsMach rl mk rg fl pl pc od st false d1 → Ct x.w x.mean x.mg x.mb 65 701 ((mx, instObj 718 md) :: (md, d1) :: rest) True [.ref mx, .ref r] (fun v ns => v = .none ∧ Rt ns)) (M : IsMach rl mk rg fl pl pc od st false d1)
    (F : Fr x.h₀ x.L h m) (N : News x.h₀ x.L h nk) (zs : ∀ q ∈ (mx, instObj 718 md) :: (md, d1) :: rest, q ∈ nk) (k : ∀ nw' h' tk', Rt nw' → Fr x.h₀ x.L h' m → News x.h₀ x.L h' nw' → Q .none (kSt x h' tk')) :
    wpAny (kMd x) (kAr x (envX cn cs x.L a ccd cl)) (call (.ref 701) [.ref mx, .ref r]) Q E (kSt x h tk) := cv_use x cn cs a ccd cl hk W hD (hd d1 M) F (fun q hq => N q (zs q hq)) (fun v nw' h' tk' r F' N' => by obtain ⟨rfl, r⟩ := r; exact k nw' h' tk' r F' N')
example : True := by
  k_with ".call ref" => (k_here; (with_reducible show wpAny _ _ (call (Value.ref 701) _) _ _ _); k_dflt (refine' do_use _ _ _ _ _ _ ?kkDo ?WDo ?hDDo ?hdDo ?MDo ?kFDo ?kNDo ?zsDo ?_; (case hdDo => assumption); (case kNDo => k_asm); (case zsDo => exact fun q hq => memDrop 1 rfl hq); (case MDo => exact isMach_mk); (case kkDo => exact rfl); (case WDo => assumption); (case hDDo => exact rfl); (case kFDo => k_asm); (intro nk9Z h9Z tk9Z hR9Z F9Z N9Z)))
  trivial
def S_c_step (kx : Cx) : Prop := ∀ (mx md rl mk rg fl pl : Nat) (pc od st : Int) (d : Obj) (rest : Led) (r0 r1 r2 r3 r4 r5 r6 r7 ln r : Nat) (Rt : Led → Prop) (hM : IsMach rl mk rg fl pl pc od st false d) (hrl : (rl, listOf #[.ref r0, .ref r1, .ref r2, .ref r3, .ref r4, .ref r5, .ref r6, .ref r7] ln) ∈ rest) (hx : ([.ref r0, .ref r1, .ref r2, .ref r3, .ref r4, .ref r5, .ref r6, .ref r7] : List Value)[pc.toNat]? = some (.ref r)) (hpc0 : 0 ≤ pc) (hpc1 : pc < 8) (hdo : ∀ d1, IsMach rl mk rg fl pl (pc + 1) od st false d1 → Ct kx.w kx.mean kx.mg kx.mb 65 701 ((mx, instObj 718 md) :: (md, d1) :: rest) True [.ref mx, .ref r] (fun v ns => v = .none ∧ Rt ns)) (ha : md ≠ mx) (hap : ∀ q ∈ rest, q.1 ≠ md), Bd kx 71 (Str.ofString "PlainRows.step") (methScope "PlainRows" "step") 708 707 (methBody "PlainRows" "step") (fun yq => [(Str.ofString "self", (.ref mx : Value))].reverse.lookup yq) ((mx, instObj 718 md) :: (md, d) :: rest) (fun v ns => v = .none ∧ Rt ns)
noncomputable def kap_c_step : Cx := kapOf S_c_step
set_option maxHeartbeats 4000000 in
theorem c_step_k : S_c_step kap_c_step := by
  intro mx md rl mk rg fl pl pc od st d rest r0 r1 r2 r3 r4 r5 r6 r7 ln r Rt hM hrl hx hpc0 hpc1 hdo ha hap
  have e1 : (methScope "PlainRows" "step") = (methScope "PlainRows" "step") := rfl
  conv at e1 => rhs; whnf
  have e2 : (methBody "PlainRows" "step") = (methBody "PlainRows" "step") := rfl
  conv at e2 => rhs; whnf
  (try dsimp only at e1)
  (try dsimp only at e2)
  refine @bd_lit _ _ _ _ _ _ _ _ _ _ _ _ e1 e2 ?_
  clear e1 e2
  unfold Bd
  k_fill
  intro h tk HB HF HX HN HT hdp hun hE hret
  have HW : Wf kap_c_step 71 := ⟨HB, HX, HT, hdp, hun⟩
  obtain ⟨h1, h2, h3, h4, h5, h6, h7, h8, h9, t1, t2, t3, t4, t5, t6, t7, t8, t9, u6, u7, u8, rfl⟩ := hM
  have HN1 := news_add (List.Mem.tail _ (List.Mem.tail _ hrl)) HN HN
  clear HN
  have e3 := hap _ hrl
  dsimp only at e3
  refine frLet HF ?_
  intro mk HF9
  clear HF
  refine ledLet (by with_reducible assumption) ?_
  intro nk HN9
  k_steps
  all_goals exact hret _ _ _ _ _ ⟨rfl, by assumption⟩ (by k_asm) (by k_asm)
theorem c_step {w : World} {mean : ExcName → Option Value} {mg mb : Str → Option Value} {mx md rl mk rg fl pl : Nat} {pc od st : Int} {d : Obj} {rest : Led} {r0 r1 r2 r3 r4 r5 r6 r7 ln r : Nat} {Rt : Led → Prop} (hM : IsMach rl mk rg fl pl pc od st false d) (hrl : (rl, listOf #[.ref r0, .ref r1, .ref r2, .ref r3, .ref r4, .ref r5, .ref r6, .ref r7] ln) ∈ rest) (hx : ([.ref r0, .ref r1, .ref r2, .ref r3, .ref r4, .ref r5, .ref r6, .ref r7] : List Value)[pc.toNat]? = some (.ref r)) (hpc0 : 0 ≤ pc) (hpc1 : pc < 8) (hdo : ∀ d1, IsMach rl mk rg fl pl (pc + 1) od st false d1 → Ct w mean mg mb 65 701 ((mx, instObj 718 md) :: (md, d1) :: rest) True [.ref mx, .ref r] (fun v ns => v = .none ∧ Rt ns)) (ha : md ≠ mx) (hap : ∀ q ∈ rest, q.1 ≠ md) :
   Ct w mean mg mb 72 708 ((mx, instObj 718 md) :: (md, d) :: rest) True [.ref mx] (fun v ns => v = .none ∧ Rt ns) := by
  k_extra "Z1"
  exact @kap_all S_c_step c_step_k ⟨w, mean, mg, mb, dp, un, gd, outer, A₀, base, h₀, L, s, Q, E⟩ mx md rl mk rg fl pl pc od st d rest r0 r1 r2 r3 r4 r5 r6 r7 ln r Rt hM hrl hx hpc0 hpc1 hdo ha hap
example : True := by
  k_with "off E9S" => skip
  trivial
end
section
set_option maxHeartbeats 1000000
example : True := by
  k_with ".subscriptTail Attribute Name" => ((fail_if_success k_extra "off E9G"); (k_here; (with_reducible show wpAny _ _ (subscriptTail _ _ (Value.ref _) (Value.int _ _)) _ _ _); k_dflt (refine' item_at ?NDp ?hmDp ?h0Dp ?hkDp ?hxDp ?_ ?hsDp; (case NDp => k_asm); (case hmDp => (repeat (first | exact List.Mem.head _ | refine List.Mem.tail _ ?_))); (case hxDp => assumption); (case h0Dp => assumption); (case hkDp => omega); (case hsDp => with_unfolding_all rfl))))
  trivial
theorem unrEndW_1G {h₀ : Heap} {L I : Nat} {q1 : Obj} {keep post : Led} {R : (Str → Option Value) → Led → Prop} {s₁ : Shared} {h' : Heap} {tk : Nat} {m' : Str → Option Value} (F : Fr h₀ L h' m') (N : News h₀ L h' ((I, q1) :: post)) (hl : ∀ p ∈ post, p.1 < I) (hk : SubL keep post) (r : R m' post) :
    UnrEndW h₀ L s₁ [(I, q1)] (fun m' n' => SubL keep n' ∧ R m' n') { s₁ with heap := h', toks := tk } :=
  ⟨h', tk, m', post, rfl, F, N, fun p hp q hq => by
    have h1 := hl p hp
    simp only [List.mem_cons, List.not_mem_nil, or_false] at hq
    subst hq
    exact Nat.ne_of_lt h1, hk, r⟩
example : True := by
  k_with ".pyIter ref" => ((fail_if_success k_extra "off E9G"); (k_here; (with_reducible show wpAny _ _ (pyIter (Value.ref _)) (fun it s₂ => TurnsAt _ _ _ _ _ _ _ _ _ it s₂) _ _); k_dflt (refine' iter_tupTurns ?hhDq ?FDq ?NDq ?hmDq ?hcDq ?hdDq (fun I l1 => (have l2 := l1; ?_)); (case hhDq => rfl); (case FDq => k_asm); (case NDq => k_asm); (case hmDq => (repeat (first | exact List.Mem.head _ | refine List.Mem.tail _ ?_))); (case hcDq => rfl); (case hdDq => rfl)); (try dsimp only [List.map]); (try k_lt l1)))
  k_with ".UnrEndW" => ((fail_if_success k_extra "off E9G"); (k_dflt (refine' unrEndW_1G ?FDr ?NDr ?lDr ?kDr ?_; (case FDr => k_asm); (case NDr => k_asm); (case lDr => assumption); (case kDr => exact ⟨by (repeat (first | exact List.Mem.head _ | refine List.Mem.tail _ ?_)), trivial⟩))))
  trivial
def tmpO (p : Addr × Obj) : Bool := !(p.2.cls == .type "dict") && !(p.2.cls == .type "list") && !(p.2.cls == .ref 718)
def Deed (w : World) (mean : ExcName → Option Value) (mg mb : Str → Option Value) (D : Nat) (fb : Nat × Bool) (news : Led) (mx : Nat) (nm : Str) (p : Nat) (Rt : Led → Prop) : Prop :=
  ∀ (I : Nat) (o : Obj) (own : Led) (t : Tok), AllLt I news → own.all tmpO = true → CtC w mean mg mb D fb.1 ((I, o) :: (own ++ news)) True [.ref mx, .str nm t, .ref p] (fun v ns => v = .bool fb.2 ∧ (fb.2 = false → ns = (I, o) :: (own ++ news)) ∧ (fb.2 = true → ∃ n2, ns = (I, o) :: (own ++ n2) ∧ Rt n2))
theorem deed_no {b0 b1 b2 b3 b4 : Bool} (hb : (b0 || b1 || b2 || b3 || b4) = true) (h0 : b0 = false) (h1 : b1 = false) (h2 : b2 = false) (h3 : b3 = false) (h4 : b4 = false) : False := by
  subst h0 h1 h2 h3 h4; exact Bool.noConfusion hb
theorem deed_g1 {b0 : Bool} (h0 : b0 = false) : (!b0) = true := by subst h0; rfl
theorem deed_g2 {b0 b1 : Bool} (h0 : b0 = false) (h1 : b1 = false) : (!b0 && !b1) = true := by subst h0 h1; rfl
theorem deed_g3 {b0 b1 b2 : Bool} (h0 : b0 = false) (h1 : b1 = false) (h2 : b2 = false) : (!b0 && !b1 && !b2) = true := by subst h0 h1 h2; rfl
theorem deed_g4 {b0 b1 b2 b3 : Bool} (h0 : b0 = false) (h1 : b1 = false) (h2 : b2 = false) (h3 : b3 = false) : (!b0 && !b1 && !b2 && !b3) = true := by subst h0 h1 h2 h3; rfl
theorem deed_v (kx : Cx) (cn8 : Str) (cs8 : Scope) (a8 : Addr) (ccd8 : Value) (cl8 : List (Str × Addr)) (zk : cs8.kind = .function) {D8 : Nat} (zW : Wf kx D8) (zD : Nat.ble 60 D8 = true) {f mx md p q8 I : Nat} {o d1 : Obj} {nm : Str} {t : Tok} {b : Bool} {Rt : Led → Prop} {rest nk X : Led} {m8 : Str → Option Value} {h9 : Heap} {tk9 : Nat} {Q8 E8 : Value → Shared → Prop} (k : Nat)
   (zF : Fr kx.h₀ kx.L h9 m8) (zN : News kx.h₀ kx.L h9 nk) (zq : (q8, methodObj (.ref f) (.ref mx)) ∈ nk) (hX : ∀ q ∈ X, q ∈ rest) (e : nk = (I, o) :: (nk.tail.take k ++ (X ++ (mx, instObj 718 md) :: (md, d1) :: rest))) (zo : (nk.tail.take k).all tmpO = true) (zI : ∀ p ∈ nk.tail, p.1 < I) {g : Bool} {bs : List (Nat × Bool × Bool)} {rl mk rg fl pl : Nat} {pc od st : Int} {vp : Array Value} (hD : ∀ d1 p, IsMach rl mk rg fl pl pc od st false d1 → (p, tupO vp) ∈ rest → ∀ fb ∈ bs, fb.2.2 = true → Deed kx.w kx.mean kx.mg kx.mb 60 (fb.1, fb.2.1) ((mx, instObj 718 md) :: (md, d1) :: rest) mx nm p Rt) (M : IsMach rl mk rg fl pl pc od st false d1) (qc : (p, tupO vp) ∈ rest) (hm : (f, b, g) ∈ bs) (hg : g = true)
   (kf : b = false → ∀ (h' : Heap) (tk' : Nat), Fr kx.h₀ kx.L h' m8 → News kx.h₀ kx.L h' nk → Q8 (.bool false) (kSt kx h' tk'))
   (kt : b = true → ∀ (n2 : Led) (h' : Heap) (tk' : Nat), Rt n2 → Fr kx.h₀ kx.L h' m8 → News kx.h₀ kx.L h' n2 → Q8 (.bool true) (kSt kx h' tk')) :
   wpAny (kMd kx) (kAr kx (envX cn8 cs8 kx.L a8 ccd8 cl8)) (call (.ref q8) [.str nm t, .ref p]) Q8 E8 (kSt kx h9 tk9) := by
  have ht : nk.tail = nk.tail.take k ++ (X ++ (mx, instObj 718 md) :: (md, d1) :: rest) := (congrArg List.tail e)
  refine ctc_meth (hD d1 p M qc (f, b, g) hm hg I o (nk.tail.take k) t (allLt_of fun q hq => zI q (ht ▸ List.mem_append_right _ (List.mem_append_right _ hq))) zo) zN zq zW.B zF zW.X (fun q hq => zN q ?_) zW.T zk trivial (Nat.lt_of_le_of_lt (Nat.add_le_add_left (Nat.le_of_ble_eq_true zD) _) zW.d) (Nat.lt_of_le_of_lt (Nat.add_le_add_left (Nat.mul_le_mul_left 8 (Nat.le_of_ble_eq_true zD)) _) zW.u) ?_
  · rw [e]
    rcases List.mem_cons.mp hq with h | h
    · exact h ▸ .head _
    · refine .tail _ ((List.mem_append.mp h).elim (List.mem_append_left _) fun h => List.mem_append_right _ (List.mem_append_right _ h))
  rintro v ns h' tk' ⟨rfl, e1, e2⟩ F N
  cases b with
  | false =>
    obtain rfl := e1 rfl
    refine kf rfl _ _ F fun q hq => N q ?_
    rw [e] at hq
    rcases List.mem_cons.mp hq with h | h
    · exact h ▸ .head _
    · refine .tail _ ((List.mem_append.mp h).elim (List.mem_append_left _) fun h => List.mem_append_right _ ((List.mem_append.mp h).elim (fun h => .tail _ (.tail _ (hX q h))) id))
  | true => obtain ⟨n2, rfl, r⟩ := e2 rfl; exact kt rfl _ _ _ r F fun q hq => N q (.tail _ (List.mem_append_right _ hq))
example : True := by
  k_with ".call ref" => (k_here; (with_reducible show wpAny _ _ (call (Value.ref _) [Value.str _ _, Value.ref _]) _ _ _); first | (exfalso; exact deed_no (by assumption) (by assumption) (by assumption) (by assumption) (by assumption) (by assumption)) | (k_dflt (refine' deed_v _ _ _ _ _ _ ?kkDs ?WDs ?hDDs 9 ?kFDs ?kNDs ?zqDs ?hXDs ?eDs ?zoDs ?zIDs ?hcDs ?MDs ?qcDs ?hmDs ?hgDs ?_ ?_; (case kNDs => k_asm); (case zqDs => k_mem); (case hXDs => assumption); (case eDs => exact rfl); (case zoDs => exact rfl); (case zIDs => assumption); (case hcDs => assumption); (case qcDs => assumption); (case MDs => exact isMach_mk); (case hmDs => (first | exact .head _ | exact .tail _ (.head _) | exact .tail _ (.tail _ (.head _)) | exact .tail _ (.tail _ (.tail _ (.head _))) | exact .tail _ (.tail _ (.tail _ (.tail _ (.head _)))))); (case hgDs => (first | exact rfl | exact deed_g1 (by assumption) | exact deed_g2 (by assumption) (by assumption) | exact deed_g3 (by assumption) (by assumption) (by assumption) | exact deed_g4 (by assumption) (by assumption) (by assumption) (by assumption))); (case kkDs => exact rfl); (case WDs => assumption); (case hDDs => exact rfl); (case kFDs => k_asm); all_goals intros)))
  trivial
def S_c_doG (kx : Cx) : Prop := ∀ (mx md rl mk rg fl pl : Nat) (pc od st : Int) (d : Obj) (rest : Led) (r : Nat) (T : Led) (nm : Str) (vp : Array Value) (b0 b1 b2 b3 b4 : Bool) (Rt : Led → Prop) (hM : IsMach rl mk rg fl pl pc od st false d) (hr : IsRw nm vp r T) (hT : ∀ q ∈ T, q ∈ rest) (hmk : isMk nm = false) (hno : (nm == Str.ofString "order") = false) (hb : (b0 || b1 || b2 || b3 || b4) = true) (hc : ∀ d1 p, IsMach rl mk rg fl pl pc od (st + 1) false d1 → (p, tupO vp) ∈ rest → ∀ fb ∈ [(652, b0, true), (659, b1, !b0), (666, b2, !b0 && !b1), (673, b3, !b0 && !b1 && !b2), (694, b4, !b0 && !b1 && !b2 && !b3)], fb.2.2 = true → Deed kx.w kx.mean kx.mg kx.mb 60 (fb.1, fb.2.1) ((mx, instObj 718 md) :: (md, d1) :: rest) mx nm p Rt) (ha : md ≠ mx) (hap : ∀ q ∈ rest, q.1 ≠ md), Bd kx 64 (Str.ofString "PlainRows.do_row") (methScope "PlainRows" "do_row") 701 700 (methBody "PlainRows" "do_row") (fun yq => [(Str.ofString "self", (.ref mx : Value)), (Str.ofString "row", (.ref r : Value))].reverse.lookup yq) ((mx, instObj 718 md) :: (md, d) :: rest) (fun v ns => v = .none ∧ Rt ns)
noncomputable def kap_c_doG : Cx := kapOf S_c_doG
set_option maxHeartbeats 4000000 in
theorem c_doG_k : S_c_doG kap_c_doG := by
  intro mx md rl mk rg fl pl pc od st d rest r T nm vp b0 b1 b2 b3 b4 Rt hM hr hT hmk hno hb hc ha hap
  have e1 : (methScope "PlainRows" "do_row") = (methScope "PlainRows" "do_row") := rfl
  conv at e1 => rhs; whnf
  have e2 : (methBody "PlainRows" "do_row") = (methBody "PlainRows" "do_row") := rfl
  conv at e2 => rhs; whnf
  (try dsimp only at e1)
  (try dsimp only at e2)
  refine @bd_lit _ _ _ _ _ _ _ _ _ _ _ _ e1 e2 ?_
  clear e1 e2
  unfold Bd
  k_fill
  intro h tk HB HF HX HN HT hdp hun hE hret
  have HW : Wf kap_c_doG 64 := ⟨HB, HX, HT, hdp, hun⟩
  obtain ⟨h1, h2, h3, h4, h5, h6, h7, h8, h9, t1, t2, t3, t4, t5, t6, t7, t8, t9, u6, u7, u8, rfl⟩ := hM
  obtain ⟨rd, rp, ka, kb, ta, tb, tc, rfl⟩ := hr
  have qa := hT _ (.head _)
  have qb := hT _ (.tail _ (.head _))
  have qc := hT _ (.tail _ (.tail _ (.head _)))
  have HN1 := news_add (List.Mem.tail _ (List.Mem.tail _ qa)) (news_add (List.Mem.tail _ (List.Mem.tail _ qb)) (news_add (List.Mem.tail _ (List.Mem.tail _ qc)) HN HN) HN) HN
  clear HN
  have e0 := hap _ qa
  have e1 := hap _ qb
  have e2 := hap _ qc
  dsimp only at e0 e1 e2
  have hmk2 := hmk
  unfold isMk at hmk2
  refine frLet HF ?_
  intro mk HF9
  clear HF
  refine ledLet (by with_reducible assumption) ?_
  intro nk HN9
  k_steps
  all_goals exact hret _ _ _ _ _ ⟨rfl, by assumption⟩ (by k_asm) (by k_asm)
theorem c_doG {w : World} {mean : ExcName → Option Value} {mg mb : Str → Option Value} {mx md rl mk rg fl pl : Nat} {pc od st : Int} {d : Obj} {rest : Led} {r : Nat} {T : Led} {nm : Str} {vp : Array Value} {b0 b1 b2 b3 b4 : Bool} {Rt : Led → Prop} (hM : IsMach rl mk rg fl pl pc od st false d) (hr : IsRw nm vp r T) (hT : ∀ q ∈ T, q ∈ rest) (hmk : isMk nm = false) (hno : (nm == Str.ofString "order") = false) (hb : (b0 || b1 || b2 || b3 || b4) = true) (hc : ∀ d1 p, IsMach rl mk rg fl pl pc od (st + 1) false d1 → (p, tupO vp) ∈ rest → ∀ fb ∈ [(652, b0, true), (659, b1, !b0), (666, b2, !b0 && !b1), (673, b3, !b0 && !b1 && !b2), (694, b4, !b0 && !b1 && !b2 && !b3)], fb.2.2 = true → Deed w mean mg mb 60 (fb.1, fb.2.1) ((mx, instObj 718 md) :: (md, d1) :: rest) mx nm p Rt) (ha : md ≠ mx) (hap : ∀ q ∈ rest, q.1 ≠ md) :
   Ct w mean mg mb 65 701 ((mx, instObj 718 md) :: (md, d) :: rest) True [.ref mx, .ref r] (fun v ns => v = .none ∧ Rt ns) := by
  k_extra "Z1"
  exact @kap_all S_c_doG c_doG_k ⟨w, mean, mg, mb, dp, un, gd, outer, A₀, base, h₀, L, s, Q, E⟩ mx md rl mk rg fl pl pc od st d rest r T nm vp b0 b1 b2 b3 b4 Rt hM hr hT hmk hno hb hc ha hap
example : True := by
  k_with "off E9G" => skip
  trivial
end
section
set_option maxHeartbeats 1000000
section
variable {w : World} {mean : ExcName → Option Value} {mg mb : Str → Option Value}
example : True := by
  k_with "nolean" => fail_if_success k_extra "off E9A"
  k_with ".subscriptTail Attribute Name" => ((fail_if_success k_extra "off E9A"); (k_here; (with_reducible show wpAny _ _ (subscriptTail _ _ (Value.ref _) (Value.int _ _)) _ _ _); k_dflt (refine' item_at ?NDt ?hmDt ?h0Dt ?hkDt ?hxDt ?_ ?hsDt; (case NDt => k_asm); (case hmDt => (repeat (first | exact List.Mem.head _ | refine List.Mem.tail _ ?_))); (case hxDt => assumption); (case h0Dt => assumption); (case hkDt => omega); (case hsDt => with_unfolding_all rfl))))
  trivial
theorem ctc_up {D D' f : Nat} {news : Led} {vs : List Value} {Ret : Value → Led → Prop} (h : Nat.ble D' D = true) (C : CtC w mean mg mb D' f news True vs Ret) : CtC w mean mg mb D f news True vs Ret :=
  fun dp un gd cn cs a ccd cl outer A₀ base h₀ L m s Q E B F X N T hk hp hd hu hR => C dp un gd cn cs a ccd cl outer A₀ base h₀ L m s Q E B F X N T hk hp (Nat.lt_of_le_of_lt (Nat.add_le_add_left (Nat.le_of_ble_eq_true h) _) hd) (Nat.lt_of_le_of_lt (Nat.add_le_add_left (Nat.mul_le_mul_left 8 (Nat.le_of_ble_eq_true h)) _) hu) hR
theorem ctc_perm {D f : Nat} {n1 n2 : Led} {vs : List Value} {R1 R2 : Value → Led → Prop} (hs : ∀ q ∈ n1, q ∈ n2) (hr : ∀ v k1, R1 v k1 → ∃ k2, R2 v k2 ∧ ∀ q ∈ k2, q ∈ k1) (C : (∃ h₀ L h, News h₀ L h n2) → CtC w mean mg mb D f n1 True vs R1) : CtC w mean mg mb D f n2 True vs R2 :=
  fun dp un gd cn cs a ccd cl outer A₀ base h₀ L m s Q E B F X N T hk hp hd hu hR => C ⟨_, _, _, N⟩ dp un gd cn cs a ccd cl outer A₀ base h₀ L m s Q E B F X (fun q hq => N q (hs q hq)) T hk hp hd hu (fun v k1 h' tk' r F' N' => by obtain ⟨k2, r2, s2⟩ := hr v k1 r; exact hR v k2 h' tk' r2 F' (fun q hq => N' q (s2 q hq)))
theorem ct_ret {D f : Nat} {news : Led} {vs : List Value} {R1 R2 : Value → Led → Prop} (hr : ∀ v n, R1 v n → R2 v n) (C : Ct w mean mg mb D f news True vs R1) : Ct w mean mg mb D f news True vs R2 :=
  fun dp un gd cn cs a ccd cl outer A₀ base h₀ L m s Q E B F X N T hk hp hd hu hR => C dp un gd cn cs a ccd cl outer A₀ base h₀ L m s Q E B F X N T hk hp hd hu (fun v n h' tk' r => hR v n h' tk' (hr v n r))
theorem tmp_ne {own rest : Led} {I a : Nat} {o d : Obj} (hN : ∃ h₀ L h, News h₀ L h ((I, o) :: (own ++ rest))) (ho : own.all tmpO = true) (hI : AllLt I rest) (hm : (a, d) ∈ rest) (hd : tmpO (a, d) = false) : ∀ q ∈ (I, o) :: own, q.1 ≠ a := by
  obtain ⟨h₀, L, h, N⟩ := hN
  intro q hq e
  rcases List.mem_cons.mp hq with k | k
  · subst k; exact Nat.ne_of_lt (allLt_get hI _ hm) e.symm
  · have h1 := (N q (.tail _ (List.mem_append_left _ k))).1
    have h2 := (N (a, d) (.tail _ (List.mem_append_right _ hm))).1
    rw [e] at h1
    have h3 : q.2 = d := Option.some.inj (h1.symm.trans h2)
    have h4 : q = (a, d) := Prod.ext e h3
    rw [← h4] at hd
    exact Bool.noConfusion ((List.all_eq_true.mp ho q k).symm.trans hd)
theorem deed_f {D' f : Nat} {news : Led} {mx p : Nat} {nm : Str} {Rt : Led → Prop} (hD : Nat.ble D' 60 = true) (C : ∀ (ns : Led) (t : Tok), CtC w mean mg mb D' f ns True [.ref mx, .str nm t, .ref p] (fun v n => v = .bool false ∧ n = ns)) : Deed w mean mg mb 60 (f, false) news mx nm p Rt :=
  fun I o own t _ _ => ctc_up hD (ctc_perm (fun _ h => h) (fun v k r => ⟨k, ⟨r.1, fun _ => r.2, fun e => Bool.noConfusion e⟩, fun _ h => h⟩) (fun _ => C _ t))
theorem deed_t {D' f : Nat} {mx p a : Nat} {d : Obj} {nm : Str} {x : Addr × Obj} {news r2 : Led} {Rt : Led → Prop} (hD : Nat.ble D' 60 = true) (hm : (a, d) ∈ news) (hd : tmpO (a, d) = false) (hs : ∀ q ∈ x :: (a, d) :: r2, q ∈ news)
    (C : ∀ (own : Led) (t : Tok), (∀ q ∈ own, q.1 ≠ a) → CtC w mean mg mb D' f (x :: (a, d) :: (own ++ r2)) True [.ref mx, .str nm t, .ref p] (fun v ns => v = .bool true ∧ ∃ n2, (∀ q ∈ own ++ n2, q ∈ ns) ∧ Rt n2)) : Deed w mean mg mb 60 (f, true) news mx nm p Rt := by
  intro I o own t hI ho
  refine ctc_up hD (ctc_perm (fun q h => ?_) (fun v k r => ?_) (fun hN => C ((I, o) :: own) t (tmp_ne hN ho hI hm hd)))
  · rcases List.mem_cons.mp h with k | h
    · exact .tail _ (List.mem_append_right _ (hs q (k ▸ .head _)))
    rcases List.mem_cons.mp h with k | h
    · exact .tail _ (List.mem_append_right _ (hs q (k ▸ .tail _ (.head _))))
    rcases List.mem_cons.mp h with k | h
    · exact k ▸ .head _
    exact .tail _ ((List.mem_append.mp h).elim (List.mem_append_left _) fun h => List.mem_append_right _ (hs q (.tail _ (.tail _ h))))
  · obtain ⟨r1, n2, r2, r3⟩ := r
    exact ⟨_, ⟨r1, fun e => Bool.noConfusion e, fun _ => ⟨n2, rfl, r3⟩⟩, r2⟩
end
theorem isMach_tmp {rl mk rg fl pl : Nat} {pc od st : Int} {ov : Bool} {d : Obj} {a : Nat} (M : IsMach rl mk rg fl pl pc od st ov d) : tmpO (a, d) = false := by
  obtain ⟨_, _, _, _, _, _, _, _, _, _, _, _, _, _, _, _, _, _, _, _, _, rfl⟩ := M; rfl
theorem all5 {P : Nat × Bool × Bool → Prop} {a b c d e : Nat × Bool × Bool} (h1 : P a) (h2 : P b) (h3 : P c) (h4 : P d) (h5 : P e) : ∀ q ∈ [a, b, c, d, e], P q :=
  List.forall_mem_cons.mpr ⟨h1, List.forall_mem_cons.mpr ⟨h2, List.forall_mem_cons.mpr ⟨h3, List.forall_mem_cons.mpr ⟨h4, List.forall_mem_cons.mpr ⟨h5, fun _ h => nomatch h⟩⟩⟩⟩⟩
theorem app_sub {own k1 r : Led} {n2 ns : Led} (e : ns = k1 ++ (own ++ r)) (e2 : n2 = k1 ++ r) : ∀ q ∈ own ++ n2, q ∈ ns := by
  subst e e2
  intro q h
  rcases List.mem_append.mp h with h | h
  · exact List.mem_append_right _ (List.mem_append_left _ h)
  · exact (List.mem_append.mp h).elim (List.mem_append_left _) fun h => List.mem_append_right _ (List.mem_append_right _ h)
theorem app_sub3 {own r : Led} {a b c : Addr × Obj} : ∀ q ∈ own ++ (a :: c :: b :: r), q ∈ a :: b :: (own ++ c :: r) := by
  intro q h
  rcases List.mem_append.mp h with h | h
  · exact .tail _ (.tail _ (List.mem_append_left _ h))
  rcases List.mem_cons.mp h with k | h
  · exact k ▸ .head _
  rcases List.mem_cons.mp h with k | h
  · exact .tail _ (.tail _ (List.mem_append_right _ (k ▸ .head _)))
  rcases List.mem_cons.mp h with k | h
  · exact k ▸ .tail _ (.head _)
  exact .tail _ (.tail _ (List.mem_append_right _ (.tail _ h)))
theorem app_ne {own rest : Led} {a : Nat} (h : ∀ q ∈ own, q.1 ≠ a) (k : ∀ q ∈ rest, q.1 ≠ a) : ∀ q ∈ own ++ rest, q.1 ≠ a := fun q m => (List.mem_append.mp m).elim (h q) (k q)
theorem allLt_own {x : Nat} {p q : Addr × Obj} {own rest : Led} {d : Obj} (h : AllLt x (p :: q :: (own ++ rest))) : AllLt x (p :: (q.1, d) :: rest) := ⟨h.1, h.2.1, allLt_subA h.2.2 fun _ m => List.mem_append_right _ m⟩
theorem c_stepJ {w : World} {mean : ExcName → Option Value} {mg mb : Str → Option Value} {mx md rl mk rg fl pl : Nat} {pc od st : Int}  {d : Obj} {rest : Led}  {r0 r1 r2 r3 r4 r5 r6 r7 ln r : Nat} {T : Led} {om : Obj} {y1 y2 : Nat} {f1 f2 f3 f4 : Tok} {fd : Nat} {df : Obj} {cf zf sf vf : Bool} {n tg : Int} {o : Str} {b1 b2 b3 : Tok} (hM : IsMach rl mk rg fl pl pc od st false d) (hrl : (rl, listOf #[.ref r0, .ref r1, .ref r2, .ref r3, .ref r4, .ref r5, .ref r6, .ref r7] ln) ∈ rest) (hx : ([.ref r0, .ref r1, .ref r2, .ref r3, .ref r4, .ref r5, .ref r6, .ref r7] : List Value)[pc.toNat]? = some (.ref r)) (hpc0 : 0 ≤ pc) (hpc1 : pc < 8) (hr : IsRw (Str.ofString "jcc") #[.str (condT o) b1, .str (Str.ofString "order") b2, .int n b3] r T) (hT : ∀ q ∈ T, q ∈ rest) (hk1 : (mk, om) ∈ rest) (hk2 : (mk == sysModules) = false) (hk3 : MarkO thePr w [(y2, tupO #[.str (Str.ofString "order") f3, .int 2 f4]), (y1, tupO #[.str (Str.ofString "order") f1, .int 1 f2])] om (PyProof.V.putD (encTuple mixEnc [.inl (Str.ofString "order"), .inr 2]) (.int 5) (PyProof.V.putD (encTuple mixEnc [.inl (Str.ofString "order"), .inr 1]) (.int 2) []))) (hk4 : (y2, tupO #[.str (Str.ofString "order") f3, .int 2 f4]) ∈ rest) (hk5 : (y1, tupO #[.str (Str.ofString "order") f1, .int 1 f2]) ∈ rest) (hf1 : (fl, instObj 506 fd) ∈ rest) (hf2 : (fd, df) ∈ rest) (hf3 : IsFl cf zf sf vf df) (hn : (n = 1 ∧ tg = 2) ∨ (n = 2 ∧ tg = 5)) (ha : md ≠ mx) (hap : ∀ q ∈ rest, q.1 ≠ md) :
   Ct w mean mg mb 72 708 ((mx, instObj 718 md) :: (md, d) :: rest) True [.ref mx] (fun v ns => ∃ (d' : Obj), v = .none ∧ ns = (mx, instObj 718 md) :: (md, d') :: rest ∧ IsMach rl mk rg fl pl (if (condB (condT o) cf zf sf vf) = true then tg else (pc + 1)) od (st + 1) false d') := by
  refine ct_ret (R1 := fun v ns => v = .none ∧ (fun ns => ∃ d', ns = (mx, instObj 718 md) :: (md, d') :: rest ∧ IsMach rl mk rg fl pl (if (condB (condT o) cf zf sf vf) = true then tg else (pc + 1)) od (st + 1) false d') ns) ?ret (c_step hM hrl hx hpc0 hpc1 (fun d1 M => c_doG M hr hT (by decide +kernel) (by decide +kernel) (b0 := false) (b1 := false) (b2 := false) (b3 := false) (b4 := true) rfl (fun d2 p M2 hp => all5 (fun _ => deed_f (D' := 12) rfl fun _ _ => c_mv0 (by decide +kernel) (by decide +kernel) (by decide +kernel) (by decide +kernel) (by decide +kernel) (by decide +kernel) (by decide +kernel)) (fun _ => deed_f (D' := 12) rfl fun _ _ => c_ts_jcc) (fun _ => deed_f (D' := 12) rfl fun _ _ => c_sh_jcc) (fun _ => deed_f (D' := 12) rfl fun _ _ => c_dv_jcc) (fun _ => deed_t (D' := 24) rfl (.tail _ (.head _)) (isMach_tmp M2) (fun _ h => h) (fun own t ho => ctc_perm (fun _ h => h) (fun v k r => ?j) (fun _ => c_wyJ M2 (List.mem_append_right _ hp) (List.mem_append_right _ hk1) hk2 hk3 (List.mem_append_right _ hk4) (List.mem_append_right _ hk5) (List.mem_append_right _ hf1) (List.mem_append_right _ hf2) hf3 hn ha (app_ne ho hap))))) ha hap) ha hap)
  case ret => exact fun v ns r => let ⟨r1, d', r2, r3⟩ := r; ⟨d', r1, r2, r3⟩
  case j => obtain ⟨d9, r1, r2, r3⟩ := r; exact ⟨_, ⟨r1, _, app_sub (k1 := [_, _]) r2 rfl, d9, rfl, r3⟩, fun _ h => h⟩
theorem c_stepR {w : World} {mean : ExcName → Option Value} {mg mb : Str → Option Value} {mx md rl mk rg fl pl : Nat} {pc od st : Int}  {d : Obj} {rest : Led}  {r0 r1 r2 r3 r4 r5 r6 r7 ln r : Nat} {T : Led} {pn : Nat} (hM : IsMach rl mk rg fl pl pc od st false d) (hrl : (rl, listOf #[.ref r0, .ref r1, .ref r2, .ref r3, .ref r4, .ref r5, .ref r6, .ref r7] ln) ∈ rest) (hx : ([.ref r0, .ref r1, .ref r2, .ref r3, .ref r4, .ref r5, .ref r6, .ref r7] : List Value)[pc.toNat]? = some (.ref r)) (hpc0 : 0 ≤ pc) (hpc1 : pc < 8) (hr : IsRw (Str.ofString "ret") #[] r T) (hT : ∀ q ∈ T, q ∈ rest) (hpl : (pl, listOf #[] pn) ∈ rest) (ha : md ≠ mx) (hap : ∀ q ∈ rest, q.1 ≠ md) :
   Ct w mean mg mb 72 708 ((mx, instObj 718 md) :: (md, d) :: rest) True [.ref mx] (fun v ns => ∃ (d' : Obj), v = .none ∧ ns = (mx, instObj 718 md) :: (md, d') :: rest ∧ IsMach rl mk rg fl pl (pc + 1) od (st + 1) true d') := by
  refine ct_ret (R1 := fun v ns => v = .none ∧ (fun ns => ∃ d', ns = (mx, instObj 718 md) :: (md, d') :: rest ∧ IsMach rl mk rg fl pl (pc + 1) od (st + 1) true d') ns) ?ret (c_step hM hrl hx hpc0 hpc1 (fun d1 M => c_doG M hr hT (by decide +kernel) (by decide +kernel) (b0 := false) (b1 := false) (b2 := false) (b3 := false) (b4 := true) rfl (fun d2 p M2 hp => all5 (fun _ => deed_f (D' := 12) rfl fun _ _ => c_mv0 (by decide +kernel) (by decide +kernel) (by decide +kernel) (by decide +kernel) (by decide +kernel) (by decide +kernel) (by decide +kernel)) (fun _ => deed_f (D' := 12) rfl fun _ _ => c_ts_ret) (fun _ => deed_f (D' := 12) rfl fun _ _ => c_sh_ret) (fun _ => deed_f (D' := 12) rfl fun _ _ => c_dv_ret) (fun _ => deed_t (D' := 24) rfl (.tail _ (.head _)) (isMach_tmp M2) (fun _ h => h) (fun own t ho => ctc_perm (fun _ h => h) (fun v k r => ?j) (fun _ => c_wyR M2 (List.mem_append_right _ hpl) ha (app_ne ho hap))))) ha hap) ha hap)
  case ret => exact fun v ns r => let ⟨r1, d', r2, r3⟩ := r; ⟨d', r1, r2, r3⟩
  case j => obtain ⟨d9, r1, r2, r3⟩ := r; exact ⟨_, ⟨r1, _, app_sub (k1 := [_, _]) r2 rfl, d9, rfl, r3⟩, fun _ h => h⟩
inductive RT_c_stepF (mx : Nat) (md : Nat) (rl : Nat) (mk : Nat) (rg : Nat) (pl : Nat) (pc : Int) (od : Int) (st : Int) (d : Obj) (rest : Led) (cf : Bool) (zf : Bool) (sf : Bool) (vf : Bool) (v : Value) (ns : Led) : Prop where
  | mk (fx fd : Nat) (d' df : Obj) (q9 : v = .none ∧ ns = (mx, instObj 718 md) :: (md, d') :: (fx, instObj 506 fd) :: (fd, df) :: rest ∧ IsMach rl mk rg fx pl (pc + 1) od (st + 1) false d' ∧ IsFl cf zf sf vf df ∧ AllLt fx ((mx, instObj 718 md) :: (md, d) :: rest) ∧ AllLt fd ((mx, instObj 718 md) :: (md, d) :: rest) ∧ fd ≠ fx) : RT_c_stepF mx md rl mk rg pl pc od st d rest cf zf sf vf v ns
theorem c_stepF {w : World} {mean : ExcName → Option Value} {mg mb : Str → Option Value} {mx md rl mk rg fl pl rn : Nat} {pc od st : Int}  {d : Obj} {rest : Led} {vs : List Value} {xs : List Int} {r0 r1 r2 r3 r4 r5 r6 r7 ln r : Nat} {T : Led} {nm : Str} {vp : Array Value} {cf zf sf vf : Bool} (hM : IsMach rl mk rg fl pl pc od st false d) (hrl : (rl, listOf #[.ref r0, .ref r1, .ref r2, .ref r3, .ref r4, .ref r5, .ref r6, .ref r7] ln) ∈ rest) (hx : ([.ref r0, .ref r1, .ref r2, .ref r3, .ref r4, .ref r5, .ref r6, .ref r7] : List Value)[pc.toNat]? = some (.ref r)) (hpc0 : 0 ≤ pc) (hpc1 : pc < 8) (hr : IsRw nm vp r T) (hT : ∀ q ∈ T, q ∈ rest) (hfr : FlagRow w mean mg mb nm vp xs cf zf sf vf) (hm3 : (rg, listOf vs.toArray rn) ∈ rest) (hI : IntsAre vs xs) (n0 : (nm == Str.ofString "mov") = false) (n1 : (nm == Str.ofString "mov_imm") = false) (n2 : (nm == Str.ofString "movabs") = false) (n3 : (nm == Str.ofString "movzx") = false) (n4 : (nm == Str.ofString "movsx") = false) (n5 : (nm == Str.ofString "bswap") = false) (n6 : (nm == Str.ofString "ror16") = false) (hmk : isMk nm = false) (hno : (nm == Str.ofString "order") = false) (ha : md ≠ mx) (hap : ∀ q ∈ rest, q.1 ≠ md) :
   Ct w mean mg mb 72 708 ((mx, instObj 718 md) :: (md, d) :: rest) True [.ref mx] (RT_c_stepF mx md rl mk rg pl pc od st d rest cf zf sf vf) := by
  refine ct_ret (R1 := fun v ns => v = .none ∧ (RT_c_stepF mx md rl mk rg pl pc od st d rest cf zf sf vf .none) ns) ?ret (c_step hM hrl hx hpc0 hpc1 (fun d1 M => c_doG M hr hT hmk hno (b0 := false) (b1 := true) (b2 := false) (b3 := false) (b4 := false) rfl (fun d2 p M2 hp => all5 (fun _ => deed_f (D' := 12) rfl fun _ _ => c_mv0 n0 n1 n2 n3 n4 n5 n6) (fun _ => deed_t (D' := 40) rfl (.tail _ (.head _)) (isMach_tmp M2) (fun _ h => h) (fun own t ho => ctc_perm (fun _ h => h) (fun v k r => ?j) (fun _ => hfr _ _ _ _ _ _ _ _ _ _ _ _ _ _ _ _ _ M2 (List.mem_append_right _ hm3) (List.mem_append_right _ hp) hI ha (app_ne ho hap)))) (fun e => Bool.noConfusion e) (fun e => Bool.noConfusion e) (fun e => Bool.noConfusion e)) ha hap) ha hap)
  case ret => exact fun v ns r => r.1 ▸ r.2
  case j => obtain ⟨fx, fd, d9, df, r1, r2, r3, r4, r5, r6, r7⟩ := r; exact ⟨_, ⟨r1, _, app_sub (k1 := [_, _, _, _]) r2 rfl, ⟨fx, fd, d9, df, rfl, rfl, r3, r4, allLt_own r5, allLt_own r6, r7⟩⟩, fun _ h => h⟩
inductive RT_c_stepM (mx : Nat) (md : Nat) (rl : Nat) (mk : Nat) (rg : Nat) (fl : Nat) (pl : Nat) (pc : Int) (od : Int) (st : Int) (rest : Led) (xs : List Int) (n : Int) (v : Value) (ns : Led) : Prop where
  | mk (d' : Obj) (vs' : List Value) (n' : Nat) (q9 : v = .none ∧ ns = (mx, instObj 718 md) :: (md, d') :: (rg, listOf vs'.toArray n') :: rest ∧ IsMach rl mk rg fl pl (pc + 1) od (st + 1) false d' ∧ IntsAre vs' (xs.set 9 n)) : RT_c_stepM mx md rl mk rg fl pl pc od st rest xs n v ns
theorem c_stepM {w : World} {mean : ExcName → Option Value} {mg mb : Str → Option Value} {mx md rl mk rg fl pl rn : Nat} {pc od st : Int}  {d : Obj} {rest : Led} {vs : List Value} {xs : List Int} {r0 r1 r2 r3 r4 r5 r6 r7 ln r : Nat} {T : Led} {n : Int} {e1 e2 e3 : Tok} (hM : IsMach rl mk rg fl pl pc od st false d) (hrl : (rl, listOf #[.ref r0, .ref r1, .ref r2, .ref r3, .ref r4, .ref r5, .ref r6, .ref r7] ln) ∈ rest) (hx : ([.ref r0, .ref r1, .ref r2, .ref r3, .ref r4, .ref r5, .ref r6, .ref r7] : List Value)[pc.toNat]? = some (.ref r)) (hpc0 : 0 ≤ pc) (hpc1 : pc < 8) (hr : IsRw (Str.ofString "mov_imm") #[.int 32 e1, .int 9 e2, .int n e3] r T) (hT : ∀ q ∈ T, q ∈ rest) (hI : IntsAre vs xs) (hlen : xs.length = 16) (hn0 : 0 ≤ n) (hn1 : n < 4294967296) (ha : md ≠ mx) (ha2 : rg ≠ mx) (ha3 : md ≠ rg) (hap : ∀ q ∈ rest, q.1 ≠ md) (haq : ∀ q ∈ rest, q.1 ≠ rg) :
   Ct w mean mg mb 72 708 ((mx, instObj 718 md) :: (md, d) :: (rg, listOf vs.toArray rn) :: rest) True [.ref mx] (RT_c_stepM mx md rl mk rg fl pl pc od st rest xs n) := by
  have hap2 : ∀ q ∈ (rg, listOf vs.toArray rn) :: rest, q.1 ≠ md := List.forall_mem_cons.mpr ⟨ha3.symm, hap⟩
  refine ct_ret (R1 := fun v ns => v = .none ∧ (RT_c_stepM mx md rl mk rg fl pl pc od st rest xs n .none) ns) ?ret (c_step hM (.tail _ hrl) hx hpc0 hpc1 (fun d1 M => c_doG M hr (fun q h => .tail _ (hT q h)) (by decide +kernel) (by decide +kernel) (b0 := true) (b1 := false) (b2 := false) (b3 := false) (b4 := false) rfl (fun d2 p M2 hp => all5 (fun _ => deed_t (D' := 32) (a := rg) (r2 := (md, d2) :: rest) rfl (.tail _ (.tail _ (.head _))) rfl (fun q h => ?s) (fun own t ho => ctc_perm (fun _ h => h) (fun v k r => ?j) (fun _ => c_mvM (e1 := e1) (e2 := e2) (e3 := e3) M2 (List.mem_append_right _ (.tail _ ?hp)) (List.mem_append_right _ (.head _)) hI hlen hn0 hn1 ha2 (app_ne ho (List.forall_mem_cons.mpr ⟨ha3, haq⟩))))) (fun e => Bool.noConfusion e) (fun e => Bool.noConfusion e) (fun e => Bool.noConfusion e) (fun e => Bool.noConfusion e)) ha hap2) ha hap2)
  case ret => exact fun v ns r => r.1 ▸ r.2
  case s =>
    rcases List.mem_cons.mp h with k | h
    · exact k ▸ .head _
    rcases List.mem_cons.mp h with k | h
    · exact k ▸ .tail _ (.tail _ (.head _))
    rcases List.mem_cons.mp h with k | h
    · exact k ▸ .tail _ (.head _)
    exact .tail _ (.tail _ (.tail _ h))
  case hp => exact (List.mem_cons.mp hp).elim (fun e => Bool.noConfusion (show true = false from congrArg tmpO e)) id
  case j => obtain ⟨vs9, n9, r1, r2, r3⟩ := r; subst r2; exact ⟨_, ⟨r1, _, app_sub3, ⟨d2, vs9, n9, rfl, rfl, M2, r3⟩⟩, fun _ h => h⟩
example : True := by
  k_with "off E9A" => skip
  trivial
end
section
set_option maxHeartbeats 1000000
example : True := by
  k_with ".subscriptTail Attribute Name" => ((fail_if_success k_extra "off E9O"); (k_here; (with_reducible show wpAny _ _ (subscriptTail _ _ (Value.ref _) (Value.int _ _)) _ _ _); k_dflt (refine' item_at ?NDu ?hmDu ?h0Du ?hkDu ?hxDu ?_ ?hsDu; (case NDu => k_asm); (case hmDu => (repeat (first | exact List.Mem.head _ | refine List.Mem.tail _ ?_))); (case hxDu => assumption); (case h0Du => assumption); (case hkDu => omega); (case hsDu => with_unfolding_all rfl))))
  k_with ".pyIter ref" => ((fail_if_success k_extra "off E9O"); (k_here; (with_reducible show wpAny _ _ (pyIter (Value.ref _)) (fun it s₂ => TurnsAt _ _ _ _ _ _ _ _ _ it s₂) _ _); k_dflt (refine' iter_tupTurns ?hhDv ?FDv ?NDv ?hmDv ?hcDv ?hdDv (fun I l1 => (have l2 := l1; ?_)); (case hhDv => rfl); (case FDv => k_asm); (case NDv => k_asm); (case hmDv => (repeat (first | exact List.Mem.head _ | refine List.Mem.tail _ ?_))); (case hcDv => rfl); (case hdDv => rfl)); (try dsimp only [List.map]); (try k_lt l1)))
  k_with ".UnrEndW" => ((fail_if_success k_extra "off E9O"); (k_dflt (refine' unrEndW_1O ?FDw ?NDw ?lDw ?kDw ?_; (case FDw => k_asm); (case NDw => k_asm); (case lDw => assumption); (case kDw => exact ⟨by (repeat (first | exact List.Mem.head _ | refine List.Mem.tail _ ?_)), trivial⟩))))
  trivial
def S_c_stepO (kx : Cx) : Prop := ∀ (mx md rl mk rg fl pl : Nat) (pc od st : Int) (d : Obj) (rest : Led) (r0 r1 r2 r3 r4 r5 r6 r7 ln r : Nat) (T : Led) (n : Int) (a1 : Tok) (hM : IsMach rl mk rg fl pl pc od st false d) (hrl : (rl, listOf #[.ref r0, .ref r1, .ref r2, .ref r3, .ref r4, .ref r5, .ref r6, .ref r7] ln) ∈ rest) (hx : ([.ref r0, .ref r1, .ref r2, .ref r3, .ref r4, .ref r5, .ref r6, .ref r7] : List Value)[pc.toNat]? = some (.ref r)) (hpc0 : 0 ≤ pc) (hpc1 : pc < 8) (hr : IsRw (Str.ofString "order") #[.int n a1] r T) (hT : ∀ q ∈ T, q ∈ rest) (ha : md ≠ mx) (hap : ∀ q ∈ rest, q.1 ≠ md), Bd kx 71 (Str.ofString "PlainRows.step") (methScope "PlainRows" "step") 708 707 (methBody "PlainRows" "step") (fun yq => [(Str.ofString "self", (.ref mx : Value))].reverse.lookup yq) ((mx, instObj 718 md) :: (md, d) :: rest) (fun v ns => ∃ (d' : Obj), v = .none ∧ ns = (mx, instObj 718 md) :: (md, d') :: rest ∧ IsMach rl mk rg fl pl (pc + 1) n st false d')
noncomputable def kap_c_stepO : Cx := kapOf S_c_stepO
set_option maxHeartbeats 4000000 in
theorem c_stepO_k : S_c_stepO kap_c_stepO := by
  intro mx md rl mk rg fl pl pc od st d rest r0 r1 r2 r3 r4 r5 r6 r7 ln r T n a1 hM hrl hx hpc0 hpc1 hr hT ha hap
  have e1 : (methScope "PlainRows" "step") = (methScope "PlainRows" "step") := rfl
  conv at e1 => rhs; whnf
  have e2 : (methBody "PlainRows" "step") = (methBody "PlainRows" "step") := rfl
  conv at e2 => rhs; whnf
  (try dsimp only at e1)
  (try dsimp only at e2)
  refine @bd_lit _ _ _ _ _ _ _ _ _ _ _ _ e1 e2 ?_
  clear e1 e2
  unfold Bd
  k_fill
  intro h tk HB HF HX HN HT hdp hun hE hret
  have HW : Wf kap_c_stepO 71 := ⟨HB, HX, HT, hdp, hun⟩
  obtain ⟨h1, h2, h3, h4, h5, h6, h7, h8, h9, t1, t2, t3, t4, t5, t6, t7, t8, t9, u6, u7, u8, rfl⟩ := hM
  obtain ⟨rd, rp, ka, kb, ta, tb, tc, rfl⟩ := hr
  have qa := hT _ (.head _)
  have qb := hT _ (.tail _ (.head _))
  have qc := hT _ (.tail _ (.tail _ (.head _)))
  have HN1 := news_add (List.Mem.head _) (news_add (List.Mem.tail _ (List.Mem.head _)) (news_add (List.Mem.tail _ (List.Mem.tail _ qa)) (news_add (List.Mem.tail _ (List.Mem.tail _ qb)) (news_add (List.Mem.tail _ (List.Mem.tail _ qc)) (news_add (List.Mem.tail _ (List.Mem.tail _ hrl)) (fun q hq => HN q (List.Mem.tail _ (List.Mem.tail _ hq))) HN) HN) HN) HN) HN) HN
  clear HN
  have e0 := hap _ qa
  have e1 := hap _ qb
  have e2 := hap _ qc
  have e3 := hap _ hrl
  dsimp only at e0 e1 e2 e3
  refine frLet HF ?_
  intro mk HF9
  clear HF
  refine ledLet (by with_reducible assumption) ?_
  intro nk HN9
  k_steps
  all_goals (refine' hret _ _ _ _ _ ⟨_, rfl, rfl, isMach_mk⟩ ?bas ?led
             case led => k_extra "Z0"
             case bas => k_asm)
theorem c_stepO {w : World} {mean : ExcName → Option Value} {mg mb : Str → Option Value} {mx md rl mk rg fl pl : Nat} {pc od st : Int}  {d : Obj} {rest : Led}  {r0 r1 r2 r3 r4 r5 r6 r7 ln r : Nat} {T : Led} {n : Int} {a1 : Tok} (hM : IsMach rl mk rg fl pl pc od st false d) (hrl : (rl, listOf #[.ref r0, .ref r1, .ref r2, .ref r3, .ref r4, .ref r5, .ref r6, .ref r7] ln) ∈ rest) (hx : ([.ref r0, .ref r1, .ref r2, .ref r3, .ref r4, .ref r5, .ref r6, .ref r7] : List Value)[pc.toNat]? = some (.ref r)) (hpc0 : 0 ≤ pc) (hpc1 : pc < 8) (hr : IsRw (Str.ofString "order") #[.int n a1] r T) (hT : ∀ q ∈ T, q ∈ rest) (ha : md ≠ mx) (hap : ∀ q ∈ rest, q.1 ≠ md) :
   Ct w mean mg mb 72 708 ((mx, instObj 718 md) :: (md, d) :: rest) True [.ref mx] (fun v ns => ∃ (d' : Obj), v = .none ∧ ns = (mx, instObj 718 md) :: (md, d') :: rest ∧ IsMach rl mk rg fl pl (pc + 1) n st false d') := by
  k_extra "Z1"
  exact @kap_all S_c_stepO c_stepO_k ⟨w, mean, mg, mb, dp, un, gd, outer, A₀, base, h₀, L, s, Q, E⟩ mx md rl mk rg fl pl pc od st d rest r0 r1 r2 r3 r4 r5 r6 r7 ln r T n a1 hM hrl hx hpc0 hpc1 hr hT ha hap
example : True := by
  k_with "off E9O" => skip
  trivial
end
section
set_option maxHeartbeats 1000000
example : True := by
  k_with "nolean" => fail_if_success k_extra "off E11d"
  trivial
inductive IsOut (k : Str) (a : Int) (d : Obj) : Prop where
  | mk (h1 h2 h3 h4 h5 : Int) (t1 t2 t3 t4 t5 u1 u4 : Tok) (v2 v3 v5 : Value) (q9 : d = dictOf [⟨h1, .str (Str.ofString "kind") t1, .str k u1⟩, ⟨h2, .str (Str.ofString "worth") t2, v2⟩, ⟨h3, .str (Str.ofString "what") t3, v3⟩, ⟨h4, .str (Str.ofString "at") t4, .int a u4⟩, ⟨h5, .str (Str.ofString "steps") t5, v5⟩] 5) : IsOut k a d
theorem isOut_mk {k : Str} {a : Int} {h1 h2 h3 h4 h5 : Int} {t1 t2 t3 t4 t5 u1 u4 : Tok} {v2 v3 v5 : Value} : IsOut k a (dictOf [⟨h1, .str (Str.ofString "kind") t1, .str k u1⟩, ⟨h2, .str (Str.ofString "worth") t2, v2⟩, ⟨h3, .str (Str.ofString "what") t3, v3⟩, ⟨h4, .str (Str.ofString "at") t4, .int a u4⟩, ⟨h5, .str (Str.ofString "steps") t5, v5⟩] 5) := ⟨_, _, _, _, _, _, _, _, _, _, _, _, _, _, _, rfl⟩
theorem c_stepJq {w : World} {mean : ExcName → Option Value} {mg mb : Str → Option Value} {mx md rl mk rg fl pl : Nat} {pc od st : Int}  {d : Obj} {rest : Led}  {r0 r1 r2 r3 r4 r5 r6 r7 ln r : Nat} {T : Led} {om : Obj} {y1 y2 : Nat} {f1 f2 f3 f4 : Tok} {fd : Nat} {df : Obj} {cf zf sf vf : Bool} {n tg q : Int} {o : Str} {b1 b2 b3 : Tok} (hM : IsMach rl mk rg fl pl pc od st false d) (hrl : (rl, listOf #[.ref r0, .ref r1, .ref r2, .ref r3, .ref r4, .ref r5, .ref r6, .ref r7] ln) ∈ rest) (hx : ([.ref r0, .ref r1, .ref r2, .ref r3, .ref r4, .ref r5, .ref r6, .ref r7] : List Value)[pc.toNat]? = some (.ref r)) (hpc0 : 0 ≤ pc) (hpc1 : pc < 8) (hr : IsRw (Str.ofString "jcc") #[.str (condT o) b1, .str (Str.ofString "order") b2, .int n b3] r T) (hT : ∀ q ∈ T, q ∈ rest) (hk1 : (mk, om) ∈ rest) (hk2 : (mk == sysModules) = false) (hk3 : MarkO thePr w [(y2, tupO #[.str (Str.ofString "order") f3, .int 2 f4]), (y1, tupO #[.str (Str.ofString "order") f1, .int 1 f2])] om (PyProof.V.putD (encTuple mixEnc [.inl (Str.ofString "order"), .inr 2]) (.int 5) (PyProof.V.putD (encTuple mixEnc [.inl (Str.ofString "order"), .inr 1]) (.int 2) []))) (hk4 : (y2, tupO #[.str (Str.ofString "order") f3, .int 2 f4]) ∈ rest) (hk5 : (y1, tupO #[.str (Str.ofString "order") f1, .int 1 f2]) ∈ rest) (hf1 : (fl, instObj 506 fd) ∈ rest) (hf2 : (fd, df) ∈ rest) (hf3 : IsFl cf zf sf vf df) (hn : (n = 1 ∧ tg = 2) ∨ (n = 2 ∧ tg = 5)) (ha : md ≠ mx) (hap : ∀ q ∈ rest, q.1 ≠ md) (hqq : (if (condB (condT o) cf zf sf vf) = true then tg else (pc + 1)) = q) :
   Ct w mean mg mb 72 708 ((mx, instObj 718 md) :: (md, d) :: rest) True [.ref mx] (fun v ns => ∃ (d' : Obj), v = .none ∧ ns = (mx, instObj 718 md) :: (md, d') :: rest ∧ IsMach rl mk rg fl pl q od (st + 1) false d') := by
  subst hqq
  exact c_stepJ hM hrl hx hpc0 hpc1 hr hT hk1 hk2 hk3 hk4 hk5 hf1 hf2 hf3 hn ha hap
example : True := by
  k_with "off E11d" => skip
  trivial
end
section
set_option maxHeartbeats 1000000
example : True := by
  k_with ".exec While BoolOp cons nil" => ((fail_if_success k_extra "off E11t"); (k_here; k_dflt (refine while_start ?_)))
  k_with ".WPost" => ((fail_if_success k_extra "off E11t"); (dsimp only [WPost]))
  trivial
abbrev rnEnv (x : Cx) (scope : Scope) : Env := envX (Str.ofString "PlainRows.run") scope x.L 715 (.ref 714) []
abbrev rnMap (mx : Nat) (t0 : Tok) : Str → Option Value := fun yq => [(Str.ofString "self", (.ref mx : Value)), (Str.ofString "most", (.int 20 t0 : Value))].reverse.lookup yq
def RunAt (kx : Cx) (scope : Scope) (test : Expr) (body : List Stmt) (Q : Flow → Shared → Prop) (mx : Nat) (t0 : Tok) (nk : Led) : Prop :=
  ∀ h tk, Fr kx.h₀ kx.L h (rnMap mx t0) → News kx.h₀ kx.L h nk → WLoop PySem.Challenge.rw_ok0177_01.row.prog kx.w (kAr kx (rnEnv kx scope)) (rnEnv kx scope) test body Q kx.E (kSt kx h tk)
def S_rturn (kx : Cx) : Prop := ∀ (test : Expr) (body oe : List Stmt) (pos : Pos) (mx md rl mk rg fl pl : Nat) (pc od st : Int) (d : Obj) (rest : Led) (t0 : Tok) (Q : Flow → Shared → Prop) (Rt : Led → Prop) (scope : Scope), scope = methScope "PlainRows" "run" → (methBody "PlainRows" "run")[0]? = some (.While test body oe pos) → IsMach rl mk rg fl pl pc od st false d → st < 20 → Wf kx 95 → PassesOwn (kMd kx) (kAr kx (rnEnv kx scope)) (rnEnv kx scope) kx.E →
  Ct kx.w kx.mean kx.mg kx.mb 72 708 ((mx, instObj 718 md) :: (md, d) :: rest) True [.ref mx] (fun v ns => v = .none ∧ Rt ns) → (∀ ns, Rt ns → RunAt kx scope test body Q mx t0 ns) → RunAt kx scope test body Q mx t0 ((mx, instObj 718 md) :: (md, d) :: rest)
def S_rend (kx : Cx) : Prop := ∀ (test : Expr) (body oe : List Stmt) (pos : Pos) (mx md rl mk rg fl pl : Nat) (pc od st : Int) (d : Obj) (rest : Led) (t0 : Tok) (Q : Flow → Shared → Prop) (scope : Scope), scope = methScope "PlainRows" "run" → (methBody "PlainRows" "run")[0]? = some (.While test body oe pos) → IsMach rl mk rg fl pl pc od st true d → st < 20 → Wf kx 95 → PassesOwn (kMd kx) (kAr kx (rnEnv kx scope)) (rnEnv kx scope) kx.E →
  (∀ h tk, Fr kx.h₀ kx.L h (rnMap mx t0) → News kx.h₀ kx.L h ((mx, instObj 718 md) :: (md, d) :: rest) → Q .next (kSt kx h tk)) → RunAt kx scope test body Q mx t0 ((mx, instObj 718 md) :: (md, d) :: rest)
theorem st_use (x : Cx) (cn : Str) (cs : Scope) (a : Addr) (ccd : Value) (cl : List (Str × Addr)) (hk : cs.kind = .function) {D : Nat} (W : Wf x D) (hD : Nat.ble 72 D = true) {mx : Nat} {nw : Led} {Rt : Led → Prop} {m : Str → Option Value} {tk : Nat} {h : Heap} {Q E : Value → Shared → Prop}
    (C : Ct x.w x.mean x.mg x.mb 72 708 nw True [.ref mx] (fun v ns => v = .none ∧ Rt ns)) (F : Fr x.h₀ x.L h m) (N : News x.h₀ x.L h nw) (k : ∀ nw' h' tk', Rt nw' → Fr x.h₀ x.L h' m → News x.h₀ x.L h' nw' → Q .none (kSt x h' tk')) :
    wpAny (kMd x) (kAr x (envX cn cs x.L a ccd cl)) (call (.ref 708) [.ref mx]) Q E (kSt x h tk) := cv_use x cn cs a ccd cl hk W hD C F N (fun v nw' h' tk' r F' N' => by obtain ⟨rfl, r⟩ := r; exact k nw' h' tk' r F' N')
example : True := by
  k_with ".call ref" => (k_here; (with_reducible show wpAny _ _ (call (Value.ref 708) _) _ _ _); k_dflt (refine' st_use _ _ _ _ _ _ ?kkDz ?WDz ?hDDz ?CDz ?FDz ?NDz ?_; (case CDz => assumption); (case kkDz => exact rfl); (case WDz => assumption); (case hDDz => exact rfl); (case FDz => k_asm); (case NDz => k_asm)); intro nw9Z h9Z tk9Z hR9Z F9Z N9Z)
  k_with ".exec Try" => ((fail_if_success k_extra "off E11t"); (k_here; k_dflt (refine wpAny_Try_except ?_)))
  trivial
noncomputable def kap_rturn : Cx := kapOf S_rturn
set_option maxHeartbeats 4000000 in
theorem rturn_k : S_rturn kap_rturn := by
  intro test body oe pos mx md rl mk rg fl pl pc od st d rest t0 Q Rt scope es e hM hs HW hE hC hk
  have e1 : (methScope "PlainRows" "run") = (methScope "PlainRows" "run") := rfl
  conv at e1 => rhs; whnf
  rw [e1] at es
  subst es
  clear e1
  conv at e => lhs; whnf
  obtain ⟨rfl, rfl, rfl, rfl⟩ := PySem.Stmt.While.inj (Option.some.inj e)
  clear e
  have HX := HW.X
  have HT := HW.T
  have HB := HW.B
  have hdp := HW.d
  have hun := HW.u
  obtain ⟨h1, h2, h3, h4, h5, h6, h7, h8, h9, t1, t2, t3, t4, t5, t6, t7, t8, t9, u6, u7, u8, rfl⟩ := hM
  intro h tk HF HN
  refine wloop_turn hE ?_
  refine frLet HF ?_
  intro mk9 HF9
  clear HF
  refine ledLet HN ?_
  intro nk HN9
  clear HN
  k_steps
  all_goals (first | exact hk _ (by assumption) _ _ (by k_asm) (by k_asm))
noncomputable def kap_rend : Cx := kapOf S_rend
set_option maxHeartbeats 4000000 in
theorem rend_k : S_rend kap_rend := by
  intro test body oe pos mx md rl mk rg fl pl pc od st d rest t0 Q scope es e hM hs HW hE hk
  have e1 : (methScope "PlainRows" "run") = (methScope "PlainRows" "run") := rfl
  conv at e1 => rhs; whnf
  rw [e1] at es
  subst es
  clear e1
  conv at e => lhs; whnf
  obtain ⟨rfl, rfl, rfl, rfl⟩ := PySem.Stmt.While.inj (Option.some.inj e)
  clear e
  have HX := HW.X
  have HT := HW.T
  have HB := HW.B
  have hdp := HW.d
  have hun := HW.u
  obtain ⟨h1, h2, h3, h4, h5, h6, h7, h8, h9, t1, t2, t3, t4, t5, t6, t7, t8, t9, u6, u7, u8, rfl⟩ := hM
  intro h tk HF HN
  refine wloop_turn hE ?_
  refine frLet HF ?_
  intro mk9 HF9
  clear HF
  refine ledLet HN ?_
  intro nk HN9
  clear HN
  k_steps
  all_goals (first | exact hk _ _ (by k_asm) (by k_asm))
example : True := by
  k_with "off E11t" => skip
  trivial
end
section
set_option maxHeartbeats 1000000
example : True := by
  k_with ".exec While BoolOp cons nil" => ((fail_if_success k_extra "off E11u"); (k_here; k_dflt (refine while_start ?_)))
  k_with ".WPost" => ((fail_if_success k_extra "off E11u"); (dsimp only [WPost]))
  trivial
inductive Chain (w : World) (mean : ExcName → Option Value) (mg mb : Str → Option Value) (mx : Nat) (P : Led → Prop) : Led → Prop
  | stop {n : Led} (h : P n) : Chain w mean mg mb mx P n
  | step {md rl mk rg fl pl : Nat} {pc od st : Int} {d : Obj} {rest : Led} {Rt : Led → Prop} (M : IsMach rl mk rg fl pl pc od st false d) (hs : st < 20) (C : Ct w mean mg mb 72 708 ((mx, instObj 718 md) :: (md, d) :: rest) True [.ref mx] (fun v ns => v = .none ∧ Rt ns)) (k : ∀ ns, Rt ns → Chain w mean mg mb mx P ns) : Chain w mean mg mb mx P ((mx, instObj 718 md) :: (md, d) :: rest)
  | sub {n n2 : Led} (hs : ∀ q ∈ n2, q ∈ n) (k : Chain w mean mg mb mx P n2) : Chain w mean mg mb mx P n
theorem chain_run (kx : Cx) {test : Expr} {body oe : List Stmt} {pos : Pos} {mx : Nat} {t0 : Tok} {Q : Flow → Shared → Prop} {scope : Scope} {P : Led → Prop} (es : scope = methScope "PlainRows" "run") (e : (methBody "PlainRows" "run")[0]? = some (.While test body oe pos)) (HW : Wf kx 95) (hE : PassesOwn (kMd kx) (kAr kx (rnEnv kx scope)) (rnEnv kx scope) kx.E)
    (hP : ∀ n, P n → RunAt kx scope test body Q mx t0 n) {n : Led} (c : Chain kx.w kx.mean kx.mg kx.mb mx P n) : RunAt kx scope test body Q mx t0 n := by
  induction c with
  | stop h => exact hP _ h
  | step M hs C k ih => exact @kap_all S_rturn rturn_k kx test body oe pos mx _ _ _ _ _ _ _ _ _ _ _ t0 Q _ scope es e M hs HW hE C ih
  | sub hs k ih => exact fun h tk F N => ih h tk F (fun q hq => N q (hs q hq))
inductive PEnd (mx md rl mk rg pl : Nat) (rest : Led) (xs : List Int) (j : Int) (n : Led) : Prop where
  | mk (d : Obj) (fl : Nat) (pc st : Int) (vs : List Value) (n' : Nat) (e : n = (mx, instObj 718 md) :: (md, d) :: (rg, listOf vs.toArray n') :: rest) (M : IsMach rl mk rg fl pl pc j st true d) (hs : st < 20) (hI : IntsAre vs xs) : PEnd mx md rl mk rg pl rest xs j n
inductive RT_run (mx md rl mk rg pl : Nat) (rest : Led) (xs : List Int) (j : Int) (v : Value) (ns : Led) : Prop where
  | mk (ox od : Nat) (dO d' : Obj) (vs' : List Value) (n' : Nat) (fx9 : Nat) (pc9 st9 : Int) (q9 : v = .ref ox ∧ ns = (ox, instObj 478 od) :: (od, dO) :: (mx, instObj 718 md) :: (md, d') :: (rg, listOf vs'.toArray n') :: rest ∧ IsOut (Str.ofString "exit") j dO ∧ IntsAre vs' xs ∧ AllLt ox ((mx, instObj 718 md) :: (md, d') :: (rg, listOf vs'.toArray n') :: rest) ∧ AllLt od ((mx, instObj 718 md) :: (md, d') :: (rg, listOf vs'.toArray n') :: rest) ∧ IsMach rl mk rg fx9 pl pc9 j st9 true d') : RT_run mx md rl mk rg pl rest xs j v ns
theorem c_run_i {mx md rl mk rg pl : Nat} {rest : Led} {xs : List Int} {j : Int} {h₀ : Heap} {L : Addr} {m : Str → Option Value} {s : Shared} {Q : Value → Shared → Prop}
   (kk9 : ∀ v news' h' tk', (RT_run mx md rl mk rg pl rest xs j) v news' → Fr h₀ L h' m → News h₀ L h' news' → Q v { s with heap := h', toks := tk' }) :
   ∀ (ox od : Nat) (dO d' : Obj) (vs' : List Value) (n' : Nat) (fx9 : Nat) (pc9 st9 : Int) (h' : Heap) (tk' : Nat), (IsOut (Str.ofString "exit") j dO) → (IntsAre vs' xs) → (AllLt ox ((mx, instObj 718 md) :: (md, d') :: (rg, listOf vs'.toArray n') :: rest)) → (AllLt od ((mx, instObj 718 md) :: (md, d') :: (rg, listOf vs'.toArray n') :: rest)) → (IsMach rl mk rg fx9 pl pc9 j st9 true d') → Fr h₀ L h' m → News h₀ L h' ((ox, instObj 478 od) :: (od, dO) :: (mx, instObj 718 md) :: (md, d') :: (rg, listOf vs'.toArray n') :: rest) → Q (.ref ox) { s with heap := h', toks := tk' } := by
  intro ox od dO d' vs' n' fx9 pc9 st9 h' tk' f09 f19 f29 f39 f49 F N
  exact kk9 _ _ _ _ ⟨ox, od, dO, d', vs', n', fx9, pc9, st9, rfl, rfl, f09, f19, f29, f39, f49⟩ F N
def S_c_run (kx : Cx) : Prop := ∀ (mx md rl mkk rg pl : Nat) (rest n0 : Led) (xs : List Int) (j : Int) (t0 : Tok) (hc : Chain kx.w kx.mean kx.mg kx.mb mx (PEnd mx md rl mkk rg pl rest xs j) n0) (hlen : xs.length = 16), Bd kx 95 (Str.ofString "PlainRows.run") (methScope "PlainRows" "run") 715 714 (methBody "PlainRows" "run") (fun yq => [(Str.ofString "self", (.ref mx : Value)), (Str.ofString "most", (.int 20 t0 : Value))].reverse.lookup yq) n0 (RT_run mx md rl mkk rg pl rest xs j)
noncomputable def kap_c_run : Cx := kapOf S_c_run
set_option maxHeartbeats 4000000 in
theorem c_run_k : S_c_run kap_c_run := by
  intro mx md rl mkk rg pl rest n0 xs j t0 hc hlen
  have e1 : (methScope "PlainRows" "run") = (methScope "PlainRows" "run") := rfl
  conv at e1 => rhs; whnf
  have e2 : (methBody "PlainRows" "run") = (methBody "PlainRows" "run") := rfl
  conv at e2 => rhs; whnf
  (try dsimp only at e1)
  (try dsimp only at e2)
  refine @bd_lit _ _ _ _ _ _ _ _ _ _ _ _ e1 e2 ?_
  clear e1 e2
  unfold Bd
  k_fill
  intro h tk HB HF HX HN HT hdp hun hE hret
  have HW : Wf kap_c_run 95 := ⟨HB, HX, HT, hdp, hun⟩
  replace hret := fun mq => c_run_i (hret mq)
  refine frLet HF ?_
  intro mk HF9
  clear HF
  refine ledLet (by with_reducible assumption) ?_
  intro nk HN9
  k_steps
  have e1 : (methScope "PlainRows" "run") = (methScope "PlainRows" "run") := rfl
  conv at e1 => rhs; whnf
  refine chain_run _ e1.symm rfl HW hE (fun n hn => ?_) hc _ _ (by k_asm) (by k_asm)
  obtain ⟨d, fl, pc, st, vs, n', rfl, M, hs, hI⟩ := hn
  refine @kap_all S_rend rend_k _ _ _ _ _ mx md rl mkk rg fl pl pc j st d _ t0 _ _ e1.symm rfl M hs HW hE (fun h7 tk7 F7 N7 => ?_)
  clear e1
  obtain ⟨h1, h2, h3, h4, h5, h6, h7, h8, h9, t1, t2, t3, t4, t5, t6, t7, t8, t9, u6, u7, u8, rfl⟩ := M
  k_steps
  all_goals (refine' hret _ _ _ _ _ _ _ _ _ _ _ _ isOut_mk ?i ?a1 ?a2 isMach_mk ?bas ?led
             case led => ((try dsimp only [List.cons_append, List.nil_append]); first | exact (by k_asm) | exact cb_drop (by k_asm) (fun q hq => by first | (exact hq) | walk_at "Mem" | (repeat (first | exact hq | exact List.mem_append_left _ hq | refine List.Mem.tail _ ?_))))
             case bas => k_asm
             case i => assumption
             case a2 => (first | walk_at "AllLt" | (exact ⟨by first | assumption | omega, by first | assumption | omega, by first | assumption | omega, by assumption⟩))
             case a1 => (first | walk_at "AllLt" | (exact allLt_mono (Nat.le_of_lt (by assumption)) ⟨by first | assumption | omega, by first | assumption | omega, by first | assumption | omega, by assumption⟩)))
theorem c_run {w : World} {mean : ExcName → Option Value} {mg mb : Str → Option Value} {mx md rl mkk rg pl : Nat} {rest n0 : Led} {xs : List Int} {j : Int} {t0 : Tok} (hc : Chain w mean mg mb mx (PEnd mx md rl mkk rg pl rest xs j) n0) (hlen : xs.length = 16) :
   Ct w mean mg mb 96 715 n0 True [.ref mx, .int 20 t0] (RT_run mx md rl mkk rg pl rest xs j) := by
  k_extra "Z1"
  exact @kap_all S_c_run c_run_k ⟨w, mean, mg, mb, dp, un, gd, outer, A₀, base, h₀, L, s, Q, E⟩ mx md rl mkk rg pl rest n0 xs j t0 hc hlen
example : True := by
  k_with "off E11u" => skip
  trivial
end
section
set_option maxHeartbeats 1000000
theorem c_runJ {w : World} {mean : ExcName → Option Value} {mg mb : Str → Option Value} {mx md rl mk rg fl pl rn pn ln : Nat} {d : Obj} {rest : Led} {vs : List Value} {xs : List Int} {cf zf sf vf : Bool} {t0 : Tok} {om : Obj} {y1 y2 : Nat} {f1 f2 f3 f4 : Tok} {nm0 : Str} {vs0 : Array Value} {o : Str} {n tg pc2 j : Int} {b1 b2 b3 c1 e1 e2 e3 : Tok} {r0 r1 r2 r3 r4 r5 r6 r7 ra rb rc : Nat} {T0 T1 Ta Tb Tc : Led} (hM : IsMach rl mk rg fl pl 0 0 0 false d) (hrl : (rl, listOf #[.ref r0, .ref r1, .ref r2, .ref r3, .ref r4, .ref r5, .ref r6, .ref r7] ln) ∈ rest) (hr0 : IsRw nm0 vs0 r0 T0) (hT0 : ∀ q ∈ T0, q ∈ rest) (hr1 : IsRw (Str.ofString "jcc") #[.str (condT o) b1, .str (Str.ofString "order") b2, .int n b3] r1 T1) (hT1 : ∀ q ∈ T1, q ∈ rest) (hra : IsRw (Str.ofString "order") #[.int j c1] ra Ta) (hTa : ∀ q ∈ Ta, q ∈ rest) (hrb : IsRw (Str.ofString "mov_imm") #[.int 32 e1, .int 9 e2, .int j e3] rb Tb) (hTb : ∀ q ∈ Tb, q ∈ rest) (hrc : IsRw (Str.ofString "ret") #[] rc Tc) (hTc : ∀ q ∈ Tc, q ∈ rest) (hfr : FlagRow w mean mg mb nm0 vs0 xs cf zf sf vf) (n0 : (nm0 == Str.ofString "mov") = false) (n1 : (nm0 == Str.ofString "mov_imm") = false) (n2 : (nm0 == Str.ofString "movabs") = false) (n3 : (nm0 == Str.ofString "movzx") = false) (n4 : (nm0 == Str.ofString "movsx") = false) (n5 : (nm0 == Str.ofString "bswap") = false) (n6 : (nm0 == Str.ofString "ror16") = false) (hmk : isMk nm0 = false) (hno : (nm0 == Str.ofString "order") = false) (hk1 : (mk, om) ∈ rest) (hk2 : (mk == sysModules) = false) (hk3 : MarkO thePr w [(y2, tupO #[.str (Str.ofString "order") f3, .int 2 f4]), (y1, tupO #[.str (Str.ofString "order") f1, .int 1 f2])] om (PyProof.V.putD (encTuple mixEnc [.inl (Str.ofString "order"), .inr 2]) (.int 5) (PyProof.V.putD (encTuple mixEnc [.inl (Str.ofString "order"), .inr 1]) (.int 2) []))) (hk4 : (y2, tupO #[.str (Str.ofString "order") f3, .int 2 f4]) ∈ rest) (hk5 : (y1, tupO #[.str (Str.ofString "order") f1, .int 1 f2]) ∈ rest) (hpl : (pl, listOf #[] pn) ∈ rest) (hn : (n = 1 ∧ tg = 2) ∨ (n = 2 ∧ tg = 5)) (hq : (if (condB (condT o) cf zf sf vf) = true then tg else (0 + 1 + 1)) = pc2) (hx2 : ([.ref r0, .ref r1, .ref r2, .ref r3, .ref r4, .ref r5, .ref r6, .ref r7] : List Value)[pc2.toNat]? = some (.ref ra)) (hx3 : ([.ref r0, .ref r1, .ref r2, .ref r3, .ref r4, .ref r5, .ref r6, .ref r7] : List Value)[(pc2 + 1).toNat]? = some (.ref rb)) (hx4 : ([.ref r0, .ref r1, .ref r2, .ref r3, .ref r4, .ref r5, .ref r6, .ref r7] : List Value)[(pc2 + 1 + 1).toNat]? = some (.ref rc)) (hp0 : 0 ≤ pc2) (hp1 : pc2 + 1 + 1 < 8) (hj0 : 0 ≤ j) (hj1 : j < 4294967296) (hI : IntsAre vs xs) (hlen : xs.length = 16) (ha : md ≠ mx) (ha2 : rg ≠ mx) (ha3 : md ≠ rg) (hap : ∀ q ∈ rest, q.1 ≠ md) (haq : ∀ q ∈ rest, q.1 ≠ rg) :
   Ct w mean mg mb 96 715 ((mx, instObj 718 md) :: (md, d) :: (rg, listOf vs.toArray rn) :: rest) True [.ref mx, .int 20 t0] (fun v ns => ∃ (ox od : Nat) (dO d' : Obj) (vs' : List Value) (n' : Nat) (fx9 : Nat) (pc9 od9 st9 : Int), v = .ref ox ∧ ns = (ox, instObj 478 od) :: (od, dO) :: (mx, instObj 718 md) :: (md, d') :: (rg, listOf vs'.toArray n') :: rest ∧ IsOut (Str.ofString "exit") j dO ∧ IntsAre vs' (xs.set 9 j) ∧ AllLt ox ((mx, instObj 718 md) :: (md, d) :: (rg, listOf vs.toArray rn) :: rest) ∧ AllLt od ((mx, instObj 718 md) :: (md, d) :: (rg, listOf vs.toArray rn) :: rest) ∧ IsMach rl mk rg fx9 pl pc9 od9 st9 true d') := by
  refine ct_ret (fun v ns r => ?fin) (c_run (xs := xs.set 9 j) (j := j) (md := md) (rl := rl) (mkk := mk) (rg := rg) (pl := pl) (rest := rest) ?ch (by rw [List.length_set]; exact hlen))
  case fin =>
    obtain ⟨ox, od, dO, d', vs', n', fx9, pc9, st9, rfl, rfl, a, b, c, e, f⟩ := r
    exact ⟨ox, od, dO, d', vs', n', fx9, pc9, j, st9, rfl, rfl, a, b, c, e, f⟩
  have hapR : ∀ q ∈ (rg, listOf vs.toArray rn) :: rest, q.1 ≠ md := List.forall_mem_cons.mpr ⟨ha3.symm, hap⟩
  refine .step hM (by decide) (ct_ret (R2 := fun v ns => v = .none ∧ RT_c_stepF mx md rl mk rg pl 0 0 0 d ((rg, listOf vs.toArray rn) :: rest) cf zf sf vf .none ns) (fun v ns r => ?_) (c_stepF hM (.tail _ hrl) rfl (by decide) (by decide) hr0 (fun q h => .tail _ (hT0 q h)) hfr (.head _) hI n0 n1 n2 n3 n4 n5 n6 hmk hno ha hapR)) (fun ns r => ?_)
  · obtain ⟨fx, fd, d', df, rfl, q⟩ := r
    exact ⟨rfl, ⟨fx, fd, d', df, rfl, q⟩⟩
  obtain ⟨fx, fd, d1, df, _, rfl, M1, hfl, l1, l2, hne⟩ := r
  have hap1 : ∀ q ∈ (fx, instObj 506 fd) :: (fd, df) :: (rg, listOf vs.toArray rn) :: rest, q.1 ≠ md := List.forall_mem_cons.mpr ⟨Nat.ne_of_gt l1.2.1, List.forall_mem_cons.mpr ⟨Nat.ne_of_gt l2.2.1, hapR⟩⟩
  have up : ∀ {q : Addr × Obj}, q ∈ rest → q ∈ (fx, instObj 506 fd) :: (fd, df) :: (rg, listOf vs.toArray rn) :: rest := fun h => .tail _ (.tail _ (.tail _ h))
  refine .step M1 (by decide) (ct_ret (R2 := fun v ns => v = .none ∧ ∃ d', ns = (mx, instObj 718 md) :: (md, d') :: (fx, instObj 506 fd) :: (fd, df) :: (rg, listOf vs.toArray rn) :: rest ∧ IsMach rl mk rg fx pl pc2 0 (0 + 1 + 1) false d') (fun v ns r => ?_) (c_stepJq M1 (up hrl) rfl (by decide) (by decide) hr1 (fun q h => up (hT1 q h)) (up hk1) hk2 hk3 (up hk4) (up hk5) (.head _) (.tail _ (.head _)) hfl hn ha hap1 hq)) (fun ns r => ?_)
  · obtain ⟨d', r1, r2, r3⟩ := r
    exact ⟨r1, d', r2, r3⟩
  obtain ⟨d2, rfl, M2⟩ := r
  refine .step M2 (by decide) (ct_ret (R2 := fun v ns => v = .none ∧ ∃ d', ns = (mx, instObj 718 md) :: (md, d') :: (fx, instObj 506 fd) :: (fd, df) :: (rg, listOf vs.toArray rn) :: rest ∧ IsMach rl mk rg fx pl (pc2 + 1) j (0 + 1 + 1) false d') (fun v ns r => ?_) (c_stepO M2 (up hrl) hx2 hp0 (by omega) hra (fun q h => up (hTa q h)) ha hap1)) (fun ns r => ?_)
  · obtain ⟨d', r1, r2, r3⟩ := r
    exact ⟨r1, d', r2, r3⟩
  obtain ⟨d3, rfl, M3⟩ := r
  have hap2 : ∀ q ∈ (fx, instObj 506 fd) :: (fd, df) :: rest, q.1 ≠ md := fun q h => hap1 q (by
    rcases List.mem_cons.mp h with k | h
    · exact k ▸ .head _
    rcases List.mem_cons.mp h with k | h
    · exact k ▸ .tail _ (.head _)
    exact up h)
  have haq2 : ∀ q ∈ (fx, instObj 506 fd) :: (fd, df) :: rest, q.1 ≠ rg := List.forall_mem_cons.mpr ⟨Nat.ne_of_gt l1.2.2.1, List.forall_mem_cons.mpr ⟨Nat.ne_of_gt l2.2.2.1, haq⟩⟩
  have up2 : ∀ {q : Addr × Obj}, q ∈ rest → q ∈ (fx, instObj 506 fd) :: (fd, df) :: rest := fun h => .tail _ (.tail _ h)
  refine .sub (n2 := (mx, instObj 718 md) :: (md, d3) :: (rg, listOf vs.toArray rn) :: (fx, instObj 506 fd) :: (fd, df) :: rest) (fun q h => ?_) ?_
  · rcases List.mem_cons.mp h with k | h
    · exact k ▸ .head _
    rcases List.mem_cons.mp h with k | h
    · exact k ▸ .tail _ (.head _)
    rcases List.mem_cons.mp h with k | h
    · exact k ▸ .tail _ (.tail _ (.tail _ (.tail _ (.head _))))
    rcases List.mem_cons.mp h with k | h
    · exact k ▸ .tail _ (.tail _ (.head _))
    rcases List.mem_cons.mp h with k | h
    · exact k ▸ .tail _ (.tail _ (.tail _ (.head _)))
    exact .tail _ (.tail _ (up h))
  refine .step M3 (by decide) (ct_ret (R2 := fun v ns => v = .none ∧ RT_c_stepM mx md rl mk rg fx pl (pc2 + 1) j (0 + 1 + 1) ((fx, instObj 506 fd) :: (fd, df) :: rest) xs j .none ns) (fun v ns r => ?_) (c_stepM M3 (up2 hrl) hx3 (by omega) (by omega) hrb (fun q h => up2 (hTb q h)) hI hlen hj0 hj1 ha ha2 ha3 hap2 haq2)) (fun ns r => ?_)
  · obtain ⟨d', vs', n', rfl, q⟩ := r
    exact ⟨rfl, ⟨d', vs', n', rfl, q⟩⟩
  obtain ⟨d4, vs4, n4, _, rfl, M4, hI4⟩ := r
  have hap3 : ∀ q ∈ (rg, listOf vs4.toArray n4) :: (fx, instObj 506 fd) :: (fd, df) :: rest, q.1 ≠ md := List.forall_mem_cons.mpr ⟨ha3.symm, hap2⟩
  refine .step M4 (by decide) (ct_ret (R2 := fun v ns => v = .none ∧ ∃ d', ns = (mx, instObj 718 md) :: (md, d') :: (rg, listOf vs4.toArray n4) :: (fx, instObj 506 fd) :: (fd, df) :: rest ∧ IsMach rl mk rg fx pl (pc2 + 1 + 1 + 1) j (0 + 1 + 1 + 1 + 1) true d') (fun v ns r => ?_) (c_stepR M4 (.tail _ (up2 hrl)) hx4 (by omega) hp1 hrc (fun q h => .tail _ (up2 (hTc q h))) (.tail _ (up2 hpl)) ha hap3)) (fun ns r => ?_)
  · obtain ⟨d', r1, r2, r3⟩ := r
    exact ⟨r1, d', r2, r3⟩
  obtain ⟨d5, rfl, M5⟩ := r
  refine .sub (n2 := (mx, instObj 718 md) :: (md, d5) :: (rg, listOf vs4.toArray n4) :: rest) (fun q h => ?_) (.stop ⟨d5, fx, _, _, vs4, n4, rfl, M5, by decide, hI4⟩)
  rcases List.mem_cons.mp h with k | h
  · exact k ▸ .head _
  rcases List.mem_cons.mp h with k | h
  · exact k ▸ .tail _ (.head _)
  rcases List.mem_cons.mp h with k | h
  · exact k ▸ .tail _ (.tail _ (.head _))
  exact .tail _ (.tail _ (.tail _ (up2 h)))
end
section
set_option maxHeartbeats 1000000
example : True := by
  k_with ".call ref" => (k_here; (with_reducible show wpAny _ _ (call (Value.ref 330) [_]) _ _ _); k_dflt (refine c_crows_v _ _ _ _ _ _ rfl (zW := by assumption) (zD := by exact rfl) (zF := by k_asm) (zN := by k_asm) (hl := by walk_at "Mem") (hr0 := by assumption) (hT0 := by (repeat (first | assumption | refine subT ?_))) (hr1 := by assumption) (hT1 := by (repeat (first | assumption | refine subT ?_))) (hr2 := by assumption) (hT2 := by (repeat (first | assumption | refine subT ?_))) (hr3 := by assumption) (hT3 := by (repeat (first | assumption | refine subT ?_))) (hr4 := by assumption) (hT4 := by (repeat (first | assumption | refine subT ?_))) (hr5 := by assumption) (hT5 := by (repeat (first | assumption | refine subT ?_))) (hr6 := by assumption) (hT6 := by (repeat (first | assumption | refine subT ?_))) (hr7 := by assumption) (hT7 := by (repeat (first | assumption | refine subT ?_))) (hk0 := by assumption) (hk1 := by assumption) (hk2 := by assumption) (hk3 := by assumption) (hk4 := by assumption) (hk5 := by assumption) (hk6 := by assumption) (hk7 := by assumption) (hm0 := by assumption) (g1 := by assumption) (g2 := by assumption) (g3 := by assumption) (hn := by assumption) (kk9 := ?_)); (intro x09Z x19Z x29Z x39Z x49Z x59Z x69Z x79Z h9Z tk9Z hf09Z hf19Z hf29Z hf39Z hf49Z nkZ F9Z N9Z; (try simp only [AllLt, and_true] at hf29Z); (repeat (have h9Z := And.left hf29Z; replace hf29Z := And.right hf29Z));(try simp only [AllLt, and_true] at hf39Z); (repeat (have h9Z := And.left hf39Z; replace hf39Z := And.right hf39Z));(try simp only [AllLt, and_true] at hf49Z); (repeat (have h9Z := And.left hf49Z; replace hf49Z := And.right hf49Z)); (try dsimp only); (try k_fold)))
  trivial
theorem allLt_head {d x : Nat} {o : Obj} {l : Led} (h : AllLt d ((x, o) :: l)) : x < d := h.1
inductive RT_c_plain (w : World) (news : Led) (rl : Nat) (v : Value) (ns : Led) : Prop where
  | mk (mx md rg pl mk rn pn fl : Nat) (d om : Obj) (vs : List Value) (y1 y2 : Nat) (f1 f2 f3 f4 : Tok) (q9 : v = .ref mx ∧ ns = (mx, instObj 718 md) :: (md, d) :: (rg, listOf vs.toArray rn) :: (pl, listOf #[] pn) :: (mk, om) :: (y2, tupO #[.str (Str.ofString "order") f3, .int 2 f4]) :: (y1, tupO #[.str (Str.ofString "order") f1, .int 1 f2]) :: news ∧ IsMach rl mk rg fl pl 0 0 0 false d ∧ IntsAre vs [5, 5, 5, 5, 1879048192, 5, 5, 5, 5, 5, 5, 5, 5, 5, 5, 5] ∧ (mk == sysModules) = false ∧ MarkO thePr w [(y2, tupO #[.str (Str.ofString "order") f3, .int 2 f4]), (y1, tupO #[.str (Str.ofString "order") f1, .int 1 f2])] om (PyProof.V.putD (encTuple mixEnc [.inl (Str.ofString "order"), .inr 2]) (.int 5) (PyProof.V.putD (encTuple mixEnc [.inl (Str.ofString "order"), .inr 1]) (.int 2) [])) ∧ (md < mx ∧ mx < mk ∧ mx < y1 ∧ mx < y2 ∧ mk < rg ∧ y1 < rg ∧ y2 < rg ∧ rg < pl) ∧ AllLt md news) : RT_c_plain w news rl v ns
theorem c_plain_i {w : World} {news : Led} {rl : Nat} {h₀ : Heap} {L : Addr} {m : Str → Option Value} {s : Shared} {Q : Value → Shared → Prop}
   (kk9 : ∀ v news' h' tk', (RT_c_plain w news rl) v news' → Fr h₀ L h' m → News h₀ L h' news' → Q v { s with heap := h', toks := tk' }) :
   ∀ (mx md rg pl mk rn pn fl : Nat) (d om : Obj) (vs : List Value) (y1 y2 : Nat) (f1 f2 f3 f4 : Tok) (h' : Heap) (tk' : Nat), (IsMach rl mk rg fl pl 0 0 0 false d) → (IntsAre vs [5, 5, 5, 5, 1879048192, 5, 5, 5, 5, 5, 5, 5, 5, 5, 5, 5]) → ((mk == sysModules) = false) → (MarkO thePr w [(y2, tupO #[.str (Str.ofString "order") f3, .int 2 f4]), (y1, tupO #[.str (Str.ofString "order") f1, .int 1 f2])] om (PyProof.V.putD (encTuple mixEnc [.inl (Str.ofString "order"), .inr 2]) (.int 5) (PyProof.V.putD (encTuple mixEnc [.inl (Str.ofString "order"), .inr 1]) (.int 2) []))) → ((md < mx ∧ mx < mk ∧ mx < y1 ∧ mx < y2 ∧ mk < rg ∧ y1 < rg ∧ y2 < rg ∧ rg < pl)) → (AllLt md news) → Fr h₀ L h' m → News h₀ L h' ((mx, instObj 718 md) :: (md, d) :: (rg, listOf vs.toArray rn) :: (pl, listOf #[] pn) :: (mk, om) :: (y2, tupO #[.str (Str.ofString "order") f3, .int 2 f4]) :: (y1, tupO #[.str (Str.ofString "order") f1, .int 1 f2]) :: news) → Q (.ref mx) { s with heap := h', toks := tk' } := by
  intro mx md rg pl mk rn pn fl d om vs y1 y2 f1 f2 f3 f4 h' tk' f09 f19 f29 f39 f49 f59 F N
  exact kk9 _ _ _ _ ⟨mx, md, rg, pl, mk, rn, pn, fl, d, om, vs, y1, y2, f1, f2, f3, f4, rfl, rfl, f09, f19, f29, f39, f49, f59⟩ F N
def S_c_plain (kx : Cx) : Prop := ∀ (news : Led) (rl ln : Nat) (t : Tok) (nm0 : Str) (vs0 : Array Value) (v1 : Value) (n : Int) (b2 b3 c1 c2 e1 e2 e3 e4 e5 e6 : Tok) (r0 : Nat) (T0 : Led) (r1 : Nat) (T1 : Led) (r2 : Nat) (T2 : Led) (r3 : Nat) (T3 : Led) (r4 : Nat) (T4 : Led) (r5 : Nat) (T5 : Led) (r6 : Nat) (T6 : Led) (r7 : Nat) (T7 : Led) (hl : (rl, listOf #[.ref r0, .ref r1, .ref r2, .ref r3, .ref r4, .ref r5, .ref r6, .ref r7] ln) ∈ news) (hr0 : IsRw nm0 vs0 r0 T0) (hT0 : ∀ q ∈ T0, q ∈ news) (hr1 : IsRw (Str.ofString "jcc") #[v1, .str (Str.ofString "order") b2, .int n b3] r1 T1) (hT1 : ∀ q ∈ T1, q ∈ news) (hr2 : IsRw (Str.ofString "order") #[.int 1 c1] r2 T2) (hT2 : ∀ q ∈ T2, q ∈ news) (hr3 : IsRw (Str.ofString "mov_imm") #[.int 32 e1, .int 9 e2, .int 1 e3] r3 T3) (hT3 : ∀ q ∈ T3, q ∈ news) (hr4 : IsRw (Str.ofString "ret") #[] r4 T4) (hT4 : ∀ q ∈ T4, q ∈ news) (hr5 : IsRw (Str.ofString "order") #[.int 2 c2] r5 T5) (hT5 : ∀ q ∈ T5, q ∈ news) (hr6 : IsRw (Str.ofString "mov_imm") #[.int 32 e4, .int 9 e5, .int 2 e6] r6 T6) (hT6 : ∀ q ∈ T6, q ∈ news) (hr7 : IsRw (Str.ofString "ret") #[] r7 T7) (hT7 : ∀ q ∈ T7, q ∈ news) (hk0 : CkRow kx.w kx.mean kx.mg kx.mb r0 T0) (hk1 : CkRow kx.w kx.mean kx.mg kx.mb r1 T1) (hk2 : CkRow kx.w kx.mean kx.mg kx.mb r2 T2) (hk3 : CkRow kx.w kx.mean kx.mg kx.mb r3 T3) (hk4 : CkRow kx.w kx.mean kx.mg kx.mb r4 T4) (hk5 : CkRow kx.w kx.mean kx.mg kx.mb r5 T5) (hk6 : CkRow kx.w kx.mean kx.mg kx.mb r6 T6) (hk7 : CkRow kx.w kx.mean kx.mg kx.mb r7 T7) (hm0 : isMk nm0 = false) (g1 : (nm0 == Str.ofString "jmp") = false) (g2 : (nm0 == Str.ofString "jcc") = false) (g3 : (nm0 == Str.ofString "call") = false) (hn : n = 1 ∨ n = 2) (x9 dx9 : Nat) (l19 : AllLt dx9 (news)) (l29 : dx9 < x9), Bd kx 69 (Str.ofString "PlainRows.__init__") (methScope "PlainRows" "__init__") 615 614 (methBody "PlainRows" "__init__") (fun yq => [(Str.ofString "self", (.ref x9 : Value)), (Str.ofString "rows", (.ref rl : Value)), (Str.ofString "worth", (.int 5 t : Value))].reverse.lookup yq) ((x9, instObj 718 dx9) :: (dx9, dictOf [] 0) :: (news)) (fun v9 ns9 => v9 = .none ∧ ((RT_c_plain kx.w news rl)) (Value.ref x9) ns9)
noncomputable def kap_c_plain : Cx := kapOf S_c_plain
example : True := by
  k_with "T:k_mem" => ((fail_if_success k_extra "off F1"); assumption)
  trivial
set_option maxHeartbeats 4000000 in
theorem c_plain_k : S_c_plain kap_c_plain := by
  intro news rl ln t nm0 vs0 v1 n b2 b3 c1 c2 e1 e2 e3 e4 e5 e6 r0 T0 r1 T1 r2 T2 r3 T3 r4 T4 r5 T5 r6 T6 r7 T7 hl hr0 hT0 hr1 hT1 hr2 hT2 hr3 hT3 hr4 hT4 hr5 hT5 hr6 hT6 hr7 hT7 hk0 hk1 hk2 hk3 hk4 hk5 hk6 hk7 hm0 g1 g2 g3 hn x9 dx9 l19 l29
  have e1 : (methScope "PlainRows" "__init__") = (methScope "PlainRows" "__init__") := rfl
  conv at e1 => rhs; whnf
  have e2 : (methBody "PlainRows" "__init__") = (methBody "PlainRows" "__init__") := rfl
  conv at e2 => rhs; whnf
  (try dsimp only at e1)
  (try dsimp only at e2)
  refine @bd_lit _ _ _ _ _ _ _ _ _ _ _ _ e1 e2 ?_
  clear e1 e2
  unfold Bd
  k_fill
  intro h tk HB HF HX HC HT hdp hun hE hret
  have HW : Wf kap_c_plain 69 := ⟨HB, HX, HT, hdp, hun⟩
  have HN := news_sub HC (sub_tl (sub_tl sub_refl))
  replace hret := fun mq => c_plain_i (Q := fun v9 s9 => v9 = .ref x9 → kap_c_plain.Q .none s9) (fun v9 ns9 h9 tk9 r9 F9 N9 e9 => hret mq .none ns9 h9 tk9 ⟨rfl, e9 ▸ r9⟩ F9 N9)
  have HN1 := news_add hl HN HN
  clear HN
  have hnn := hn
  have HN2 := news_add (List.Mem.head _) (news_add (List.Mem.tail _ (List.Mem.head _)) HN1 HC) HC
  clear HN1 HC
  refine frLet HF ?_
  intro mk HF9
  clear HF
  refine ledLet (by with_reducible assumption) ?_
  intro nk HN9
  k_steps
  all_goals (refine' hret _ _ _ _ _ _ _ _ _ _ _ _ _ _ _ _ _ _ _ _ isMach_mk ?i ?lo ?M ?ord ?al ?bas ?led rfl
             case M => assumption
             case led => k_extra "Z0"
             case bas => k_asm
             case i => exact ints_of rfl
             case lo => assumption
             case ord => (refine ⟨?_, ?_, ?_, ?_, ?_, ?_, ?_, ?_⟩ <;> first | with_reducible assumption | exact lt_led (by with_reducible assumption) (by k_mem) | exact allLt_head (by assumption) | omega)
             case al => (first | walk_at "AllLt" | (assumption)))
theorem c_plain {w : World} {mean : ExcName → Option Value} {mg mb : Str → Option Value} {news : Led} {rl ln : Nat} {t : Tok} {nm0 : Str} {vs0 : Array Value} {v1 : Value} {n : Int} {b2 b3 c1 c2 e1 e2 e3 e4 e5 e6 : Tok} {r0 : Nat} {T0 : Led} {r1 : Nat} {T1 : Led} {r2 : Nat} {T2 : Led} {r3 : Nat} {T3 : Led} {r4 : Nat} {T4 : Led} {r5 : Nat} {T5 : Led} {r6 : Nat} {T6 : Led} {r7 : Nat} {T7 : Led} (hl : (rl, listOf #[.ref r0, .ref r1, .ref r2, .ref r3, .ref r4, .ref r5, .ref r6, .ref r7] ln) ∈ news) (hr0 : IsRw nm0 vs0 r0 T0) (hT0 : ∀ q ∈ T0, q ∈ news) (hr1 : IsRw (Str.ofString "jcc") #[v1, .str (Str.ofString "order") b2, .int n b3] r1 T1) (hT1 : ∀ q ∈ T1, q ∈ news) (hr2 : IsRw (Str.ofString "order") #[.int 1 c1] r2 T2) (hT2 : ∀ q ∈ T2, q ∈ news) (hr3 : IsRw (Str.ofString "mov_imm") #[.int 32 e1, .int 9 e2, .int 1 e3] r3 T3) (hT3 : ∀ q ∈ T3, q ∈ news) (hr4 : IsRw (Str.ofString "ret") #[] r4 T4) (hT4 : ∀ q ∈ T4, q ∈ news) (hr5 : IsRw (Str.ofString "order") #[.int 2 c2] r5 T5) (hT5 : ∀ q ∈ T5, q ∈ news) (hr6 : IsRw (Str.ofString "mov_imm") #[.int 32 e4, .int 9 e5, .int 2 e6] r6 T6) (hT6 : ∀ q ∈ T6, q ∈ news) (hr7 : IsRw (Str.ofString "ret") #[] r7 T7) (hT7 : ∀ q ∈ T7, q ∈ news) (hk0 : CkRow w mean mg mb r0 T0) (hk1 : CkRow w mean mg mb r1 T1) (hk2 : CkRow w mean mg mb r2 T2) (hk3 : CkRow w mean mg mb r3 T3) (hk4 : CkRow w mean mg mb r4 T4) (hk5 : CkRow w mean mg mb r5 T5) (hk6 : CkRow w mean mg mb r6 T6) (hk7 : CkRow w mean mg mb r7 T7) (hm0 : isMk nm0 = false) (g1 : (nm0 == Str.ofString "jmp") = false) (g2 : (nm0 == Str.ofString "jcc") = false) (g3 : (nm0 == Str.ofString "call") = false) (hn : n = 1 ∨ n = 2) :
   Ct w mean mg mb 72 718 (news) True [.ref rl, .int 5 t] (RT_c_plain w news rl) := by
  refine ct_cls (by k_is) (by k_is) (by k_is) (fun x9 dx9 l19 l29 => ?_)
  k_extra "Z2"
  exact @kap_all S_c_plain c_plain_k ⟨w, mean, mg, mb, dp, un, gd, outer, A₀, base, h₀, L, s, Q, E⟩ news rl ln t nm0 vs0 v1 n b2 b3 c1 c2 e1 e2 e3 e4 e5 e6 r0 T0 r1 T1 r2 T2 r3 T3 r4 T4 r5 T5 r6 T6 r7 T7 hl hr0 hT0 hr1 hT1 hr2 hT2 hr3 hT3 hr4 hT4 hr5 hT5 hr6 hT6 hr7 hT7 hk0 hk1 hk2 hk3 hk4 hk5 hk6 hk7 hm0 g1 g2 g3 hn x9 dx9 l19 l29
example : True := by
  k_with "off F1" => skip
  trivial
end
section
set_option maxHeartbeats 1000000
example : True := by
  k_with "nolean" => fail_if_success k_extra "off G0"
  trivial
def bcode (o : Str) (sz : Int) : Int := spot o * 16 + (if sz = 64 then 5 else 6)
def CodeOk (o : Str) (sz b c : Int) : Prop := SizeOk sz c ∧ Builtin.bitAnd c 8 = b ∧ c.fdiv (2 ^ Int.toNat 4) = spot o ∧ (c == 24) = false ∧ (c == 133) = false ∧ (c == 6) = false
theorem codeOk_reg {o : Str} {sz : Int} (ho : o ∈ ops) (hz : sz = 64 ∨ sz = 32) : CodeOk o sz 8 (bcode o sz + 8) := by
  simp only [ops, List.mem_cons, List.not_mem_nil, or_false] at ho
  rcases hz with rfl | rfl
  · rcases ho with rfl | rfl | rfl | rfl | rfl | rfl | rfl | rfl | rfl | rfl | rfl <;> (refine ⟨.inl ⟨rfl, by decide +kernel⟩, ?_, ?_, ?_, ?_, ?_⟩ <;> decide +kernel)
  · rcases ho with rfl | rfl | rfl | rfl | rfl | rfl | rfl | rfl | rfl | rfl | rfl <;> (refine ⟨.inr ⟨rfl, by decide +kernel⟩, ?_, ?_, ?_, ?_, ?_⟩ <;> decide +kernel)
theorem codeOk_imm {o : Str} {sz : Int} (ho : o ∈ ops) (hz : sz = 64 ∨ sz = 32) : CodeOk o sz 0 (bcode o sz) := by
  simp only [ops, List.mem_cons, List.not_mem_nil, or_false] at ho
  rcases hz with rfl | rfl
  · rcases ho with rfl | rfl | rfl | rfl | rfl | rfl | rfl | rfl | rfl | rfl | rfl <;> (refine ⟨.inl ⟨rfl, by decide +kernel⟩, ?_, ?_, ?_, ?_, ?_⟩ <;> decide +kernel)
  · rcases ho with rfl | rfl | rfl | rfl | rfl | rfl | rfl | rfl | rfl | rfl | rfl <;> (refine ⟨.inr ⟨rfl, by decide +kernel⟩, ?_, ?_, ?_, ?_, ?_⟩ <;> decide +kernel)
inductive RT_c_bregS (news : Led) (o : Str) (d : Int) (s9 : Int) (f9 : Int) (sz : Int) (v : Value) (ns : Led) : Prop where
  | mk (ox dx : Nat) (d' : Obj) (q9 : v = .ref ox ∧ ns = (ox, instObj 133 dx) :: (dx, d') :: news ∧ IsOrd (bcode o sz + 8) d s9 f9 0 0 d') : RT_c_bregS news o d s9 f9 sz v ns
theorem c_bregS_i {news : Led} {o : Str} {d s9 f9 sz : Int} {h₀ : Heap} {L : Addr} {m : Str → Option Value} {s : Shared} {Q : Value → Shared → Prop}
   (kk9 : ∀ v news' h' tk', (RT_c_bregS news o d s9 f9 sz) v news' → Fr h₀ L h' m → News h₀ L h' news' → Q v { s with heap := h', toks := tk' }) :
   ∀ (ox dx : Nat) (d' : Obj) (h' : Heap) (tk' : Nat), (IsOrd (bcode o sz + 8) d s9 f9 0 0 d') → Fr h₀ L h' m → News h₀ L h' ((ox, instObj 133 dx) :: (dx, d') :: news) → Q (.ref ox) { s with heap := h', toks := tk' } := by
  intro ox dx d' h' tk' f09 F N
  exact kk9 _ _ _ _ ⟨ox, dx, d', rfl, rfl, f09⟩ F N
theorem c_bregS {w : World} {mean : ExcName → Option Value} {mg mb : Str → Option Value} {news : Led} {o : Str} {d s9 f9 sz : Int} {t u t1 t2 t3 : Tok} (ho : o ∈ ops) (hz : sz = 64 ∨ sz = 32) :
   Ct w mean mg mb 20 230 (news) True [.str o t, .int d t1, .int s9 t2, .int f9 t3, .int sz u] (RT_c_bregS news o d s9 f9 sz) := by
  intro dp un gd cn cs fa ccd cl outer A₀ base h₀ L m s Q E HB HF HX HN HT hkind hp hdp hun hret
  replace hret := c_bregS_i hret
  rcases hz with rfl | rfl
  · refine c_breg64 ho dp un gd cn cs fa ccd cl outer A₀ base h₀ L m s Q E HB HF HX HN HT hkind hp hdp hun ?_
    rintro v ns h' tk ⟨ox, dx, d', rfl, rfl, hd⟩ F N
    exact hret ox dx d' _ _ hd F N
  · refine c_breg32 ho dp un gd cn cs fa ccd cl outer A₀ base h₀ L m s Q E HB HF HX HN HT hkind hp hdp hun ?_
    rintro v ns h' tk ⟨ox, dx, d', rfl, rfl, hd⟩ F N
    exact hret ox dx d' _ _ hd F N
theorem c_bregS_v (kx : Cx) (cn8 : Str) (cs8 : Scope) (a8 : Addr) (ccd8 : Value) (cl8 : List (Str × Addr)) (zk : cs8.kind = .function) {D8 : Nat} (zW : Wf kx D8) (zD : Nat.ble 20 D8 = true) {news : Led} {o : Str} {d s9 f9 sz : Int} {t u t1 t2 t3 : Tok} {m8 : Str → Option Value} {h9 : Heap} {tk9 : Nat} {Q8 E8 : Value → Shared → Prop} (zF : Fr kx.h₀ kx.L h9 m8) (zN : News kx.h₀ kx.L h9 ((news))) (ho : o ∈ ops) (hz : sz = 64 ∨ sz = 32)
   (kk9 : ∀ (ox dx : Nat) (d' : Obj) (h' : Heap) (tk' : Nat), (IsOrd (bcode o sz + 8) d s9 f9 0 0 d') → let n' : Led := ((ox, instObj 133 dx) :: (dx, d') :: news); Fr kx.h₀ kx.L h' m8 → News kx.h₀ kx.L h' n' → Q8 (.ref ox) (kSt kx h' tk')) : wpAny (kMd kx) (kAr kx (envX cn8 cs8 kx.L a8 ccd8 cl8)) (call (.ref 230) [.str o t, .int d t1, .int s9 t2, .int f9 t3, .int sz u]) Q8 E8 (kSt kx h9 tk9) := by
  refine cv_use kx cn8 cs8 a8 ccd8 cl8 zk zW zD (c_bregS (ho := ho) (hz := hz)) zF zN ?_
  rintro v news' h' tk' ⟨ox, dx, d', rfl, rfl, f09⟩ F N
  exact kk9 ox dx d' _ _ f09 F N
inductive RT_c_bimmS (news : Led) (o : Str) (d : Int) (s9 : Int) (f9 : Int) (sz : Int) (v : Value) (ns : Led) : Prop where
  | mk (ox dx : Nat) (d' : Obj) (q9 : v = .ref ox ∧ ns = (ox, instObj 133 dx) :: (dx, d') :: news ∧ IsOrd (bcode o sz) d 0 f9 s9 0 d') : RT_c_bimmS news o d s9 f9 sz v ns
theorem c_bimmS_i {news : Led} {o : Str} {d s9 f9 sz : Int} {h₀ : Heap} {L : Addr} {m : Str → Option Value} {s : Shared} {Q : Value → Shared → Prop}
   (kk9 : ∀ v news' h' tk', (RT_c_bimmS news o d s9 f9 sz) v news' → Fr h₀ L h' m → News h₀ L h' news' → Q v { s with heap := h', toks := tk' }) :
   ∀ (ox dx : Nat) (d' : Obj) (h' : Heap) (tk' : Nat), (IsOrd (bcode o sz) d 0 f9 s9 0 d') → Fr h₀ L h' m → News h₀ L h' ((ox, instObj 133 dx) :: (dx, d') :: news) → Q (.ref ox) { s with heap := h', toks := tk' } := by
  intro ox dx d' h' tk' f09 F N
  exact kk9 _ _ _ _ ⟨ox, dx, d', rfl, rfl, f09⟩ F N
theorem c_bimmS {w : World} {mean : ExcName → Option Value} {mg mb : Str → Option Value} {news : Led} {o : Str} {d s9 f9 sz : Int} {t u t1 t2 t3 : Tok} (ho : o ∈ ops) (hz : sz = 64 ∨ sz = 32) :
   Ct w mean mg mb 20 238 (news) True [.str o t, .int d t1, .int s9 t2, .int f9 t3, .int sz u] (RT_c_bimmS news o d s9 f9 sz) := by
  intro dp un gd cn cs fa ccd cl outer A₀ base h₀ L m s Q E HB HF HX HN HT hkind hp hdp hun hret
  replace hret := c_bimmS_i hret
  rcases hz with rfl | rfl
  · refine c_bimm64 ho dp un gd cn cs fa ccd cl outer A₀ base h₀ L m s Q E HB HF HX HN HT hkind hp hdp hun ?_
    rintro v ns h' tk ⟨ox, dx, d', rfl, rfl, hd⟩ F N
    exact hret ox dx d' _ _ hd F N
  · refine c_bimm32 ho dp un gd cn cs fa ccd cl outer A₀ base h₀ L m s Q E HB HF HX HN HT hkind hp hdp hun ?_
    rintro v ns h' tk ⟨ox, dx, d', rfl, rfl, hd⟩ F N
    exact hret ox dx d' _ _ hd F N
theorem c_bimmS_v (kx : Cx) (cn8 : Str) (cs8 : Scope) (a8 : Addr) (ccd8 : Value) (cl8 : List (Str × Addr)) (zk : cs8.kind = .function) {D8 : Nat} (zW : Wf kx D8) (zD : Nat.ble 20 D8 = true) {news : Led} {o : Str} {d s9 f9 sz : Int} {t u t1 t2 t3 : Tok} {m8 : Str → Option Value} {h9 : Heap} {tk9 : Nat} {Q8 E8 : Value → Shared → Prop} (zF : Fr kx.h₀ kx.L h9 m8) (zN : News kx.h₀ kx.L h9 ((news))) (ho : o ∈ ops) (hz : sz = 64 ∨ sz = 32)
   (kk9 : ∀ (ox dx : Nat) (d' : Obj) (h' : Heap) (tk' : Nat), (IsOrd (bcode o sz) d 0 f9 s9 0 d') → let n' : Led := ((ox, instObj 133 dx) :: (dx, d') :: news); Fr kx.h₀ kx.L h' m8 → News kx.h₀ kx.L h' n' → Q8 (.ref ox) (kSt kx h' tk')) : wpAny (kMd kx) (kAr kx (envX cn8 cs8 kx.L a8 ccd8 cl8)) (call (.ref 238) [.str o t, .int d t1, .int s9 t2, .int f9 t3, .int sz u]) Q8 E8 (kSt kx h9 tk9) := by
  refine cv_use kx cn8 cs8 a8 ccd8 cl8 zk zW zD (c_bimmS (ho := ho) (hz := hz)) zF zN ?_
  rintro v news' h' tk' ⟨ox, dx, d', rfl, rfl, f09⟩ F N
  exact kk9 ox dx d' _ _ f09 F N
example : True := by
  k_with "off G0" => skip
  trivial
end
section
open PySem
theorem fm_cases {a b M : Int} (a0 : 0 ≤ a) (a1 : a < M) (b0 : 0 ≤ b) (b1 : b < M) : (b ≤ a ∧ (a - b).fmod M = a - b) ∨ (a < b ∧ (a - b).fmod M = a - b + M) := by
  have hM : 0 ≤ M := by omega
  rw [Int.fmod_eq_emod_of_nonneg _ hM]
  by_cases h : b ≤ a
  · exact .inl ⟨h, Int.emod_eq_of_lt (by omega) (by omega)⟩
  · refine .inr ⟨by omega, ?_⟩
    have : (a - b + M) % M = (a - b) % M := Int.add_emod_right _ _
    rw [← this]; exact Int.emod_eq_of_lt (by omega) (by omega)
def sgM (H M a : Int) : Int := if H ≤ a then a - M else a
theorem z_eq {a b M d : Int} (hd : (b ≤ a ∧ d = a - b) ∨ (a < b ∧ d = a - b + M)) (a0 : 0 ≤ a) (b1 : b < M) : (d == 0) = (a == b) := by
  rw [Bool.eq_iff_iff]; simp only [beq_iff_eq]; omega
theorem z_ge {a b : Int} : (!decide (a < b)) = decide (b ≤ a) := by
  rw [Bool.eq_iff_iff]; simp only [Bool.not_eq_true', decide_eq_false_iff_not, decide_eq_true_eq]; omega
theorem s_lt {a b H M d : Int} (hM : M = 2 * H) (hd : (b ≤ a ∧ d = a - b) ∨ (a < b ∧ d = a - b + M)) (a0 : 0 ≤ a) (a1 : a < M) (b0 : 0 ≤ b) (b1 : b < M) :
    (decide (H ≤ d) != ((decide (H ≤ a) != decide (H ≤ b)) && (decide (H ≤ d) != decide (H ≤ a)))) = decide (sgM H M a < sgM H M b) := by
  unfold sgM
  by_cases h1 : H ≤ a <;> by_cases h2 : H ≤ b <;> by_cases h3 : H ≤ d <;> simp only [h1, h2, h3, if_true, if_false, decide_true, decide_false] <;> rw [Bool.eq_iff_iff] <;> simp <;> omega
theorem s_eq {a b H M d : Int} (hM : M = 2 * H) (hd : (b ≤ a ∧ d = a - b) ∨ (a < b ∧ d = a - b + M)) (a0 : 0 ≤ a) (a1 : a < M) (b0 : 0 ≤ b) (b1 : b < M) :
    (d == 0) = (sgM H M a == sgM H M b) := by
  rw [z_eq hd a0 b1]; unfold sgM
  by_cases h1 : H ≤ a <;> by_cases h2 : H ≤ b <;> simp only [h1, h2, if_true, if_false] <;> rw [Bool.eq_iff_iff] <;> simp only [beq_iff_eq] <;> omega
theorem b_gt {p q : Int} : (!decide (p < q) && !(p == q)) = decide (q < p) := by
  rw [Bool.eq_iff_iff]; simp only [Bool.and_eq_true, Bool.not_eq_true', decide_eq_false_iff_not, beq_eq_false_iff_ne, decide_eq_true_eq, ne_eq]; omega
theorem b_le {p q : Int} : (decide (p < q) || (p == q)) = decide (p ≤ q) := by
  rw [Bool.eq_iff_iff]; simp only [Bool.or_eq_true, beq_iff_eq, decide_eq_true_eq]; omega
theorem cmp_says {o : Str} (ho : o ∈ ops) (hs : ¬ o = Str.ofString "set") {a b H M d : Int} {bits : Bool} (hM : M = 2 * H) (hd : (b ≤ a ∧ d = a - b) ∨ (a < b ∧ d = a - b + M)) (a0 : 0 ≤ a) (a1 : a < M) (b0 : 0 ≤ b) (b1 : b < M) :
    condB (condT o) (decide (a < b)) (d == 0) (decide (H ≤ d)) ((decide (H ≤ a) != decide (H ≤ b)) && (decide (H ≤ d) != decide (H ≤ a))) = (if isSg o = true then saysP (Txt.slice o (some 1) none) (sgM H M a) (sgM H M b) bits else saysP o a b bits) := by
  have e1 := z_eq hd a0 b1
  have e2 := s_lt hM hd a0 a1 b0 b1
  have e3 := s_eq hM hd a0 a1 b0 b1
  generalize hv : ((decide (H ≤ a) != decide (H ≤ b)) && (decide (H ≤ d) != decide (H ≤ a))) = v at e2 ⊢
  simp only [ops, List.mem_cons, List.not_mem_nil, or_false] at ho
  rcases ho with rfl | rfl | rfl | rfl | rfl | rfl | rfl | rfl | rfl | rfl | rfl
  all_goals (first | exact absurd rfl hs | (show (d == 0) = (a == b); exact e1) | (show (!(d == 0)) = (!(a == b)); rw [e1]) | (show (!decide (a < b) && !(d == 0)) = decide (b < a); rw [e1]; exact b_gt) | (show (!decide (a < b)) = decide (b ≤ a); exact z_ge) | (rfl) | (show (decide (a < b) || (d == 0)) = decide (a ≤ b); rw [e1]; exact b_le) | (show (!(decide (H ≤ d) != v) && !(d == 0)) = decide (sgM H M b < sgM H M a); rw [e2, e3]; exact b_gt) | (show (!(decide (H ≤ d) != v)) = decide (sgM H M b ≤ sgM H M a); rw [e2]; exact z_ge) | (show (decide (H ≤ d) != v) = decide (sgM H M a < sgM H M b); exact e2) | (show ((decide (H ≤ d) != v) || (d == 0)) = decide (sgM H M a ≤ sgM H M b); rw [e2, e3]; exact b_le))
theorem cmp64 {o : Str} (ho : o ∈ ops) (hs : ¬ o = Str.ofString "set") (x y : Int) :
    condB (condT o) (decide (x.fmod (pw 64) < y.fmod (pw 64))) ((x.fmod (pw 64) - y.fmod (pw 64)).fmod (pw 64) == 0) (sgB 64 ((x.fmod (pw 64) - y.fmod (pw 64)).fmod (pw 64))) ((sgB 64 (x.fmod (pw 64)) != sgB 64 (y.fmod (pw 64))) && (sgB 64 ((x.fmod (pw 64) - y.fmod (pw 64)).fmod (pw 64)) != sgB 64 (x.fmod (pw 64)))) = says64 o x y :=
  have p : (0:Int) < pw 64 := by decide
  have hb : ∀ z : Int, 0 ≤ z.fmod (pw 64) := fun z => Int.fmod_nonneg_of_pos z p
  have hc : ∀ z : Int, z.fmod (pw 64) < pw 64 := fun z => Int.fmod_lt_of_pos z p
  cmp_says (H := 9223372036854775808) (M := pw 64) ho hs rfl (fm_cases (hb x) (hc x) (hb y) (hc y)) (hb x) (hc x) (hb y) (hc y)
theorem cmp32 {o : Str} (ho : o ∈ ops) (hs : ¬ o = Str.ofString "set") (x y : Int) :
    condB (condT o) (decide (x.fmod (pw 32) < y.fmod (pw 32))) ((x.fmod (pw 32) - y.fmod (pw 32)).fmod (pw 32) == 0) (sgB 32 ((x.fmod (pw 32) - y.fmod (pw 32)).fmod (pw 32))) ((sgB 32 (x.fmod (pw 32)) != sgB 32 (y.fmod (pw 32))) && (sgB 32 ((x.fmod (pw 32) - y.fmod (pw 32)).fmod (pw 32)) != sgB 32 (x.fmod (pw 32)))) = says32 o x y :=
  have p : (0:Int) < pw 32 := by decide
  have hb : ∀ z : Int, 0 ≤ z.fmod (pw 32) := fun z => Int.fmod_nonneg_of_pos z p
  have hc : ∀ z : Int, z.fmod (pw 32) < pw 32 := fun z => Int.fmod_lt_of_pos z p
  cmp_says (H := 2147483648) (M := pw 32) ho hs rfl (fm_cases (hb x) (hc x) (hb y) (hc y)) (hb x) (hc x) (hb y) (hc y)
end
section
open PySem PyProof.Rows PySem.W
theorem fold_bits (p q : Int → Prop) [DecidablePred p] [DecidablePred q] (ks l0 : List Int) :
    ks.foldl (fun l k => if p k ∧ q k then l ++ [k] else if p k ∧ ¬ q k then l else l) l0 = l0 ++ ks.filter (fun k => decide (p k ∧ q k)) := by
  induction ks generalizing l0 with
  | nil => simp
  | cons k r ih =>
    rw [List.foldl_cons, ih]
    by_cases h : p k ∧ q k
    · rw [if_pos h, List.filter_cons_of_pos (by simpa using h)]; simp
    · rw [if_neg h, ite_self, List.filter_cons_of_neg (by simpa using h)]
theorem bit_low (x : Int) (n i : Nat) (h : i < n) : ((x.fdiv (2 ^ i)).fmod 2 = 1) ↔ (x.fmod (2 ^ n)).toNat.testBit i = true := by
  have p2 : (0 : Int) < 2 ^ n := Int.pow_pos (by decide)
  have pi : (0 : Int) < 2 ^ i := Int.pow_pos (by decide)
  rw [Int.fdiv_eq_ediv_of_nonneg _ (Int.le_of_lt pi), Int.fmod_eq_emod_of_nonneg _ (by decide), Int.fmod_eq_emod_of_nonneg _ (Int.le_of_lt p2)]
  obtain ⟨m, rfl⟩ : ∃ m, n = i + 1 + m := ⟨n - i - 1, by omega⟩
  have hx : x = x % 2 ^ (i + 1 + m) + 2 ^ i * (2 * (2 ^ m * (x / 2 ^ (i + 1 + m)))) := by
    have e := Int.emod_add_mul_ediv x (2 ^ (i + 1 + m))
    have e2 : (2 : Int) ^ (i + 1 + m) * (x / 2 ^ (i + 1 + m)) = 2 ^ i * (2 * (2 ^ m * (x / 2 ^ (i + 1 + m)))) := by
      rw [Int.pow_add, Int.pow_add, Int.pow_one]; simp only [Int.mul_assoc]
    rw [← e2]; omega
  have ha : 0 ≤ x % 2 ^ (i + 1 + m) := Int.emod_nonneg _ (Int.ne_of_gt p2)
  have hd : x / 2 ^ i = (x % 2 ^ (i + 1 + m)) / 2 ^ i + 2 * (2 ^ m * (x / 2 ^ (i + 1 + m))) := by
    conv => lhs; rw [hx]
    exact Int.add_mul_ediv_left _ _ (Int.ne_of_gt pi)
  rw [hd]
  generalize x % 2 ^ (i + 1 + m) = a at ha
  generalize 2 ^ m * (x / 2 ^ (i + 1 + m)) = z
  obtain ⟨c, rfl⟩ := Int.eq_ofNat_of_zero_le ha
  rw [Nat.testBit_eq_decide_div_mod_eq, decide_eq_true_eq, Int.toNat_natCast]
  have : ((c : Int) / 2 ^ i) = ((c / 2 ^ i : Nat) : Int) := by rw [Int.natCast_ediv, Int.natCast_pow]; rfl
  rw [this]; omega
theorem and_bits {n : Nat} {x y : Int} : (!(Builtin.bitAnd (x.fmod (2 ^ n)) (y.fmod (2 ^ n)) == 0)) = bitsB n x y := by
  have p2 : (0 : Int) < 2 ^ n := Int.pow_pos (by decide)
  have hb : ∀ z : Int, 0 ≤ z.fmod (2 ^ n) := fun z => by rw [Int.fmod_eq_emod_of_nonneg _ (Int.le_of_lt p2)]; exact Int.emod_nonneg _ (Int.ne_of_gt p2)
  have hc : ∀ z : Int, (z.fmod (2 ^ n)).toNat < 2 ^ n := fun z => by
    have : z.fmod (2 ^ n) < 2 ^ n := by rw [Int.fmod_eq_emod_of_nonneg _ (Int.le_of_lt p2)]; exact Int.emod_lt_of_pos _ p2
    have e : ((2 ^ n : Nat) : Int) = (2 : Int) ^ n := by rw [Int.natCast_pow]; rfl
    have := hb z
    omega
  rw [bitAnd_pp (hb x) (hb y)]
  unfold bitsB
  have hf := fold_bits (fun k : Int => (x.fdiv (2 ^ k.toNat)).fmod 2 = 1) (fun k : Int => (y.fdiv (2 ^ k.toNat)).fmod 2 = 1) (rangeKs 0 n) []
  rw [hf, List.nil_append, Bool.eq_iff_iff]
  simp only [Bool.not_eq_true', beq_eq_false_iff_ne, ne_eq, decide_eq_false_iff_not]
  refine not_congr ?_
  rw [List.filter_eq_nil_iff]
  constructor
  · intro h k hk
    have hk2 := mem_rangeKs hk
    obtain ⟨i, rfl⟩ := Int.eq_ofNat_of_zero_le hk2.1
    have hi : i < n := by omega
    simp only [decide_eq_true_eq, Int.toNat_natCast, bit_low x n i hi, bit_low y n i hi]
    intro hh
    have h0 : (x.fmod (2 ^ n)).toNat &&& (y.fmod (2 ^ n)).toNat = 0 := by omega
    have := congrArg (Nat.testBit · i) h0
    simp only [Nat.testBit_and, hh.1, hh.2, Nat.zero_testBit] at this
    exact absurd this (by decide)
  · intro h
    have : (x.fmod (2 ^ n)).toNat &&& (y.fmod (2 ^ n)).toNat = 0 := by
      refine Nat.eq_of_testBit_eq fun i => ?_
      rw [Nat.testBit_and, Nat.zero_testBit]
      by_cases hi : i < n
      · have hk : (i : Int) ∈ rangeKs 0 n := by
          unfold rangeKs
          exact List.mem_map.mpr ⟨i, List.mem_range.mpr hi, by omega⟩
        have := h _ hk
        simp only [decide_eq_true_eq, Int.toNat_natCast, bit_low x n i hi, bit_low y n i hi] at this
        rw [Bool.and_eq_false_iff]
        by_cases hh : (x.fmod (2 ^ n)).toNat.testBit i = true
        · right; exact Bool.eq_false_iff.mpr fun g => this ⟨hh, g⟩
        · left; exact Bool.eq_false_iff.mpr hh
      · rw [Nat.testBit_lt_two_pow (Nat.lt_of_lt_of_le (hc x) (Nat.pow_le_pow_right (by decide) (Nat.le_of_not_lt hi)))]; rfl
    omega
theorem set64 (x y : Int) (sg : Bool) : condB (condT (Str.ofString "set")) false (Builtin.bitAnd (x.fmod (pw 64)) (y.fmod (pw 64)) == 0) sg false = says64 (Str.ofString "set") x y := by
  show (!(Builtin.bitAnd (x.fmod (2 ^ 64)) (y.fmod (2 ^ 64)) == 0)) = bitsB 64 x y
  exact and_bits
theorem set32 (x y : Int) (sg : Bool) : condB (condT (Str.ofString "set")) false (Builtin.bitAnd (x.fmod (pw 32)) (y.fmod (pw 32)) == 0) sg false = says32 (Str.ofString "set") x y := by
  show (!(Builtin.bitAnd (x.fmod (2 ^ 32)) (y.fmod (2 ^ 32)) == 0)) = bitsB 32 x y
  exact and_bits
end
section
set_option maxHeartbeats 1000000
example : True := by
  k_with "nolean" => fail_if_success k_extra "off P3"
  trivial
def saysZ (sz : Int) (o : Str) (x y : Int) : Bool := if sz = 64 then says64 o x y else says32 o x y
theorem c_saysS {w : World} {mean : ExcName → Option Value} {mg mb : Str → Option Value} {news : Led} {o : Str} {x y sz : Int} {q t u v : Tok} (hop : o ∈ ops) (hz : sz = 64 ∨ sz = 32) (hx : 0 ≤ x ∧ x < 2^64) (hy : -(2^31) ≤ y ∧ y < 2^64) :
   Ct w mean mg mb 16 761 (news) True [.str o q, .int x t, .int y u, .int sz v] (fun v ns => v = .bool (saysZ sz o x y) ∧ ns = news) := by
  rcases hz with rfl | rfl
  · exact c_says64 hop hx hy
  · exact c_says32 hop hx hy
theorem row_reg {w : World} {mean : ExcName → Option Value} {mg mb : Str → Option Value} {o : Str} {xs : List Int} {g k sz : Int} {a1 a2 a3 : Tok} (ho : o ∈ ops) (hz : sz = 64 ∨ sz = 32) (hlen : xs.length = 16) (hg0 : 0 ≤ g) (hg1 : g < 16) (hk0 : 0 ≤ k) (hk1 : k < 16) :
    ∃ cf zf sf vf, FlagRow w mean mg mb (bname o) #[.int sz a1, .int g a2, .int k a3] xs cf zf sf vf ∧ condB (condT o) cf zf sf vf = saysZ sz o (xs.getD g.toNat 0) (xs.getD k.toNat 0) := by
  by_cases e : o = Str.ofString "set"
  · subst e
    refine ⟨_, _, _, _, fun mx md rl mk rg fl pl rn pt pc od st ov d vs rest tn hM hm3 hpt hI ha hap => c_two_test (xs := xs) (g := g) (k := k) (sz := sz) hM hm3 hpt hI hlen hg0 hg1 hz ha hap hk0 hk1, ?_⟩
    rcases hz with rfl | rfl
    · exact set64 _ _ _
    · exact set32 _ _ _
  · have eb : bname o = Str.ofString "cmp" := if_neg e
    rw [eb]
    refine ⟨_, _, _, _, fun mx md rl mk rg fl pl rn pt pc od st ov d vs rest tn hM hm3 hpt hI ha hap => c_two_cmp (xs := xs) (g := g) (k := k) (sz := sz) hM hm3 hpt hI hlen hg0 hg1 hz ha hap hk0 hk1, ?_⟩
    rcases hz with rfl | rfl
    · exact cmp64 ho e _ _
    · exact cmp32 ho e _ _
theorem row_imm {w : World} {mean : ExcName → Option Value} {mg mb : Str → Option Value} {o : Str} {xs : List Int} {g k sz : Int} {a1 a2 a3 : Tok} (ho : o ∈ ops) (hz : sz = 64 ∨ sz = 32) (hlen : xs.length = 16) (hg0 : 0 ≤ g) (hg1 : g < 16)  :
    ∃ cf zf sf vf, FlagRow w mean mg mb (iname o) #[.int sz a1, .int g a2, .int k a3] xs cf zf sf vf ∧ condB (condT o) cf zf sf vf = saysZ sz o (xs.getD g.toNat 0) k := by
  by_cases e : o = Str.ofString "set"
  · subst e
    refine ⟨_, _, _, _, fun mx md rl mk rg fl pl rn pt pc od st ov d vs rest tn hM hm3 hpt hI ha hap => c_two_test_imm (xs := xs) (g := g) (k := k) (sz := sz) hM hm3 hpt hI hlen hg0 hg1 hz ha hap , ?_⟩
    rcases hz with rfl | rfl
    · exact set64 _ _ _
    · exact set32 _ _ _
  · have eb : iname o = Str.ofString "cmp_imm" := if_neg e
    rw [eb]
    refine ⟨_, _, _, _, fun mx md rl mk rg fl pl rn pt pc od st ov d vs rest tn hM hm3 hpt hI ha hap => c_two_cmp_imm (xs := xs) (g := g) (k := k) (sz := sz) hM hm3 hpt hI hlen hg0 hg1 hz ha hap , ?_⟩
    rcases hz with rfl | rfl
    · exact cmp64 ho e _ _
    · exact cmp32 ho e _ _
theorem nm_facts {o : Str} (f : Str → Str) (hf : f = bname ∨ f = iname) : (f o == Str.ofString "mov") = false ∧ (f o == Str.ofString "mov_imm") = false ∧ (f o == Str.ofString "movabs") = false ∧ (f o == Str.ofString "movzx") = false ∧ (f o == Str.ofString "movsx") = false ∧ (f o == Str.ofString "bswap") = false ∧ (f o == Str.ofString "ror16") = false ∧ isMk (f o) = false ∧ (f o == Str.ofString "order") = false := by
  rcases hf with rfl | rfl
  · unfold bname
    by_cases e : o = Str.ofString "set"
    · rw [if_pos e]; decide
    · rw [if_neg e]; decide
  · unfold iname
    by_cases e : o = Str.ofString "set"
    · rw [if_pos e]; decide
    · rw [if_neg e]; decide

example : True := by
  k_with "off P3" => skip
  trivial
end
section
set_option maxHeartbeats 1000000
inductive RT_c_maker (news : Led) (v : Value) (ns : Led) : Prop where
  | mk (mx md rl rn : Nat) (k1 k2 : Int) (t1 t2 t3 : Tok) (q9 : v = .ref mx ∧ ns = (mx, instObj 375 md) :: (md, dictOf [⟨k1, .str (Str.ofString "rows") t1, .ref rl⟩, ⟨k2, .str (Str.ofString "next_label") t2, .int 0 t3⟩] 2) :: (rl, listOf #[] rn) :: news ∧ mx ≠ rl ∧ md ≠ rl ∧ AllLt rl news) : RT_c_maker news v ns
theorem c_maker_i {news : Led} {h₀ : Heap} {L : Addr} {m : Str → Option Value} {s : Shared} {Q : Value → Shared → Prop}
   (kk9 : ∀ v news' h' tk', (RT_c_maker news) v news' → Fr h₀ L h' m → News h₀ L h' news' → Q v { s with heap := h', toks := tk' }) :
   ∀ (mx md rl rn : Nat) (k1 k2 : Int) (t1 t2 t3 : Tok) (h' : Heap) (tk' : Nat), (mx ≠ rl) → (md ≠ rl) → (AllLt rl news) → Fr h₀ L h' m → News h₀ L h' ((mx, instObj 375 md) :: (md, dictOf [⟨k1, .str (Str.ofString "rows") t1, .ref rl⟩, ⟨k2, .str (Str.ofString "next_label") t2, .int 0 t3⟩] 2) :: (rl, listOf #[] rn) :: news) → Q (.ref mx) { s with heap := h', toks := tk' } := by
  intro mx md rl rn k1 k2 t1 t2 t3 h' tk' f09 f19 f29 F N
  exact kk9 _ _ _ _ ⟨mx, md, rl, rn, k1, k2, t1, t2, t3, rfl, rfl, f09, f19, f29⟩ F N
def S_c_maker (kx : Cx) : Prop := ∀ (news : Led) (x9 dx9 : Nat) (l19 : AllLt dx9 (news)) (l29 : dx9 < x9), Bd kx 13 (Str.ofString "Maker.__init__") (methScope "Maker" "__init__") 358 357 (methBody "Maker" "__init__") (fun yq => [(Str.ofString "self", (.ref x9 : Value))].reverse.lookup yq) ((x9, instObj 375 dx9) :: (dx9, dictOf [] 0) :: (news)) (fun v9 ns9 => v9 = .none ∧ ((RT_c_maker news)) (Value.ref x9) ns9)
noncomputable def kap_c_maker : Cx := kapOf S_c_maker
example : True := by
  k_with "T:k_mem" => ((fail_if_success k_extra "off G6m"); assumption)
  trivial
theorem c_maker_k : S_c_maker kap_c_maker := by
  intro news x9 dx9 l19 l29
  have e1 : (methScope "Maker" "__init__") = (methScope "Maker" "__init__") := rfl
  conv at e1 => rhs; whnf
  have e2 : (methBody "Maker" "__init__") = (methBody "Maker" "__init__") := rfl
  conv at e2 => rhs; whnf
  (try dsimp only at e1)
  (try dsimp only at e2)
  refine @bd_lit _ _ _ _ _ _ _ _ _ _ _ _ e1 e2 ?_
  clear e1 e2
  unfold Bd
  k_fill
  intro h tk HB HF HX HC HT hdp hun hE hret
  have HW : Wf kap_c_maker 13 := ⟨HB, HX, HT, hdp, hun⟩
  have HN := news_sub HC (sub_tl (sub_tl sub_refl))
  replace hret := fun mq => c_maker_i (Q := fun v9 s9 => v9 = .ref x9 → kap_c_maker.Q .none s9) (fun v9 ns9 h9 tk9 r9 F9 N9 e9 => hret mq .none ns9 h9 tk9 ⟨rfl, e9 ▸ r9⟩ F9 N9)
  clear HN
  refine frLet HF ?_
  intro mk HF9
  clear HF
  refine ledLet (by with_reducible assumption) ?_
  intro nk HN9
  k_steps
  all_goals (refine' hret _ _ _ _ _ _ _ _ _ _ _ _ ?n1 ?n2 ?al ?bas ?led rfl
             case led => k_extra "Z0"
             case bas => k_asm
             case n1 => (first | k_ne | assumption | omega)
             case n2 => (first | k_ne | assumption | omega)
             case al => (first | walk_at "AllLt" | ((first | assumption | k_asm))))
theorem c_maker {w : World} {mean : ExcName → Option Value} {mg mb : Str → Option Value} {news : Led}   :
   Ct w mean mg mb 16 375 (news) True [] (RT_c_maker news) := by
  refine ct_cls (by k_is) (by k_is) (by k_is) (fun x9 dx9 l19 l29 => ?_)
  k_extra "Z2"
  exact @kap_all S_c_maker c_maker_k ⟨w, mean, mg, mb, dp, un, gd, outer, A₀, base, h₀, L, s, Q, E⟩ news x9 dx9 l19 l29
theorem c_maker_v (kx : Cx) (cn8 : Str) (cs8 : Scope) (a8 : Addr) (ccd8 : Value) (cl8 : List (Str × Addr)) (zk : cs8.kind = .function) {D8 : Nat} (zW : Wf kx D8) (zD : Nat.ble 16 D8 = true) {news : Led} {m8 : Str → Option Value} {h9 : Heap} {tk9 : Nat} {Q8 E8 : Value → Shared → Prop} (zF : Fr kx.h₀ kx.L h9 m8) (zN : News kx.h₀ kx.L h9 ((news))) 
   (kk9 : ∀ (mx md rl rn : Nat) (k1 k2 : Int) (t1 t2 t3 : Tok) (h' : Heap) (tk' : Nat), (mx ≠ rl) → (md ≠ rl) → (AllLt rl news) → let n' : Led := ((mx, instObj 375 md) :: (md, dictOf [⟨k1, .str (Str.ofString "rows") t1, .ref rl⟩, ⟨k2, .str (Str.ofString "next_label") t2, .int 0 t3⟩] 2) :: (rl, listOf #[] rn) :: news); Fr kx.h₀ kx.L h' m8 → News kx.h₀ kx.L h' n' → Q8 (.ref mx) (kSt kx h' tk')) : wpAny (kMd kx) (kAr kx (envX cn8 cs8 kx.L a8 ccd8 cl8)) (call (.ref 375) []) Q8 E8 (kSt kx h9 tk9) := by
  refine cv_use kx cn8 cs8 a8 ccd8 cl8 zk zW zD (c_maker) zF zN ?_
  rintro v news' h' tk' ⟨mx, md, rl, rn, k1, k2, t1, t2, t3, rfl, rfl, f09, f19, f29⟩ F N
  exact kk9 mx md rl rn k1 k2 t1 t2 t3 _ _ f09 f19 f29 F N
example : True := by
  k_with "off G6m" => skip
  trivial
end
section
set_option maxHeartbeats 1000000
example : True := by
  k_with "nolean" => fail_if_success k_extra "off H1"
  trivial
noncomputable def caseBody : List Stmt := stmtsOf "_law_case_holds" PySem.Challenge.pw_ok0177_01.main.body
noncomputable def caseSt (n : Nat) : Stmt := (caseBody)[n]?.getD (.Pass ⟨0,0,0,0⟩)
noncomputable def caseScope : Scope := scopeIn "_law_case_holds" PySem.Challenge.pw_ok0177_01.main.body
abbrev mset (x : String) (v : Value) (m : Str → Option Value) : Str → Option Value := fun y => if y = Str.ofString x then some v else m y
abbrev m0 : Str → Option Value := fun _ => none
def Seg (w : World) (mean : ExcName → Option Value) (mg mb : Str → Option Value) (i : Nat) (L : Addr) (m : Str → Option Value) (news : Led) (Ret : (Str → Option Value) → Led → Prop) : Prop :=
  ∀ (dp un : Nat) (gd : Option (List Code)) (outer : List Env) (A₀ : Around) (base g : Heap) (s : Shared) (Q : Flow → Shared → Prop) (E : Value → Shared → Prop) (rest : List Stmt),
    Below A₀ base outer g → Fr g L s.heap m → (hd.heap_39 w.params).In g → News g L s.heap news → Top hd.view_39 loo mean mg mb g → dp + 140 < recursionLimit → un + 8 * 140 < cLine →
    (∀ m' news' h' tk', Ret m' news' → Fr g L h' m' → News g L h' news' → wpAny (model PySem.Challenge.rw_ok0177_01.row.prog w) (ktrTop dp un gd (Str.ofString "_law_case_holds") caseScope L 766 (.ref 765) (cellsFrom (L + 1) caseScope.names []) outer) (execs rest (envOfC (Str.ofString "_law_case_holds") caseScope L 766 (.ref 765))) Q E { s with heap := h', toks := tk' }) →
    wpAny (model PySem.Challenge.rw_ok0177_01.row.prog w) (ktrTop dp un gd (Str.ofString "_law_case_holds") caseScope L 766 (.ref 765) (cellsFrom (L + 1) caseScope.names []) outer) (execs (caseSt i :: rest) (envOfC (Str.ofString "_law_case_holds") caseScope L 766 (.ref 765))) Q E s
theorem pen_up {p x : Nat} {rest : Led} {B : Nat} {k k' : Int} {T : Led} (h : PenT p x rest B k T) (hk : k ≤ k') : PenT p x rest B k' T := by
  obtain ⟨a, b, n, vs, xs, nx, ta, tb, e, h0, h1, r⟩ := h
  exact ⟨a, b, n, vs, xs, nx, ta, tb, e, h0, Int.le_trans h1 hk, r⟩

example : True := by
  k_with "off H1" => skip
  trivial
end
section
structure SegCx where
  x : Cx
  rest : List Stmt
  Q : Flow → Shared → Prop
abbrev sgEnv (x : Cx) (scope : Scope) : Env := envX (Str.ofString "_law_case_holds") scope x.L 766 (.ref 765) (cellsFrom (x.L + 1) scope.names [])
def SegL (k : SegCx) (scope : Scope) (st : Stmt) (m : Str → Option Value) (news : Led) (Ret : (Str → Option Value) → Led → Prop) : Prop :=
  ∀ (h : Heap) (tk : Nat), Wf k.x 140 → Fr k.x.h₀ k.x.L h m → News k.x.h₀ k.x.L h news →
    (∀ m' news' h' tk', Ret m' news' → Fr k.x.h₀ k.x.L h' m' → News k.x.h₀ k.x.L h' news' → wpAny (kMd k.x) (kAr k.x (sgEnv k.x scope)) (execs k.rest (sgEnv k.x scope)) k.Q k.x.E (kSt k.x h' tk')) →
    wpAny (kMd k.x) (kAr k.x (sgEnv k.x scope)) (execs (st :: k.rest) (sgEnv k.x scope)) k.Q k.x.E (kSt k.x h tk)
abbrev SegK (k : SegCx) (i : Nat) (m : Str → Option Value) (news : Led) (Ret : (Str → Option Value) → Led → Prop) : Prop := SegL k caseScope (caseSt i) m news Ret
theorem segL_lit {k : SegCx} {scope scope' : Scope} {st st' : Stmt} {m : Str → Option Value} {news : Led} {Ret : (Str → Option Value) → Led → Prop} (e1 : scope = scope') (e2 : st = st') (h : SegL k scope' st' m news Ret) : SegL k scope st m news Ret := e1 ▸ e2 ▸ h
noncomputable def kapSg (S : SegCx → Prop) : SegCx := Classical.choose (kap_g (⟨cx0, [], fun _ _ => True⟩ : SegCx) S)
theorem sg_all {S : SegCx → Prop} (h : S (kapSg S)) : ∀ y, S y := Classical.choose_spec (kap_g (⟨cx0, [], fun _ _ => True⟩ : SegCx) S) h
abbrev sgAt (w : World) (mean : ExcName → Option Value) (mg mb : Str → Option Value) (L : Addr) (dp un : Nat) (gd : Option (List Code)) (outer : List Env) (A₀ : Around) (base g : Heap) (s : Shared) (Q : Flow → Shared → Prop) (E : Value → Shared → Prop) (rest : List Stmt) : SegCx := ⟨⟨w, mean, mg, mb, dp, un, gd, outer, A₀, base, g, L, s, fun _ _ => True, E⟩, rest, Q⟩
theorem seg_of {w : World} {mean : ExcName → Option Value} {mg mb : Str → Option Value} {i : Nat} {L : Addr} {m : Str → Option Value} {news : Led} {Ret : (Str → Option Value) → Led → Prop}
    (H : ∀ dp un gd outer A₀ base g s Q E rest, SegK (sgAt w mean mg mb L dp un gd outer A₀ base g s Q E rest) i m news Ret) : Seg w mean mg mb i L m news Ret :=
  fun dp un gd outer A₀ base g s Q E rest B F X N T d u k => H dp un gd outer A₀ base g s Q E rest s.heap s.toks ⟨B, X, T, d, u⟩ F N k
end
section
set_option maxHeartbeats 1000000
example : True := by
  k_with "nolean" => fail_if_success k_extra "off H4"
  trivial
def KindO (rg : Bool) (o : Str) (sz sr nu c so im : Int) : Prop := (rg = true ∧ c = bcode o sz + 8 ∧ so = sr ∧ im = 0) ∨ (rg = false ∧ c = bcode o sz ∧ so = 0 ∧ im = nu)
theorem tup_no {a : Int} {b : Bool} (h : (a == a + 8 && b) = true) : False := by
  simp only [Bool.and_eq_true, beq_iff_eq] at h
  omega
def OtherO (rg : Bool) (xs : List Int) (sr nu ot : Int) : Prop := (rg = true ∧ ot = xs.getD sr.toNat 0) ∨ (rg = false ∧ ot = nu)

example : True := by
  k_with "off H4" => skip
  trivial
end
section
set_option maxHeartbeats 1000000
section
variable {h₀ h : Heap} {L : Addr}
example : True := by
  k_with "nolean" => fail_if_success k_extra "off H5"
  trivial
theorem news_lay {T R : Led} {a b c : Addr × Obj} (own own2 : Led) (N : News h₀ L h (T ++ (own ++ a :: b :: c :: (own2 ++ R)))) : News h₀ L h (a :: b :: c :: (R ++ (T ++ (own ++ own2)))) := news_sub N (sub_cons (mem_r (mem_r (List.Mem.head _))) (sub_cons (mem_r (mem_r (mem_tl (List.Mem.head _)))) (sub_cons (mem_r (mem_r (mem_tl (mem_tl (List.Mem.head _))))) (sub_app (sub_r (sub_r (sub_tl (sub_tl (sub_tl (sub_r sub_refl)))))) (sub_app (sub_l sub_refl) (sub_app (sub_r (sub_l sub_refl)) (sub_r (sub_r (sub_tl (sub_tl (sub_tl (sub_l sub_refl))))))))))))
theorem drop_last {a b c : Addr × Obj} {T1 T0 R J : Led} (N : News h₀ L h (a :: b :: c :: (T1 ++ (T0 ++ (R ++ J))))) : News h₀ L h (a :: b :: c :: (T1 ++ (T0 ++ R))) := news_sub N (sub_cons (List.Mem.head _) (sub_cons (mem_tl (List.Mem.head _)) (sub_cons (mem_tl (mem_tl (List.Mem.head _))) (sub_app (sub_tl (sub_tl (sub_tl (sub_l sub_refl)))) (sub_app (sub_tl (sub_tl (sub_tl (sub_r (sub_l sub_refl))))) (sub_tl (sub_tl (sub_tl (sub_r (sub_r (sub_l sub_refl)))))))))))
theorem ne_news {a b : Nat} {o o' : Obj} {news : Led} (N : News h₀ L h news) (h1 : (a, o) ∈ news) (h2 : (b, o') ∈ news) (hne : o ≠ o') : a ≠ b := fun e => by
  have e1 := N.get h1
  have e2 := N.get h2
  rw [e, e2] at e1
  exact hne (Option.some.inj e1).symm
theorem inst_ne {C d n : Nat} {vs : Array Value} : instObj C d ≠ listOf vs n := fun e => by
  have e1 := congrArg Obj.data e
  cases e1
theorem dict_ne {es : List DictEntry} {k n : Nat} {vs : Array Value} : dictOf es k ≠ listOf vs n := fun e => by
  have e1 := congrArg Obj.data e
  cases e1
theorem ord_ne {c d s f i m : Int} {o : Obj} {vs : Array Value} {n : Nat} (h : IsOrd c d s f i m o) : o ≠ listOf vs n := by
  obtain ⟨_, _, _, _, _, _, _, _, _, _, _, _, _, _, _, _, _, _, rfl⟩ := h
  exact dict_ne
theorem list_ne {v : Value} {vs : List Value} {n k : Nat} : listOf (v :: vs).toArray k ≠ listOf #[] n := fun e => by
  have e1 := congrArg Obj.data e
  injection e1 with e2 _
  cases e2
theorem hap_lay {w : World} {ox' ny' lz' px : Nat} {T R : Led} {a b : Addr × Obj} {rl rn ol n lz lx ny nx ox dx : Nat} {v : Value} {vs : List Value} {d1 d2 od : Obj} {p1 p2 p3 p4 p5 p6 r1 r2 r3 r4 r5 r6 s1 s2 s3 s4 s5 s6 : Int} (hP : IsProg w ox' ny' lz' px T)
    (N : News h₀ L h (a :: b :: (rl, listOf #[] rn) :: (R ++ (T ++ ([(ol, listOf (v :: vs).toArray n), (lz, instObj 133 lx), (lx, d1), (ny, instObj 133 nx), (nx, d2)] ++ [(ox, instObj 133 dx), (dx, od)])))))
    (h1 : IsOrd p1 p2 p3 p4 p5 p6 d1) (h2 : IsOrd r1 r2 r3 r4 r5 r6 d2) (h3 : IsOrd s1 s2 s3 s4 s5 s6 od) {X Y : Addr × Obj} (hR : AllLt rl (X :: Y :: R)) :
    ∀ q ∈ R ++ (T ++ ([(ol, listOf (v :: vs).toArray n), (lz, instObj 133 lx), (lx, d1), (ny, instObj 133 nx), (nx, d2)] ++ [(ox, instObj 133 dx), (dx, od)])), q.1 ≠ rl := by
  intro q hq
  have hm : q ∈ a :: b :: (rl, listOf #[] rn) :: (R ++ (T ++ ([(ol, listOf (v :: vs).toArray n), (lz, instObj 133 lx), (lx, d1), (ny, instObj 133 nx), (nx, d2)] ++ [(ox, instObj 133 dx), (dx, od)]))) := .tail _ (.tail _ (.tail _ hq))
  have hl : (rl, listOf #[] rn) ∈ a :: b :: (rl, listOf #[] rn) :: (R ++ (T ++ ([(ol, listOf (v :: vs).toArray n), (lz, instObj 133 lx), (lx, d1), (ny, instObj 133 nx), (nx, d2)] ++ [(ox, instObj 133 dx), (dx, od)]))) := .tail _ (.tail _ (.head _))
  rcases List.mem_append.mp hq with hq | hq
  · exact allNe_of hR.2.2 q hq
  refine ne_news N hm hl ?_
  obtain ⟨pd, ol', sl, bd, sb, c1, c2, o, kvs, D, k1, k2, k3, k4, k5, t1, t2, t3, t4, t5, u1, s1, s2, s3, rfl, _, hd, _⟩ := hP
  have ho : o ≠ listOf #[] rn := fun e => by
    subst e
    obtain ⟨es, ep, _, he, _⟩ := hd
    cases he
  revert hq
  refine all_app (P := fun q => q.2 ≠ listOf #[] rn) (all_cons inst_ne (all_cons dict_ne (all_cons list_ne (all_cons list_ne (all_cons ho all_nil))))) (all_app (all_cons list_ne (all_cons inst_ne (all_cons (ord_ne h1) (all_cons inst_ne (all_cons (ord_ne h2) all_nil))))) (all_cons inst_ne (all_cons (ord_ne h3) all_nil))) q
end
def RowO (rg : Bool) (o : Str) (sz d sr nu : Int) (nm : Str) (vs : Array Value) : Prop := ∃ a1 a2 a3 : Tok, (rg = true ∧ nm = bname o ∧ vs = #[.int sz a1, .int (hostR d) a2, .int (hostR sr) a3]) ∨ (rg = false ∧ nm = iname o ∧ vs = #[.int sz a1, .int (hostR d) a2, .int nu a3])

example : True := by
  k_with "off H5" => skip
  trivial
end
section
set_option maxHeartbeats 1000000
example : True := by
  k_with "nolean" => fail_if_success k_extra "off H6"
  trivial
inductive Rows2 (nm : Str) (vs : Array Value) (o : Str) (n : Int) (r0 r1 : Nat) (RL : Led) : Prop where
  | mk (T0 T1 : Led) (b1 b2 b3 : Tok) (q9 : IsRw nm vs r0 T0 ∧ (∀ q ∈ T0, q ∈ RL) ∧ IsRw (Str.ofString "jcc") #[.str (condT o) b1, .str (Str.ofString "order") b2, .int n b3] r1 T1 ∧ (∀ q ∈ T1, q ∈ RL)) : Rows2 nm vs o n r0 r1 RL
inductive Rows6 (r2 r3 r4 r5 r6 r7 : Nat) (RL : Led) : Prop where
  | mk (T2 T3 T4 T5 T6 T7 : Led) (c1 c2 e1 e2 e3 e4 e5 e6 : Tok) (q9 : IsRw (Str.ofString "order") #[.int 1 c1] r2 T2 ∧ (∀ q ∈ T2, q ∈ RL) ∧ IsRw (Str.ofString "mov_imm") #[.int 32 e1, .int 9 e2, .int 1 e3] r3 T3 ∧ (∀ q ∈ T3, q ∈ RL) ∧ IsRw (Str.ofString "ret") #[] r4 T4 ∧ (∀ q ∈ T4, q ∈ RL) ∧ IsRw (Str.ofString "order") #[.int 2 c2] r5 T5 ∧ (∀ q ∈ T5, q ∈ RL) ∧ IsRw (Str.ofString "mov_imm") #[.int 32 e4, .int 9 e5, .int 2 e6] r6 T6 ∧ (∀ q ∈ T6, q ∈ RL) ∧ IsRw (Str.ofString "ret") #[] r7 T7 ∧ (∀ q ∈ T7, q ∈ RL)) : Rows6 r2 r3 r4 r5 r6 r7 RL
theorem rows2_up {nm : Str} {vs : Array Value} {o : Str} {n : Int} {r0 r1 : Nat} {T0 T1 : Led} {b1 b2 b3 : Tok} (A : Led) (h0 : IsRw nm vs r0 T0) (h1 : IsRw (Str.ofString "jcc") #[.str (condT o) b1, .str (Str.ofString "order") b2, .int n b3] r1 T1) : Rows2 nm vs o n r0 r1 (A ++ (T1 ++ T0)) :=
  ⟨T0, T1, _, _, _, h0, fun _ hq => List.mem_append_right _ (List.mem_append_right _ hq), h1, fun _ hq => List.mem_append_right _ (List.mem_append_left _ hq)⟩
theorem news_beh {h₀ h : Heap} {L : Addr} (A : Led) {x a b c d1 d2 d3 : Addr × Obj} {T1 T0 R : Led} (N : News h₀ L h (x :: (A ++ a :: b :: c :: (T1 ++ (T0 ++ d1 :: d2 :: d3 :: R))))) : News h₀ L h (x :: a :: b :: c :: d1 :: d2 :: d3 :: ((A ++ (T1 ++ T0)) ++ R)) := news_sub N (sub_cons (List.Mem.head _) (sub_cons (mem_tl (mem_r (List.Mem.head _))) (sub_cons (mem_tl (mem_r (mem_tl (List.Mem.head _)))) (sub_cons (mem_tl (mem_r (mem_tl (mem_tl (List.Mem.head _))))) (sub_cons (mem_tl (mem_r (mem_tl (mem_tl (mem_tl (mem_r (mem_r (List.Mem.head _)))))))) (sub_cons (mem_tl (mem_r (mem_tl (mem_tl (mem_tl (mem_r (mem_r (mem_tl (List.Mem.head _))))))))) (sub_cons (mem_tl (mem_r (mem_tl (mem_tl (mem_tl (mem_r (mem_r (mem_tl (mem_tl (List.Mem.head _)))))))))) (sub_app (sub_app (sub_tl (sub_l sub_refl)) (sub_app (sub_tl (sub_r (sub_tl (sub_tl (sub_tl (sub_l sub_refl)))))) (sub_tl (sub_r (sub_tl (sub_tl (sub_tl (sub_r (sub_l sub_refl))))))))) (sub_tl (sub_r (sub_tl (sub_tl (sub_tl (sub_r (sub_r (sub_tl (sub_tl (sub_tl sub_refl))))))))))))))))))
theorem rw_nocell {nm : Str} {vs : Array Value} {r : Nat} {T : Led} (h : IsRw nm vs r T) : ∀ q ∈ T, ∀ v, q.2.data ≠ .cell v := by
  obtain ⟨d, p, k1, k2, t1, t2, t3, rfl⟩ := h
  exact all_cons (fun _ e => by cases e) (all_cons (fun _ e => by cases e) (all_cons (fun _ e => by cases e) all_nil))
theorem rl_ne {h₀ h : Heap} {L : Addr} {A R : Led} {T1 T0 : Led} {x a b c d1 d2 d3 : Addr × Obj} {nm nm' : Str} {vs vs' : Array Value} {r0 r1 : Nat} {v0 : Option Value} (N : News h₀ L h (x :: a :: b :: c :: d1 :: d2 :: d3 :: ((A ++ (T1 ++ T0)) ++ R))) (hA : ∀ q ∈ A, ∀ v, q.2.data ≠ .cell v)
    (h0 : IsRw nm vs r0 T0) (h1 : IsRw nm' vs' r1 T1) (hc : d2.2.data = .cell v0) (hR : ∀ q ∈ R, q.1 ≠ d2.1) : ∀ q ∈ (A ++ (T1 ++ T0)) ++ R, q.1 ≠ d2.1 := by
  intro q hq
  have hm := List.Mem.tail x (List.Mem.tail a (List.Mem.tail b (List.Mem.tail c (List.Mem.tail d1 (List.Mem.tail d2 (List.Mem.tail d3 hq))))))
  have hd : d2 ∈ x :: a :: b :: c :: d1 :: d2 :: d3 :: ((A ++ (T1 ++ T0)) ++ R) := .tail _ (.tail _ (.tail _ (.tail _ (.tail _ (.head _)))))
  rcases List.mem_append.mp hq with hq | hq
  · have hn : ∀ v, q.2.data ≠ .cell v := by
      rcases List.mem_append.mp hq with hq | hq
      · exact hA q hq
      · rcases List.mem_append.mp hq with hq | hq
        · exact rw_nocell h1 q hq
        · exact rw_nocell h0 q hq
    exact ne_news (o := q.2) (o' := d2.2) N hm hd (fun e => hn v0 (e ▸ hc))
  · exact hR q hq

example : True := by
  k_with "off H6" => skip
  trivial
end
section
set_option maxHeartbeats 1000000
example : True := by
  k_with "nolean" => fail_if_success k_extra "off H7"
  trivial
def NmOk (nm : Str) : Prop := (nm == Str.ofString "mov") = false ∧ (nm == Str.ofString "mov_imm") = false ∧ (nm == Str.ofString "movabs") = false ∧ (nm == Str.ofString "movzx") = false ∧ (nm == Str.ofString "movsx") = false ∧ (nm == Str.ofString "bswap") = false ∧ (nm == Str.ofString "ror16") = false ∧ isMk nm = false ∧ (nm == Str.ofString "order") = false ∧ (nm == Str.ofString "jmp") = false ∧ (nm == Str.ofString "jcc") = false ∧ (nm == Str.ofString "call") = false
theorem nm_ok {o : Str} (f : Str → Str) (hf : f = bname ∨ f = iname) : NmOk (f o) := by
  obtain ⟨h1, h2, h3, h4, h5, h6, h7, h8, h9⟩ := nm_facts (o := o) f hf
  refine ⟨h1, h2, h3, h4, h5, h6, h7, h8, h9, ?_⟩
  rcases hf with rfl | rfl
  · unfold bname
    by_cases e : o = Str.ofString "set"
    · rw [if_pos e]; decide
    · rw [if_neg e]; decide
  · unfold iname
    by_cases e : o = Str.ofString "set"
    · rw [if_pos e]; decide
    · rw [if_neg e]; decide
theorem compEnd_d {h₀ : Heap} {L I C D : Addr} {m : Str → Option Value} {s₁ : Shared} {oI oC oD : Obj} {S : Led → Prop} {rest : Value → Led → Prop} {y : Value} {h' : Heap} {tk : Nat} {news' : Led} (own : Led)
    (F : Fr h₀ L h' m) (N : News h₀ L h' (own ++ (I, oI) :: (C, oC) :: (D, oD) :: news')) (off : LCg.Off3 I C D news') (hS : S news') (r : rest y news') :
    LCg.CompEnd h₀ L m s₁ I oI C oC D oD S rest y { s₁ with heap := h', toks := tk } := LCg.CompEnd.intro F N news' (fun _ hp => List.mem_append_right _ hp) off hS r
theorem compEnd_k {h₀ : Heap} {L I C D : Addr} {m : Str → Option Value} {s₁ : Shared} {oI oC oD : Obj} {S : Led → Prop} {rest : Value → Led → Prop} {y : Value} {h' : Heap} {tk : Nat} {k : Addr × Obj} {news' : Led} (own : Led)
    (F : Fr h₀ L h' m) (N : News h₀ L h' (k :: (own ++ (I, oI) :: (C, oC) :: (D, oD) :: news'))) (off : LCg.Off3 I C D (k :: news')) (hS : S (k :: news')) (r : rest y (k :: news')) :
    LCg.CompEnd h₀ L m s₁ I oI C oC D oD S rest y { s₁ with heap := h', toks := tk } := LCg.CompEnd.intro F N (k :: news') (fun p hp => by
      rcases List.mem_cons.mp hp with h | hp
      · exact .tail _ (List.mem_append_right _ (h ▸ .head _))
      rcases List.mem_cons.mp hp with h | hp
      · exact .tail _ (List.mem_append_right _ (h ▸ .tail _ (.head _)))
      rcases List.mem_cons.mp hp with h | hp
      · exact .tail _ (List.mem_append_right _ (h ▸ .tail _ (.tail _ (.head _))))
      rcases List.mem_cons.mp hp with h | hp
      · exact h ▸ .head _
      · exact .tail _ (List.mem_append_right _ (.tail _ (.tail _ (.tail _ hp))))) off hS r
theorem IsTup_news {h₀ h : Heap} {L a : Addr} {news : Led} {vs : Array Value} (N : News h₀ L h news) (hm : (a, tupO vs) ∈ news) : IsTup h a vs := News.isTup N hm
theorem rowO_nm {rg : Bool} {o : Str} {sz d sr nu : Int} {nm : Str} {vs : Array Value} (h : RowO rg o sz d sr nu nm vs) : NmOk nm := by
  obtain ⟨_, _, _, ⟨_, rfl, _⟩ | ⟨_, rfl, _⟩⟩ := h
  · exact nm_ok bname (.inl rfl)
  · exact nm_ok iname (.inr rfl)

example : True := by
  k_with "off H7" => skip
  trivial
end
section
set_option maxHeartbeats 1000000
example : True := by
  k_with "nolean" => fail_if_success k_extra "off H8"
  trivial
def dueOf (gb : Bool) (o : Str) (sz dd sr nu n : Int) (xs : List Int) : Int := if saysZ sz o (xs.getD (hostR dd).toNat 0) (if gb = true then xs.getD (hostR sr).toNat 0 else nu) = true then n else 1
def RunC (w : World) (mean : ExcName → Option Value) (mg mb : Str → Option Value) (mx md rg : Nat) (d : Obj) (gb : Bool) (o : Str) (sz dd sr nu n : Int) (rw mk pl : Nat) (PK : Led) : Prop :=
  ∀ (vs : List Value) (xs : List Int) (rn : Nat) (rest : Led) (t0 : Tok), IntsAre vs xs → xs.length = 16 → (∀ q ∈ PK, q ∈ rest) → md ≠ mx → rg ≠ mx → md ≠ rg → (∀ q ∈ rest, q.1 ≠ md) → (∀ q ∈ rest, q.1 ≠ rg) →
    Ct w mean mg mb 96 715 ((mx, instObj 718 md) :: (md, d) :: (rg, listOf vs.toArray rn) :: rest) True [.ref mx, .int 20 t0] (fun v ns => ∃ (ox od : Nat) (dO d' : Obj) (vs' : List Value) (n' : Nat) (fx9 : Nat) (pc9 od9 st9 : Int), v = .ref ox ∧ ns = (ox, instObj 478 od) :: (od, dO) :: (mx, instObj 718 md) :: (md, d') :: (rg, listOf vs'.toArray n') :: rest ∧ IsOut (Str.ofString "exit") (dueOf gb o sz dd sr nu n xs) dO ∧ IntsAre vs' (xs.set 9 (dueOf gb o sz dd sr nu n xs)) ∧ AllLt ox ((mx, instObj 718 md) :: (md, d) :: (rg, listOf vs.toArray rn) :: rest) ∧ AllLt od ((mx, instObj 718 md) :: (md, d) :: (rg, listOf vs.toArray rn) :: rest) ∧ IsMach rw mk rg fx9 pl pc9 od9 st9 true d')
theorem hostR_bnd {d : Int} (h : 0 ≤ d ∧ d < 11) : 0 ≤ hostR d ∧ hostR d < 16 := int_below (P := fun d => 0 ≤ hostR d ∧ hostR d < 16) (k := 11) (by decide +kernel) h.1 h.2
theorem subC {T RL PK rest : Led} (hPK : ∀ q ∈ PK, q ∈ rest) (h : ∀ q ∈ T, q ∈ RL) (hR : ∀ q ∈ RL, q ∈ PK) : ∀ q ∈ T, q ∈ rest := fun q hq => hPK q (hR q (h q hq))
theorem flag_row {w : World} {mean : ExcName → Option Value} {mg mb : Str → Option Value} {gb : Bool} {o : Str} {sz dd sr nu n : Int} {nm : Str} {vs0 : Array Value} {xs : List Int} (hRO : RowO gb o sz dd sr nu nm vs0) (ho : o ∈ ops) (hz : sz = 64 ∨ sz = 32) (hd : 0 ≤ dd ∧ dd < 11) (hs : 0 ≤ sr ∧ sr < 11) (hlen : xs.length = 16) :
    ∃ cf zf sf vf, FlagRow w mean mg mb nm vs0 xs cf zf sf vf ∧ ((condB (condT o) cf zf sf vf = true ∧ dueOf gb o sz dd sr nu n xs = n) ∨ (condB (condT o) cf zf sf vf = false ∧ dueOf gb o sz dd sr nu n xs = 1)) := by
  have hd' := hostR_bnd hd
  have hs' := hostR_bnd hs
  obtain ⟨a1, a2, a3, ⟨rfl, rfl, rfl⟩ | ⟨rfl, rfl, rfl⟩⟩ := hRO
  · obtain ⟨cf, zf, sf, vf, hf, hc⟩ := row_reg (w := w) (mean := mean) (mg := mg) (mb := mb) (a1 := a1) (a2 := a2) (a3 := a3) ho hz hlen hd'.1 hd'.2 hs'.1 hs'.2
    refine ⟨cf, zf, sf, vf, hf, ?_⟩
    unfold dueOf
    rw [if_pos rfl, ← hc]
    cases condB (condT o) cf zf sf vf
    · exact .inr ⟨rfl, if_neg (by decide)⟩
    · exact .inl ⟨rfl, if_pos rfl⟩
  · obtain ⟨cf, zf, sf, vf, hf, hc⟩ := row_imm (w := w) (mean := mean) (mg := mg) (mb := mb) (k := nu) (a1 := a1) (a2 := a2) (a3 := a3) ho hz hlen hd'.1 hd'.2
    refine ⟨cf, zf, sf, vf, hf, ?_⟩
    unfold dueOf
    rw [if_neg (show ¬ (false = true) by decide), ← hc]
    cases condB (condT o) cf zf sf vf
    · exact .inr ⟨rfl, if_neg (by decide)⟩
    · exact .inl ⟨rfl, if_pos rfl⟩
theorem mk_runC {w : World} {mean : ExcName → Option Value} {mg mb : Str → Option Value} {mx md rg rw mk fl pl pn wn y1 y2 r0 r1 r2 r3 r4 r5 r6 r7 : Nat} {d om : Obj} {f1 f2 f3 f4 : Tok} {RL : Led} {gb : Bool} {o : Str} {sz dd sr nu n : Int} {nm : Str} {vs0 : Array Value} 
    (hM : IsMach rw mk rg fl pl 0 0 0 false d) (hR2 : Rows2 nm vs0 o n r0 r1 RL) (hR6 : Rows6 r2 r3 r4 r5 r6 r7 RL) (hRO : RowO gb o sz dd sr nu nm vs0) (ho : o ∈ ops) (hz : sz = 64 ∨ sz = 32) (hd : 0 ≤ dd ∧ dd < 11) (hs : 0 ≤ sr ∧ sr < 11) (hnu : -2147483648 ≤ nu ∧ nu < 2147483648) (hn : n = 1 ∨ n = 2)  (hk2 : (mk == sysModules) = false) (hk3 : MarkO thePr w [(y2, tupO #[.str (Str.ofString "order") f3, .int 2 f4]), (y1, tupO #[.str (Str.ofString "order") f1, .int 1 f2])] om (PyProof.V.putD (encTuple mixEnc [.inl (Str.ofString "order"), .inr 2]) (.int 5) (PyProof.V.putD (encTuple mixEnc [.inl (Str.ofString "order"), .inr 1]) (.int 2) []))) :
    RunC w mean mg mb mx md rg d gb o sz dd sr nu n rw mk pl ((pl, listOf #[] pn) :: (mk, om) :: (y2, tupO #[.str (Str.ofString "order") f3, .int 2 f4]) :: (y1, tupO #[.str (Str.ofString "order") f1, .int 1 f2]) :: (rw, listOf #[.ref r0, .ref r1, .ref r2, .ref r3, .ref r4, .ref r5, .ref r6, .ref r7] wn) :: RL) := by
  intro vs xs rn rest t0 hI hlen hPK a1 a2 a3 hap haq
  obtain ⟨n0, n1, n2, n3, n4, n5, n6, hmk, hno, g1, g2, g3⟩ := rowO_nm hRO
  obtain ⟨cf, zf, sf, vf, hfr, hc⟩ := flag_row (w := w) (mean := mean) (mg := mg) (mb := mb) (n := n) hRO ho hz hd hs hlen
  obtain ⟨T0, T1, b1, b2, b3, hr0, hs0, hr1, hs1⟩ := hR2
  obtain ⟨T2, T3, T4, T5, T6, T7, c1, c2, e1, e2, e3, e4, e5, e6, hr2, hs2, hr3, hs3, hr4, hs4, hr5, hs5, hr6, hs6, hr7, hs7⟩ := hR6
  have hRL : ∀ q ∈ RL, q ∈ ((pl, listOf #[] pn) :: (mk, om) :: (y2, tupO #[.str (Str.ofString "order") f3, .int 2 f4]) :: (y1, tupO #[.str (Str.ofString "order") f1, .int 1 f2]) :: (rw, listOf #[.ref r0, .ref r1, .ref r2, .ref r3, .ref r4, .ref r5, .ref r6, .ref r7] wn) :: RL) := fun q hq => .tail _ (.tail _ (.tail _ (.tail _ (.tail _ hq))))
  have hpl := hPK _ (.head _)
  have hkm := hPK _ (.tail _ (.head _))
  have hy2 := hPK _ (.tail _ (.tail _ (.head _)))
  have hy1 := hPK _ (.tail _ (.tail _ (.tail _ (.head _))))
  have hrw := hPK _ (.tail _ (.tail _ (.tail _ (.tail _ (.head _)))))
  rcases hc with ⟨hc, hdue⟩ | ⟨hc, hdue⟩
  · rw [hdue]
    rcases hn with rfl | rfl
    · exact c_runJ (pc2 := 2) (j := 1) hM hrw hr0 (subC hPK hs0 hRL) hr1 (subC hPK hs1 hRL) hr2 (subC hPK hs2 hRL) hr3 (subC hPK hs3 hRL) hr4 (subC hPK hs4 hRL) hfr n0 n1 n2 n3 n4 n5 n6 hmk hno hkm hk2 hk3 hy2 hy1 hpl (.inl ⟨rfl, rfl⟩) (if_pos hc) rfl rfl rfl (by decide) (by decide) (by decide) (by decide) hI hlen a1 a2 a3 hap haq
    · exact c_runJ (pc2 := 5) (j := 2) hM hrw hr0 (subC hPK hs0 hRL) hr1 (subC hPK hs1 hRL) hr5 (subC hPK hs5 hRL) hr6 (subC hPK hs6 hRL) hr7 (subC hPK hs7 hRL) hfr n0 n1 n2 n3 n4 n5 n6 hmk hno hkm hk2 hk3 hy2 hy1 hpl (.inr ⟨rfl, rfl⟩) (if_pos hc) rfl rfl rfl (by decide) (by decide) (by decide) (by decide) hI hlen a1 a2 a3 hap haq
  · rw [hdue]
    obtain ⟨tg, htg⟩ : ∃ tg : Int, (n = 1 ∧ tg = 2) ∨ (n = 2 ∧ tg = 5) := hn.elim (fun e => ⟨2, .inl ⟨e, rfl⟩⟩) (fun e => ⟨5, .inr ⟨e, rfl⟩⟩)
    exact c_runJ (pc2 := 2) (j := 1) hM hrw hr0 (subC hPK hs0 hRL) hr1 (subC hPK hs1 hRL) hr2 (subC hPK hs2 hRL) hr3 (subC hPK hs3 hRL) hr4 (subC hPK hs4 hRL) hfr n0 n1 n2 n3 n4 n5 n6 hmk hno hkm hk2 hk3 hy2 hy1 hpl htg (if_neg (by rw [hc]; decide)) rfl rfl rfl (by decide) (by decide) (by decide) (by decide) hI hlen a1 a2 a3 hap haq
theorem c_plainW {w : World} {mean : ExcName → Option Value} {mg mb : Str → Option Value} {news RL : Led} {rl ln r0 r1 r2 r3 r4 r5 r6 r7 : Nat} {t : Tok} {gb : Bool} {o : Str} {sz dd sr nu n : Int} {nm : Str} {vs0 : Array Value} 
    (hl : (rl, listOf #[.ref r0, .ref r1, .ref r2, .ref r3, .ref r4, .ref r5, .ref r6, .ref r7] ln) ∈ news) (hR2 : Rows2 nm vs0 o n r0 r1 RL) (hR6 : Rows6 r2 r3 r4 r5 r6 r7 RL) (hRL : ∀ q ∈ RL, q ∈ news) (hRO : RowO gb o sz dd sr nu nm vs0) (ho : o ∈ ops) (hz : sz = 64 ∨ sz = 32) (hd : 0 ≤ dd ∧ dd < 11) (hs : 0 ≤ sr ∧ sr < 11) (hnu : -2147483648 ≤ nu ∧ nu < 2147483648) (hn : n = 1 ∨ n = 2) :
    Ct w mean mg mb 72 718 news True [.ref rl, .int 5 t] (RT_c_plain w news rl) := by
  obtain ⟨n0, n1, n2, n3, n4, n5, n6, hmk, hno, g1, g2, g3⟩ := rowO_nm hRO
  obtain ⟨T0, T1, b1, b2, b3, hr0, hs0, hr1, hs1⟩ := hR2
  obtain ⟨T2, T3, T4, T5, T6, T7, c1, c2, e1, e2, e3, e4, e5, e6, hr2, hs2, hr3, hs3, hr4, hs4, hr5, hs5, hr6, hs6, hr7, hs7⟩ := hR6
  have hd' := hostR_bnd hd
  have hs' := hostR_bnd hs
  have hk0 : CkRow w mean mg mb r0 T0 := by
    obtain ⟨a1, a2, a3, ⟨rfl, rfl, rfl⟩ | ⟨rfl, rfl, rfl⟩⟩ := hRO
    · exact fun _ _ _ hT h1 h2 => c_ckrr hr0 hT h1 h2 hz hd'.1 hd'.2 hs'.1 hs'.2
    · exact fun _ _ _ hT h1 h2 => c_ckri hr0 hT h1 h2 hz hd'.1 hd'.2 hnu.1 hnu.2
  have hk1 : CkRow w mean mg mb r1 T1 := fun _ _ _ hT h1 h2 => c_ckjcc hr1 hT h1 h2 ho (by omega) (by omega)
  have hk2 : CkRow w mean mg mb r2 T2 := fun _ _ _ hT h1 h2 => c_ckord hr2 hT h1 h2 (by omega) (by omega)
  have hk3 : CkRow w mean mg mb r3 T3 := fun _ _ _ hT h1 h2 => c_ckmov hr3 hT h1 h2 (.inr rfl) (by omega) (by omega) (by omega) (by omega)
  have hk4 : CkRow w mean mg mb r4 T4 := fun _ _ _ hT h1 h2 => c_ckret hr4 hT h1 h2
  have hk5 : CkRow w mean mg mb r5 T5 := fun _ _ _ hT h1 h2 => c_ckord hr5 hT h1 h2 (by omega) (by omega)
  have hk6 : CkRow w mean mg mb r6 T6 := fun _ _ _ hT h1 h2 => c_ckmov hr6 hT h1 h2 (.inr rfl) (by omega) (by omega) (by omega) (by omega)
  have hk7 : CkRow w mean mg mb r7 T7 := fun _ _ _ hT h1 h2 => c_ckret hr7 hT h1 h2
  have up : ∀ {T : Led}, (∀ q ∈ T, q ∈ RL) → ∀ q ∈ T, q ∈ news := fun h q hq => hRL q (h q hq)
  exact c_plain hl hr0 (up hs0) hr1 (up hs1) hr2 (up hs2) hr3 (up hs3) hr4 (up hs4) hr5 (up hs5) hr6 (up hs6) hr7 (up hs7) hk0 hk1 hk2 hk3 hk4 hk5 hk6 hk7 hmk g1 g2 g3 hn

example : True := by
  k_with "off H8" => skip
  trivial
end
section
set_option maxHeartbeats 1000000
example : True := by
  k_with "nolean" => fail_if_success k_extra "off H9"
  trivial
theorem news_pl {h₀ h : Heap} {L : Addr} {a1 a2 a3 a4 a5 a6 a7 a8 b1 b2 b3 b4 d1 d2 d3 : Addr × Obj} {R : Led} (N : News h₀ L h (a1 :: a2 :: a3 :: a4 :: a5 :: a6 :: a7 :: a8 :: b1 :: b2 :: b3 :: b4 :: d1 :: d2 :: d3 :: R)) : News h₀ L h (d2 :: a1 :: a2 :: a3 :: a4 :: a5 :: a6 :: a7 :: a8 :: d1 :: d3 :: R) := news_sub N (sub_cons (mem_tl (mem_tl (mem_tl (mem_tl (mem_tl (mem_tl (mem_tl (mem_tl (mem_tl (mem_tl (mem_tl (mem_tl (mem_tl (List.Mem.head _)))))))))))))) (sub_cons (List.Mem.head _) (sub_cons (mem_tl (List.Mem.head _)) (sub_cons (mem_tl (mem_tl (List.Mem.head _))) (sub_cons (mem_tl (mem_tl (mem_tl (List.Mem.head _)))) (sub_cons (mem_tl (mem_tl (mem_tl (mem_tl (List.Mem.head _))))) (sub_cons (mem_tl (mem_tl (mem_tl (mem_tl (mem_tl (List.Mem.head _)))))) (sub_cons (mem_tl (mem_tl (mem_tl (mem_tl (mem_tl (mem_tl (List.Mem.head _))))))) (sub_cons (mem_tl (mem_tl (mem_tl (mem_tl (mem_tl (mem_tl (mem_tl (List.Mem.head _)))))))) (sub_cons (mem_tl (mem_tl (mem_tl (mem_tl (mem_tl (mem_tl (mem_tl (mem_tl (mem_tl (mem_tl (mem_tl (mem_tl (List.Mem.head _))))))))))))) (sub_cons (mem_tl (mem_tl (mem_tl (mem_tl (mem_tl (mem_tl (mem_tl (mem_tl (mem_tl (mem_tl (mem_tl (mem_tl (mem_tl (mem_tl (List.Mem.head _))))))))))))))) (sub_tl (sub_tl (sub_tl (sub_tl (sub_tl (sub_tl (sub_tl (sub_tl (sub_tl (sub_tl (sub_tl (sub_tl (sub_tl (sub_tl (sub_tl sub_refl))))))))))))))))))))))))))
theorem news_fin {h₀ h : Heap} {L : Addr} {a1 a2 a3 a4 a5 a6 a7 a8 d1 d2 d3 : Addr × Obj} {RL T : Led} (N : News h₀ L h (d2 :: a1 :: a2 :: a3 :: a4 :: a5 :: a6 :: a7 :: a8 :: d1 :: d3 :: (RL ++ T))) : News h₀ L h (a1 :: a2 :: a3 :: d2 :: d3 :: d1 :: ((a4 :: a5 :: a6 :: a7 :: a8 :: RL) ++ T)) := news_sub N (sub_cons (mem_tl (List.Mem.head _)) (sub_cons (mem_tl (mem_tl (List.Mem.head _))) (sub_cons (mem_tl (mem_tl (mem_tl (List.Mem.head _)))) (sub_cons (List.Mem.head _) (sub_cons (mem_tl (mem_tl (mem_tl (mem_tl (mem_tl (mem_tl (mem_tl (mem_tl (mem_tl (mem_tl (List.Mem.head _))))))))))) (sub_cons (mem_tl (mem_tl (mem_tl (mem_tl (mem_tl (mem_tl (mem_tl (mem_tl (mem_tl (List.Mem.head _)))))))))) (sub_app (sub_cons (mem_tl (mem_tl (mem_tl (mem_tl (List.Mem.head _))))) (sub_cons (mem_tl (mem_tl (mem_tl (mem_tl (mem_tl (List.Mem.head _)))))) (sub_cons (mem_tl (mem_tl (mem_tl (mem_tl (mem_tl (mem_tl (List.Mem.head _))))))) (sub_cons (mem_tl (mem_tl (mem_tl (mem_tl (mem_tl (mem_tl (mem_tl (List.Mem.head _)))))))) (sub_cons (mem_tl (mem_tl (mem_tl (mem_tl (mem_tl (mem_tl (mem_tl (mem_tl (List.Mem.head _))))))))) (sub_tl (sub_tl (sub_tl (sub_tl (sub_tl (sub_tl (sub_tl (sub_tl (sub_tl (sub_tl (sub_tl (sub_l sub_refl))))))))))))))))) (sub_tl (sub_tl (sub_tl (sub_tl (sub_tl (sub_tl (sub_tl (sub_tl (sub_tl (sub_tl (sub_tl (sub_r sub_refl)))))))))))))))))))
theorem pk_ne {a : Nat} {a4 a5 a6 a7 a8 : Addr × Obj} {RL T : Led} (h4 : a4.1 ≠ a) (h5 : a5.1 ≠ a) (h6 : a6.1 ≠ a) (h7 : a7.1 ≠ a) (h8 : a8.1 ≠ a) (h : ∀ q ∈ RL ++ T, q.1 ≠ a) : ∀ q ∈ (a4 :: a5 :: a6 :: a7 :: a8 :: RL) ++ T, q.1 ≠ a := all_cons h4 (all_cons h5 (all_cons h6 (all_cons h7 (all_cons h8 h))))
theorem allLt_le {a b : Nat} {R : Led} (h : AllLt a R) (hab : a ≤ b) : ∀ q ∈ R, q.1 ≠ b := allNe_of (allLt_mono hab h)
theorem subR {RL T : Led} : ∀ q ∈ RL, q ∈ RL ++ T := fun _ hq => List.mem_append_left _ hq

example : True := by
  k_with "off H9" => skip
  trivial
end
section
set_option maxHeartbeats 1000000
example : True := by
  k_with "nolean" => fail_if_success k_extra "off H10"
  trivial
def RegsAt (xs : List Int) : Nat → List Int
  | 0 => [5, 5, 5, 5, 1879048192, 5, 5, 5, 5, 5, 5, 5, 5, 5, 5, 5]
  | i + 1 => (RegsAt xs i).set (hostR (0 + (i : Int))).toNat (xs.getD (0 + (i : Int)).toNat 0)
theorem regsAt_len {xs : List Int} : ∀ i, (RegsAt xs i).length = 16
  | 0 => rfl
  | i + 1 => by
    unfold RegsAt
    rw [List.length_set]
    exact regsAt_len i
inductive RegInv (ax ay rr : Nat) (dm : Obj) (xs : List Int) (rest : Led) (i : Nat) (nw : Led) : Prop where
  | mk (vr : List Value) (rn : Nat) (q9 : nw = (ax, instObj 718 ay) :: (ay, dm) :: (rr, listOf vr.toArray rn) :: rest ∧ IntsAre vr (RegsAt xs i)) : RegInv ax ay rr dm xs rest i nw
theorem regInv_mk {ax ay rr : Nat} {dm : Obj} {xs : List Int} {rest : Led} {vr : List Value} {rn : Nat} (h : IntsAre vr [5, 5, 5, 5, 1879048192, 5, 5, 5, 5, 5, 5, 5, 5, 5, 5, 5]) (_ : xs.length = 11) : RegInv ax ay rr dm xs rest 0 ((ax, instObj 718 ay) :: (ay, dm) :: (rr, listOf vr.toArray rn) :: rest) := ⟨vr, rn, rfl, h⟩
theorem regInv_next {ax ay rr : Nat} {dm : Obj} {xs : List Int} {rest : Led} {vr : List Value} {rn i : Nat} (h : IntsAre vr ((RegsAt xs i).set (hostR (0 + (i : Int))).toNat (xs.getD (0 + (i : Int)).toNat 0))) : RegInv ax ay rr dm xs rest (i + 1) ((ax, instObj 718 ay) :: (ay, dm) :: (rr, listOf vr.toArray rn) :: rest) := ⟨vr, rn, rfl, h⟩
theorem regI_len {vr : List Value} {xs : List Int} {i : Nat} (_ : IntsAre vr (RegsAt xs i)) : (RegsAt xs i).length = 16 := regsAt_len i
theorem c_hostW {w : World} {mean : ExcName → Option Value} {mg mb : Str → Option Value} {news : Led} {d : Int} {t : Tok} (h0 : 0 ≤ d) (h1 : d < 11) :
   Ct w mean mg mb 8 337 news True [.int d t] (fun v ns => ∃ (t : Tok), v = .int (hostR d) t ∧ ns = news ∧ 0 ≤ hostR d ∧ hostR d < 16) := by
  intro dp un gd cn cs fa ccd cl outer A₀ base h₀ L m s Q E HB HF HX HN HT hkind hp hdp hun hret
  refine c_host h0 h1 dp un gd cn cs fa ccd cl outer A₀ base h₀ L m s Q E HB HF HX HN HT hkind hp hdp hun ?_
  rintro v ns h' tk ⟨⟨t, rfl⟩, rfl⟩ F N
  exact hret _ _ _ _ ⟨t, rfl, rfl, (hostR_bnd ⟨h0, h1⟩).1, (hostR_bnd ⟨h0, h1⟩).2⟩ F N
theorem unrPost_mono {h₀ : Heap} {L : Addr} {s₁ : Shared} {I : Addr} {it : Obj} {R R' : (Str → Option Value) → Led → Prop} {Q : Flow → Shared → Prop} (hR : ∀ m n, R m n → R' m n) {f : Flow} {s₂ : Shared} (h : UnrPost h₀ L s₁ I it R Q f s₂) : UnrPost h₀ L s₁ I it R' Q f s₂ := by
  cases f with
  | ret v => exact h
  | brk => exact h
  | next => obtain ⟨h', tk, m', n', e, F, N, off, r⟩ := h; exact ⟨h', tk, m', n', e, F, N, off, hR _ _ r⟩
  | cont => obtain ⟨h', tk, m', n', e, F, N, off, r⟩ := h; exact ⟨h', tk, m', n', e, F, N, off, hR _ _ r⟩
theorem range_ind {prog : Program} {w : World} {A : Around} {E : Value → Shared → Prop} {s : Shared} {env : Env} {h₀ : Heap} {x : Str} {body : List Stmt} {Q : Flow → Shared → Prop} {I : Addr} {a : Int} {n : Nat} {M : Str → Option Value} (J : Nat → Led → Prop)
    (turn : ∀ i nw t h tk, i < n → J i nw → Fr h₀ env.locals h (fun y => if y = x then some (.int (a + (i : Int)) t) else M y) → News h₀ env.locals h ((I, itR (a + ((i + 1 : Nat) : Int)) ((n : Int) - ((i + 1 : Nat) : Int))) :: nw) →
      wpAny (model prog w) A (execs body env) (UnrPost h₀ env.locals { s with heap := h, toks := tk } I (itR (a + ((i + 1 : Nat) : Int)) ((n : Int) - ((i + 1 : Nat) : Int))) (fun m' n' => (∃ v, m' = fun y => if y = x then some v else M y) ∧ J (i + 1) n') Q) E { s with heap := h, toks := tk })
    (done : ∀ nw h tk m', J n nw → ((n = 0 ∧ m' = M) ∨ ∃ v, m' = fun y => if y = x then some v else M y) → Fr h₀ env.locals h m' → News h₀ env.locals h nw → Q .next { s with heap := h, toks := tk }) :
    ∀ k i m nw, i + k = n → ((i = 0 ∧ m = M) ∨ ∃ v, m = fun y => if y = x then some v else M y) → J i nw → RangeRest prog w A E h₀ env x body Q s I a n k i m nw := by
  intro k
  induction k with
  | zero =>
    intro i m nw e hm hJ
    obtain rfl : i = n := e
    exact RangeRest.zero fun h tk F N => done nw h tk m hJ hm F N
  | succ k ih =>
    intro i m nw e hm hJ
    refine RangeRest.succ fun t h tk F N => ?_
    have em : (fun y => if y = x then some (Value.int (a + (i : Int)) t) else m y) = fun y => if y = x then some (Value.int (a + (i : Int)) t) else M y := by
      rcases hm with ⟨_, rfl⟩ | ⟨v, rfl⟩
      · rfl
      · funext y
        by_cases h1 : y = x
        · simp only [if_pos h1]
        · simp only [if_neg h1]
    rw [em] at F
    exact wpAny_mono (turn i nw t h tk (by omega) hJ F N) (fun f s₂ p => unrPost_mono (fun m' n' ⟨hv, hj⟩ => ih (i + 1) m' n' (by omega) (.inr hv) hj) p) fun _ _ z => z

example : True := by
  k_with "off H10" => skip
  trivial
end
section
set_option maxHeartbeats 1000000
example : True := by
  k_with "nolean" => fail_if_success k_extra "off H11"
  trivial
theorem sub_pk {a b c : Addr × Obj} {PK T : Led} : ∀ q ∈ PK, q ∈ a :: b :: c :: (PK ++ T) := fun _ hq => .tail _ (.tail _ (.tail _ (List.mem_append_left _ hq)))

example : True := by
  k_with "off H11" => skip
  trivial
end
section
set_option maxHeartbeats 1000000
example : True := by
  k_with "nolean" => fail_if_success k_extra "off H13"
  trivial
def SegR (w : World) (mean : ExcName → Option Value) (mg mb : Str → Option Value) (i : Nat) (L : Addr) (m : Str → Option Value) (news : Led) : Prop :=
  ∀ (dp un : Nat) (gd : Option (List Code)) (outer : List Env) (A₀ : Around) (base g : Heap) (s : Shared) (Q : Flow → Shared → Prop) (E : Value → Shared → Prop) (rest : List Stmt),
    Below A₀ base outer g → Fr g L s.heap m → (hd.heap_39 w.params).In g → News g L s.heap news → Top hd.view_39 loo mean mg mb g → dp + 140 < recursionLimit → un + 8 * 140 < cLine →
    (∀ h' tk', Fr g L h' m → News g L h' news → Q (.ret (.bool true)) { s with heap := h', toks := tk' }) →
    wpAny (model PySem.Challenge.rw_ok0177_01.row.prog w) (ktrTop dp un gd (Str.ofString "_law_case_holds") caseScope L 766 (.ref 765) (cellsFrom (L + 1) caseScope.names []) outer) (execs (caseSt i :: rest) (envOfC (Str.ofString "_law_case_holds") caseScope L 766 (.ref 765))) Q E s
def OutInv (xs : List Int) (news : Led) (i : Nat) (ys : List Value) (nw : Led) : Prop := nw = news ∧ IntsAre ys (xs.take i)
theorem outInv_zero {xs : List Int} {news : Led} (_ : xs.length = 11) : OutInv xs news 0 [] news := ⟨rfl, .nil⟩
theorem outInv_step {xs R : List Int} {news : Led} {i : Nat} {ys : List Value} {t : Tok} (hall : ∀ i : Nat, i < 11 → R.getD (hostR (0 + (i : Int))).toNat 0 = xs.getD i 0) (hl : xs.length = 11) (hi : i < 11) (h : IntsAre ys (xs.take i)) :
    OutInv xs news (i + 1) (ys ++ [.int (R.getD (hostR (0 + (i : Int))).toNat 0) t]) news := by
  refine ⟨rfl, ?_⟩
  rw [hall i hi]
  have e : xs.take (i + 1) = xs.take i ++ [xs.getD i 0] := by
    have hlt : i < xs.length := by omega
    rw [List.take_add_one, List.getElem?_eq_getElem hlt, List.getD_eq_getElem?_getD, List.getElem?_eq_getElem hlt]
    rfl
  rw [e]
  exact ints_snoc h
theorem take11 {xs : List Int} (hl : xs.length = 11) : decide (xs.take 11 = xs) = true := by
  rw [List.take_of_length_le (by omega)]
  exact decide_eq_true rfl

example : True := by
  k_with "off H13" => skip
  trivial
end
section
def SegLR (k : SegCx) (scope : Scope) (st : Stmt) (m : Str → Option Value) (news : Led) : Prop :=
  ∀ (h : Heap) (tk : Nat), Wf k.x 140 → Fr k.x.h₀ k.x.L h m → News k.x.h₀ k.x.L h news →
    (∀ h' tk', Fr k.x.h₀ k.x.L h' m → News k.x.h₀ k.x.L h' news → k.Q (.ret (.bool true)) (kSt k.x h' tk')) →
    wpAny (kMd k.x) (kAr k.x (sgEnv k.x scope)) (execs (st :: k.rest) (sgEnv k.x scope)) k.Q k.x.E (kSt k.x h tk)
abbrev SegRK (k : SegCx) (i : Nat) (m : Str → Option Value) (news : Led) : Prop := SegLR k caseScope (caseSt i) m news
theorem segLR_lit {k : SegCx} {scope scope' : Scope} {st st' : Stmt} {m : Str → Option Value} {news : Led} (e1 : scope = scope') (e2 : st = st') (h : SegLR k scope' st' m news) : SegLR k scope st m news := e1 ▸ e2 ▸ h
theorem segR_of {w : World} {mean : ExcName → Option Value} {mg mb : Str → Option Value} {i : Nat} {L : Addr} {m : Str → Option Value} {news : Led}
    (H : ∀ dp un gd outer A₀ base g s Q E rest, SegRK (sgAt w mean mg mb L dp un gd outer A₀ base g s Q E rest) i m news) : SegR w mean mg mb i L m news :=
  fun dp un gd outer A₀ base g s Q E rest B F X N T d u k => H dp un gd outer A₀ base g s Q E rest s.heap s.toks ⟨B, X, T, d, u⟩ F N k
end
section
set_option maxHeartbeats 1000000
example : True := by
  k_with "nolet" => fail_if_success k_extra "off H3_0"
  trivial
example : True := by
  k_with ".newTuple" => ((fail_if_success k_extra "off H3_0"); (k_here; k_dflt (refine' kup_newTuple ?FDG ?NDG ?_ ?zDG; (case FDG => k_asm); (case NDG => k_asm); (case zDG => kmk_size)); intro D'Z h'Z F'Z N'Z l1Z; (try k_lt l1Z); (try k_sweep)))
  k_with ".storeName" => ((fail_if_success k_extra "off H3_0"); (k_here; k_dflt (refine' stL ?FDH ?NDH ?_ ?aDH ?bDH; (case FDH => k_asm); (case NDH => k_asm); (case aDH => rfl); (case bDH => rfl); k_whole; intro mkZ nkZ h'Z F'Z N'Z; (try k_sweep))))
  trivial
theorem in2 {r : Int} (h : r ∈ [(64 : Int), 32]) : r = 64 ∨ r = 32 := by simpa using h
theorem in6 {r : Int} {l : List Int} (h : r ∈ l) (hl : l.all (fun z => decide (-2147483648 ≤ z) && decide (z < 2147483648)) = true) : -2147483648 ≤ r ∧ r < 2147483648 := by
  have := List.all_eq_true.mp hl _ h
  simpa using this
section
variable {h₀ h : Heap} {L : Addr}
theorem held_lst {D : Nat} {ys : List Value} {r : Led} (N : News h₀ L h ((D, LCg.lst ys) :: r)) : News h₀ L h ((D, listOf ys.toArray ys.length) :: r) := N
end
theorem getD_bnd {xs : List Int} {i : Nat} (hb : ∀ r ∈ xs, 0 ≤ r ∧ r < 2 ^ 64) : 0 ≤ xs.getD i 0 ∧ xs.getD i 0 < 2 ^ 64 := by
  rw [List.getD_eq_getElem?_getD]
  cases h : xs[i]? with
  | none => exact ⟨by decide, by decide⟩
  | some v => exact hb v (List.mem_of_getElem? h)
theorem set_bnd {xs : List Int} {i : Nat} {v : Int} (hb : ∀ r ∈ xs, 0 ≤ r ∧ r < 2 ^ 64) : ∀ r ∈ xs.set i (v.fmod 18446744073709551616), 0 ≤ r ∧ r < 2 ^ 64 := by
  intro r hr
  rcases List.mem_or_eq_of_mem_set hr with h | rfl
  · exact hb r h
  · rw [Int.fmod_eq_emod_of_nonneg _ (by decide)]
    exact ⟨Int.emod_nonneg _ (by decide), Int.emod_lt_of_pos _ (by decide)⟩
local macro_rules | `(tactic| k_lt $h) => `(tactic| (replace $h := allLt_of $h; (try simp only [AllLt, and_true] at $h:ident); (repeat (have h9 := And.left $h; replace $h := And.right $h)); (try (first | replace $h := pen_le (by assumption) $h | replace $h := pen_leA (by assumption) $h))))
example : True := by
  k_with "T:k_all" => ((fail_if_success k_extra "off H3_0"); exact pen_ne (by assumption) (by first | assumption | omega))
  k_with ".binaryOp Pow int int" => ((fail_if_success k_extra "off H3_0"); (k_here; first | with_reducible refine pow2_31 ?_ | with_reducible refine pow2_32 ?_ | with_reducible refine pow2_63 ?_ | with_reducible refine pow2_64 ?_ | with_reducible refine pow2_m63 ?_ | with_reducible refine pow2_m31 ?_))
  k_with ".call ref" => (k_here; (with_reducible show wpAny _ _ (call (Value.ref 749) _) _ _ _); k_dflt ((first | (refine' ct_use (c_worth [] ?hTDK ?hkDK ?hapDK) ?kBDK ?kFDK ?kXDK ?kNDK ?kTDK ?kkDK trivial ?kdDK ?kuDK ?_; (case kNDK => k_asm); (case hTDK => assumption)) | (refine' ct_use (c_worth [_] ?hTDK ?hkDK ?hapDK) ?kBDK ?kFDK ?kXDK ?kNDK ?kTDK ?kkDK trivial ?kdDK ?kuDK ?_; (case kNDK => k_asm); (case hTDK => assumption)) | (refine' ct_use (c_worth [_, _] ?hTDK ?hkDK ?hapDK) ?kBDK ?kFDK ?kXDK ?kNDK ?kTDK ?kkDK trivial ?kdDK ?kuDK ?_; (case kNDK => k_asm); (case hTDK => assumption)) | (refine' ct_use (c_worth [_, _, _] ?hTDK ?hkDK ?hapDK) ?kBDK ?kFDK ?kXDK ?kNDK ?kTDK ?kkDK trivial ?kdDK ?kuDK ?_; (case kNDK => k_asm); (case hTDK => assumption)) | (refine' ct_use (c_worth [_, _, _, _] ?hTDK ?hkDK ?hapDK) ?kBDK ?kFDK ?kXDK ?kNDK ?kTDK ?kkDK trivial ?kdDK ?kuDK ?_; (case kNDK => k_asm); (case hTDK => assumption)) | (refine' ct_use (c_worth [_, _, _, _, _] ?hTDK ?hkDK ?hapDK) ?kBDK ?kFDK ?kXDK ?kNDK ?kTDK ?kkDK trivial ?kdDK ?kuDK ?_; (case kNDK => k_asm); (case hTDK => assumption)) | (refine' ct_use (c_worth [_, _, _, _, _, _] ?hTDK ?hkDK ?hapDK) ?kBDK ?kFDK ?kXDK ?kNDK ?kTDK ?kkDK trivial ?kdDK ?kuDK ?_; (case kNDK => k_asm); (case hTDK => assumption)) | (refine' ct_use (c_worth (_ :: _) ?hTDK ?hkDK ?hapDK) ?kBDK ?kFDK ?kXDK ?kNDK ?kTDK ?kkDK trivial ?kdDK ?kuDK ?_; (case kNDK => k_asm); (case hTDK => assumption))); (case kBDK => k_asm); (case kFDK => k_asm); (case kXDK => k_asm); (case kTDK => k_asm); (case kkDK => first | exact rfl | assumption); (case hkDK => omega); (case hapDK => (repeat (first | exact List.forall_mem_nil _ | (refine List.forall_mem_cons.mpr (And.intro ?_ ?_)) | assumption | exact pen_ap (by assumption) (by first | assumption | omega)))); (case kdDK => ktr_room); (case kuDK => ktr_units); (intro v9Z ns9Z h9Z tk9Z hR9Z F9Z N9Z; obtain ⟨T9, r9, t9, hv9, hr9, hs9, hn9, hT9⟩ := hR9Z; subst hv9 hn9; (try dsimp only [List.nil_append, List.cons_append] at N9Z); (try dsimp only); (try k_fold))))
  k_with ".call ref" => (k_here; (with_reducible show wpAny _ _ (call (Value.ref 735) _) _ _ _); k_dflt ((first | (refine' ct_use (c_draw [] ?hTDL ?hkDL ?hapDL ?hmDL) ?kBDL ?kFDL ?kXDL ?kNDL ?kTDL ?kkDL trivial ?kdDL ?kuDL ?_; (case kNDL => k_asm); (case hTDL => assumption)) | (refine' ct_use (c_draw [_] ?hTDL ?hkDL ?hapDL ?hmDL) ?kBDL ?kFDL ?kXDL ?kNDL ?kTDL ?kkDL trivial ?kdDL ?kuDL ?_; (case kNDL => k_asm); (case hTDL => assumption)) | (refine' ct_use (c_draw [_, _] ?hTDL ?hkDL ?hapDL ?hmDL) ?kBDL ?kFDL ?kXDL ?kNDL ?kTDL ?kkDL trivial ?kdDL ?kuDL ?_; (case kNDL => k_asm); (case hTDL => assumption)) | (refine' ct_use (c_draw [_, _, _] ?hTDL ?hkDL ?hapDL ?hmDL) ?kBDL ?kFDL ?kXDL ?kNDL ?kTDL ?kkDL trivial ?kdDL ?kuDL ?_; (case kNDL => k_asm); (case hTDL => assumption)) | (refine' ct_use (c_draw [_, _, _, _] ?hTDL ?hkDL ?hapDL ?hmDL) ?kBDL ?kFDL ?kXDL ?kNDL ?kTDL ?kkDL trivial ?kdDL ?kuDL ?_; (case kNDL => k_asm); (case hTDL => assumption)) | (refine' ct_use (c_draw [_, _, _, _, _] ?hTDL ?hkDL ?hapDL ?hmDL) ?kBDL ?kFDL ?kXDL ?kNDL ?kTDL ?kkDL trivial ?kdDL ?kuDL ?_; (case kNDL => k_asm); (case hTDL => assumption)) | (refine' ct_use (c_draw [_, _, _, _, _, _] ?hTDL ?hkDL ?hapDL ?hmDL) ?kBDL ?kFDL ?kXDL ?kNDL ?kTDL ?kkDL trivial ?kdDL ?kuDL ?_; (case kNDL => k_asm); (case hTDL => assumption)) | (refine' ct_use (c_draw (_ :: _) ?hTDL ?hkDL ?hapDL ?hmDL) ?kBDL ?kFDL ?kXDL ?kNDL ?kTDL ?kkDL trivial ?kdDL ?kuDL ?_; (case kNDL => k_asm); (case hTDL => assumption))); (case kBDL => k_asm); (case kFDL => k_asm); (case kXDL => k_asm); (case kTDL => k_asm); (case kkDL => first | exact rfl | assumption); (case hkDL => omega); (case hapDL => (repeat (first | exact List.forall_mem_nil _ | (refine List.forall_mem_cons.mpr (And.intro ?_ ?_)) | assumption | exact pen_ap (by assumption) (by first | assumption | omega)))); (case hmDL => (constructor <;> omega)); (case kdDL => ktr_room); (case kuDL => ktr_units); (intro v9Z ns9Z h9Z tk9Z hR9Z F9Z N9Z; obtain ⟨T9, r9, t9, hv9, hr9, hs9, hn9, hT9⟩ := hR9Z; subst hv9 hn9; (try dsimp only [List.nil_append, List.cons_append] at N9Z); (try dsimp only); (try k_fold))))
  k_with ".call ref" => (k_here; (with_reducible show wpAny _ _ (call (Value.ref 742) _) _ _ _); k_dflt ((first | (refine' ct_use (c_pickL [] ?hTDM ?hkDM ?hapDM ?hsDM ?hIDM ?hlDM) ?kBDM ?kFDM ?kXDM ?kNDM ?kTDM ?kkDM trivial ?kdDM ?kuDM ?_; (case kNDM => k_asm); (case hTDM => assumption)) | (refine' ct_use (c_pickL [_] ?hTDM ?hkDM ?hapDM ?hsDM ?hIDM ?hlDM) ?kBDM ?kFDM ?kXDM ?kNDM ?kTDM ?kkDM trivial ?kdDM ?kuDM ?_; (case kNDM => k_asm); (case hTDM => assumption)) | (refine' ct_use (c_pickL [_, _] ?hTDM ?hkDM ?hapDM ?hsDM ?hIDM ?hlDM) ?kBDM ?kFDM ?kXDM ?kNDM ?kTDM ?kkDM trivial ?kdDM ?kuDM ?_; (case kNDM => k_asm); (case hTDM => assumption)) | (refine' ct_use (c_pickL [_, _, _] ?hTDM ?hkDM ?hapDM ?hsDM ?hIDM ?hlDM) ?kBDM ?kFDM ?kXDM ?kNDM ?kTDM ?kkDM trivial ?kdDM ?kuDM ?_; (case kNDM => k_asm); (case hTDM => assumption)) | (refine' ct_use (c_pickL [_, _, _, _] ?hTDM ?hkDM ?hapDM ?hsDM ?hIDM ?hlDM) ?kBDM ?kFDM ?kXDM ?kNDM ?kTDM ?kkDM trivial ?kdDM ?kuDM ?_; (case kNDM => k_asm); (case hTDM => assumption)) | (refine' ct_use (c_pickL [_, _, _, _, _] ?hTDM ?hkDM ?hapDM ?hsDM ?hIDM ?hlDM) ?kBDM ?kFDM ?kXDM ?kNDM ?kTDM ?kkDM trivial ?kdDM ?kuDM ?_; (case kNDM => k_asm); (case hTDM => assumption)) | (refine' ct_use (c_pickL [_, _, _, _, _, _] ?hTDM ?hkDM ?hapDM ?hsDM ?hIDM ?hlDM) ?kBDM ?kFDM ?kXDM ?kNDM ?kTDM ?kkDM trivial ?kdDM ?kuDM ?_; (case kNDM => k_asm); (case hTDM => assumption)) | (refine' ct_use (c_pickL (_ :: _) ?hTDM ?hkDM ?hapDM ?hsDM ?hIDM ?hlDM) ?kBDM ?kFDM ?kXDM ?kNDM ?kTDM ?kkDM trivial ?kdDM ?kuDM ?_; (case kNDM => k_asm); (case hTDM => assumption))); (case kBDM => k_asm); (case kFDM => k_asm); (case kXDM => k_asm); (case kTDM => k_asm); (case kkDM => first | exact rfl | assumption); (case hsDM => (first | exact List.Mem.head _ | exact List.Mem.tail _ (List.Mem.head _) | exact List.Mem.tail _ (List.Mem.tail _ (List.Mem.head _)))); (case hkDM => omega); (case hapDM => (repeat (first | exact List.forall_mem_nil _ | (refine List.forall_mem_cons.mpr (And.intro ?_ ?_)) | assumption | exact pen_ap (by assumption) (by first | assumption | omega)))); (case hIDM => rfl); (case hlDM => rfl); (case kdDM => ktr_room); (case kuDM => ktr_units); (intro v9Z ns9Z h9Z tk9Z hR9Z F9Z N9Z; obtain ⟨T9, r9, t9, hv9, hr9, hn9, hT9⟩ := hR9Z; subst hv9 hn9; (simp only [intsOf] at hr9); (first | (have h29 := in2 hr9; clear hr9) | (have h69 := in6 hr9 (by first | rfl | decide +kernel); have h79 := h69.1; have h89 := h69.2; clear h69) | skip); (try dsimp only [List.nil_append, List.cons_append] at N9Z); (try dsimp only); (try k_fold))))
  k_with ".call ref" => (k_here; (with_reducible show wpAny _ _ (call (Value.ref 742) [_, Value.ref 723]) _ _ _); k_dflt ((first | (refine' ct_use (c_pickS [] ?hTDN ?hkDN ?hapDN) ?kBDN ?kFDN ?kXDN ?kNDN ?kTDN ?kkDN trivial ?kdDN ?kuDN ?_; (case kNDN => k_asm); (case hTDN => assumption)) | (refine' ct_use (c_pickS [_] ?hTDN ?hkDN ?hapDN) ?kBDN ?kFDN ?kXDN ?kNDN ?kTDN ?kkDN trivial ?kdDN ?kuDN ?_; (case kNDN => k_asm); (case hTDN => assumption)) | (refine' ct_use (c_pickS [_, _] ?hTDN ?hkDN ?hapDN) ?kBDN ?kFDN ?kXDN ?kNDN ?kTDN ?kkDN trivial ?kdDN ?kuDN ?_; (case kNDN => k_asm); (case hTDN => assumption)) | (refine' ct_use (c_pickS [_, _, _] ?hTDN ?hkDN ?hapDN) ?kBDN ?kFDN ?kXDN ?kNDN ?kTDN ?kkDN trivial ?kdDN ?kuDN ?_; (case kNDN => k_asm); (case hTDN => assumption)) | (refine' ct_use (c_pickS [_, _, _, _] ?hTDN ?hkDN ?hapDN) ?kBDN ?kFDN ?kXDN ?kNDN ?kTDN ?kkDN trivial ?kdDN ?kuDN ?_; (case kNDN => k_asm); (case hTDN => assumption)) | (refine' ct_use (c_pickS [_, _, _, _, _] ?hTDN ?hkDN ?hapDN) ?kBDN ?kFDN ?kXDN ?kNDN ?kTDN ?kkDN trivial ?kdDN ?kuDN ?_; (case kNDN => k_asm); (case hTDN => assumption)) | (refine' ct_use (c_pickS [_, _, _, _, _, _] ?hTDN ?hkDN ?hapDN) ?kBDN ?kFDN ?kXDN ?kNDN ?kTDN ?kkDN trivial ?kdDN ?kuDN ?_; (case kNDN => k_asm); (case hTDN => assumption)) | (refine' ct_use (c_pickS (_ :: _) ?hTDN ?hkDN ?hapDN) ?kBDN ?kFDN ?kXDN ?kNDN ?kTDN ?kkDN trivial ?kdDN ?kuDN ?_; (case kNDN => k_asm); (case hTDN => assumption))); (case kBDN => k_asm); (case kFDN => k_asm); (case kXDN => k_asm); (case kTDN => k_asm); (case kkDN => first | exact rfl | assumption); (case hkDN => omega); (case hapDN => (repeat (first | exact List.forall_mem_nil _ | (refine List.forall_mem_cons.mpr (And.intro ?_ ?_)) | assumption | exact pen_ap (by assumption) (by first | assumption | omega)))); (case kdDN => ktr_room); (case kuDN => ktr_units); (intro v9Z ns9Z h9Z tk9Z hR9Z F9Z N9Z; obtain ⟨T9, r9, t9, hv9, hr9, hn9, hT9⟩ := hR9Z; subst hv9 hn9; (try dsimp only [List.nil_append, List.cons_append] at N9Z); (try dsimp only); (try k_fold))))
  trivial
inductive R_0 (L : Nat) (p : Nat) (x : Nat) (rest : Led) (B : Nat) (k : Int) (c1 : Obj) (c2 : Obj) (m' : Str → Option Value) (ns' : Led) : Prop where
  | mk (o : Str) (sz : Int) (t1 t2 : Tok) (T' : Led) (q9 : m' = (mset "op" (.str o t1) (mset "size" (.int sz t2) m0)) ∧ ns' = (L + 1 + 1, c1) :: (L + 1, c2) :: T' ∧ o ∈ ops ∧ (sz = 64 ∨ sz = 32) ∧ PenT p x rest B (k + 2) T') : R_0 L p x rest B k c1 c2 m' ns'
def SS_s_0 (kz : SegCx) : Prop := ∀ (p x : Nat) (rest : Led) (B : Nat) (k : Int) (T : Led) (c1 c2 : Obj) (hc1 : c1.data = .cell none) (hc2 : c2.data = .cell (some (.ref p))) (hT : PenT p x rest B k T) (hBL : B ≤ kz.x.L) (hk : k ≤ 900), SegK kz 0 m0 ((kz.x.L + 1 + 1, c1) :: (kz.x.L + 1, c2) :: T) (R_0 kz.x.L p x rest B k c1 c2)
noncomputable def sgc_s_0 : SegCx := kapSg SS_s_0
set_option maxHeartbeats 4000000 in
theorem s_0_k : SS_s_0 sgc_s_0 := by
  intro p x rest B k T c1 c2 hc1 hc2 hT hBL hk
  have e1 : caseScope = caseScope := rfl
  conv at e1 => rhs; whnf
  have e2 : caseSt 0 = caseSt 0 := rfl
  conv at e2 => rhs; whnf
  (try dsimp only at e1)
  (try dsimp only at e2)
  refine @segL_lit _ _ _ _ _ _ _ _ e1 e2 ?_
  clear e1 e2
  unfold SegL
  intro h tk HW HF HN hret
  have HX := HW.X
  have HT := HW.T
  have HB := HW.B
  have hdp := HW.d
  have hun := HW.u
  refine frLet HF ?_
  intro mk HF9
  clear HF
  refine ledLet (by with_reducible assumption) ?_
  intro nk HN9
  k_steps
  all_goals (refine' hret _ _ _ _ ⟨_, _, _, _, _, rfl, rfl, ?ho, ?hz, ?pen⟩ ?bas ?led
             case bas => k_asm
             case pen => exact pen_up (by assumption) (by omega)
             case ho => assumption
             case hz => assumption
             case led => k_extra "Z0")
theorem s_0 {w : World} {mean : ExcName → Option Value} {mg mb : Str → Option Value} {L p x : Nat} {rest : Led} {B : Nat} {k : Int} {T : Led} {c1 c2 : Obj} (hc1 : c1.data = .cell none) (hc2 : c2.data = .cell (some (.ref p))) (hT : PenT p x rest B k T) (hBL : B ≤ L) (hk : k ≤ 900) : Seg w mean mg mb 0 L m0 ((L + 1 + 1, c1) :: (L + 1, c2) :: T) (R_0 L p x rest B k c1 c2) :=
  seg_of fun z1 z2 z3 z4 z5 z6 z7 z8 z9 za zb => @sg_all SS_s_0 s_0_k (sgAt w mean mg mb L z1 z2 z3 z4 z5 z6 z7 z8 z9 za zb) p x rest B k T c1 c2 hc1 hc2 hT hBL hk


example : True := by
  k_with "off H3_0" => skip
  trivial
end
section
set_option maxHeartbeats 1000000
section
variable {h₀ h : Heap} {L : Addr}
end
local macro_rules | `(tactic| k_lt $h) => `(tactic| (replace $h := allLt_of $h; (try simp only [AllLt, and_true] at $h:ident); (repeat (have h9 := And.left $h; replace $h := And.right $h)); (try (first | replace $h := pen_le (by assumption) $h | replace $h := pen_leA (by assumption) $h))))
example : True := by
  k_with "T:k_all" => ((fail_if_success k_extra "off H3_1"); exact pen_ne (by assumption) (by first | assumption | omega))
  k_with ".binaryOp Pow int int" => ((fail_if_success k_extra "off H3_1"); (k_here; first | with_reducible refine pow2_31 ?_ | with_reducible refine pow2_32 ?_ | with_reducible refine pow2_63 ?_ | with_reducible refine pow2_64 ?_ | with_reducible refine pow2_m63 ?_ | with_reducible refine pow2_m31 ?_))
  k_with ".CompSrc" => ((fail_if_success k_extra "off H3_1"); (k_here; (with_reducible show LCg.CompSrc _ _ _ _ _ _ _ (Expr.Call (Expr.Name (Str.ofString "_law_worth") _) _ _ _) _ _ _ _ _ _); k_dflt (refine LCg.CompSrc.range (by rfl) (by k_asm) (by k_asm) (by assumption) (by first | decide | rfl) (by first | rfl | decide) (by exact Nat.le_of_ble_eq_true rfl) ?_; intro g'Z; refine' comp_ind (HeldInv _ _ _ _ _ [_, _]) ?h0DQ ?_ ?_; (case h0DQ => exact held_zero [_, _] (by assumption)); (rotate_left; (intro ys9Z nw9Z hI9Z; (replace hI9Z : HeldInv _ _ _ _ _ _ 11 _ _ := hI9Z); obtain ⟨T9, xs9, hm9, hT9, hi9, hl9, hb9⟩ := hI9Z; subst hm9); rotate_left; (intro i9Z ys9Z nw9Z hn9Z hI9Z v9Z I9Z oI9Z C9Z oC9Z D9Z m9Z h9Z tk9Z E9Z hv9Z hC9Z hx9Z F9Z N9Z off9Z ne9Z; (replace hn9Z : i9Z < 11 := hn9Z); obtain ⟨T9, xs9, hm9, hT9, hi9, hl9, hb9⟩ := hI9Z; subst hm9; have hoff9 := off_pen off9Z hT9; obtain ⟨hoI9, hoC9, hoD9⟩ := hoff9; (try dsimp only [List.nil_append, List.cons_append] at N9Z))))))
  k_with ".CompEnd" => ((fail_if_success k_extra "off H3_1"); (k_here; k_dflt (refine' compEnd_all ?FDR ?NDR ?ofDR ?rrDR; (case FDR => k_asm); (case NDR => k_asm); (case ofDR => exact off_next (pre := [_, _]) (by assumption) (by assumption) (by assumption)); (case rrDR => exact held_step (pre := [_, _]) (by assumption) (by assumption) (by assumption) (by assumption) (by assumption) (by assumption)))))
  k_with ".FinA" => ((fail_if_success k_extra "off H3_1"); (k_here; (with_reducible show LCg.FinA _ _ _ _ (Str.ofString "held") _ _ _); (unfold LCg.FinA; intro D'Z h'Z tk'Z F'Z N'Z o1'Z; have hD9 := off1_pen (pre := [_, _]) o1'Z (by assumption); obtain ⟨hDp9, hDT9⟩ := hD9; (simp only [List.nil_append, List.cons_append, LCg.Off1] at o1'Z); obtain ⟨hn19, hn29, _⟩ := o1'Z; (try dsimp only [List.nil_append, List.cons_append] at N'Z); (try (replace N'Z := held_lst N'Z)); (try dsimp only))))
  k_with "T:k_all" => ((fail_if_success k_extra "off H3_1"); exact apart_use (by assumption) (by assumption))
  trivial
inductive R_1 (L : Nat) (p : Nat) (x : Nat) (rest : Led) (B : Nat) (k : Int) (c1 : Obj) (c2 : Obj) (o : Str) (sz : Int) (t1 : Tok) (t2 : Tok) (m' : Str → Option Value) (ns' : Led) : Prop where
  | mk (D : Nat) (ys : List Value) (xs : List Int) (n : Nat) (T' : Led) (q9 : m' = (mset "held" (.ref D) (mset "op" (.str o t1) (mset "size" (.int sz t2) m0))) ∧ ns' = (D, listOf ys.toArray n) :: (L + 1 + 1, c1) :: (L + 1, c2) :: T' ∧ IntsAre ys xs ∧ xs.length = 11 ∧ (∀ r ∈ xs, 0 ≤ r ∧ r < 2 ^ 64) ∧ (∀ T' k', PenT p x rest B k' T' → ∀ q ∈ T', q.1 ≠ D) ∧ (D ≠ p ∧ D ≠ x) ∧ D ≠ L + 1 + 1 ∧ D ≠ L + 1 ∧ PenT p x rest B (k + 11) T') : R_1 L p x rest B k c1 c2 o sz t1 t2 m' ns'
def SS_s_1 (kz : SegCx) : Prop := ∀ (p x : Nat) (rest : Led) (B : Nat) (k : Int) (T : Led) (c1 c2 : Obj) (o : Str) (sz : Int) (t1 t2 : Tok) (hc1 : c1.data = .cell none) (hc2 : c2.data = .cell (some (.ref p))) (hT : PenT p x rest B k T) (hBL : B ≤ kz.x.L) (hk : k ≤ 900), SegK kz 1 (mset "op" (.str o t1) (mset "size" (.int sz t2) m0)) ((kz.x.L + 1 + 1, c1) :: (kz.x.L + 1, c2) :: T) (R_1 kz.x.L p x rest B k c1 c2 o sz t1 t2)
noncomputable def sgc_s_1 : SegCx := kapSg SS_s_1
set_option maxHeartbeats 4000000 in
theorem s_1_k : SS_s_1 sgc_s_1 := by
  intro p x rest B k T c1 c2 o sz t1 t2 hc1 hc2 hT hBL hk
  have e1 : caseScope = caseScope := rfl
  conv at e1 => rhs; whnf
  have e2 : caseSt 1 = caseSt 1 := rfl
  conv at e2 => rhs; whnf
  (try dsimp only at e1)
  (try dsimp only at e2)
  refine @segL_lit _ _ _ _ _ _ _ _ e1 e2 ?_
  clear e1 e2
  unfold SegL
  intro h tk HW HF HN hret
  have HX := HW.X
  have HT := HW.T
  have HB := HW.B
  have hdp := HW.d
  have hun := HW.u
  refine frLet HF ?_
  intro mk HF9
  clear HF
  refine ledLet (by with_reducible assumption) ?_
  intro nk HN9
  k_steps
  all_goals (refine' hret _ _ _ _ ⟨_, _, _, _, _, rfl, rfl, ?hi, ?hl, ?hb, ?dt, ?dp, ?d1, ?d2, ?pen⟩ ?bas ?led
             case bas => k_asm
             case pen => exact pen_up (by assumption) (by omega)
             case hi => assumption
             case hl => assumption
             case hb => assumption
             case dt => assumption
             case dp => assumption
             case d1 => exact Ne.symm (by assumption)
             case d2 => exact Ne.symm (by assumption)
             case led => k_extra "Z0")
theorem s_1 {w : World} {mean : ExcName → Option Value} {mg mb : Str → Option Value} {L p x : Nat} {rest : Led} {B : Nat} {k : Int} {T : Led} {c1 c2 : Obj} {o : Str} {sz : Int} {t1 t2 : Tok} (hc1 : c1.data = .cell none) (hc2 : c2.data = .cell (some (.ref p))) (hT : PenT p x rest B k T) (hBL : B ≤ L) (hk : k ≤ 900) : Seg w mean mg mb 1 L (mset "op" (.str o t1) (mset "size" (.int sz t2) m0)) ((L + 1 + 1, c1) :: (L + 1, c2) :: T) (R_1 L p x rest B k c1 c2 o sz t1 t2) :=
  seg_of fun z1 z2 z3 z4 z5 z6 z7 z8 z9 za zb => @sg_all SS_s_1 s_1_k (sgAt w mean mg mb L z1 z2 z3 z4 z5 z6 z7 z8 z9 za zb) p x rest B k T c1 c2 o sz t1 t2 hc1 hc2 hT hBL hk


example : True := by
  k_with "off H3_1" => skip
  trivial
end
section
set_option maxHeartbeats 1000000
example : True := by
  k_with "nolet" => fail_if_success k_extra "off H3_2"
  trivial
section
variable {h₀ h : Heap} {L : Addr}
end
local macro_rules | `(tactic| k_lt $h) => `(tactic| (replace $h := allLt_of $h; (try simp only [AllLt, and_true] at $h:ident); (repeat (have h9 := And.left $h; replace $h := And.right $h)); (try (first | replace $h := pen_le (by assumption) $h | replace $h := pen_leA (by assumption) $h))))
example : True := by
  k_with ".newTuple" => ((fail_if_success k_extra "off H3_2"); (k_here; k_dflt (refine' kup_newTuple ?FDU ?NDU ?_ ?zDU; (case FDU => k_asm); (case NDU => k_asm); (case zDU => kmk_size)); intro D'Z h'Z F'Z N'Z l1Z; (try k_lt l1Z); (try k_sweep)))
  k_with ".storeName" => ((fail_if_success k_extra "off H3_2"); (k_here; k_dflt (refine' stL ?FDV ?NDV ?_ ?aDV ?bDV; (case FDV => k_asm); (case NDV => k_asm); (case aDV => rfl); (case bDV => rfl); k_whole; intro mkZ nkZ h'Z F'Z N'Z; (try k_sweep))))
  k_with "T:k_all" => ((fail_if_success k_extra "off H3_2"); exact pen_ne (by assumption) (by first | assumption | omega))
  k_with ".binaryOp Pow int int" => ((fail_if_success k_extra "off H3_2"); (k_here; first | with_reducible refine pow2_31 ?_ | with_reducible refine pow2_32 ?_ | with_reducible refine pow2_63 ?_ | with_reducible refine pow2_64 ?_ | with_reducible refine pow2_m63 ?_ | with_reducible refine pow2_m31 ?_))
  trivial
inductive R_2 (L : Nat) (p : Nat) (x : Nat) (rest : Led) (B : Nat) (k : Int) (c1 : Obj) (c2 : Obj) (o : Str) (sz : Int) (t1 : Tok) (t2 : Tok) (D : Nat) (n : Nat) (ys : List Value) (m' : Str → Option Value) (ns' : Led) : Prop where
  | mk (d sr nu : Int) (t3 t4 t5 : Tok) (T' : Led) (q9 : m' = (mset "dst" (.int d t3) (mset "src" (.int sr t4) (mset "number" (.int nu t5) (mset "held" (.ref D) (mset "op" (.str o t1) (mset "size" (.int sz t2) m0)))))) ∧ ns' = (D, listOf ys.toArray n) :: (L + 1 + 1, c1) :: (L + 1, c2) :: T' ∧ (0 ≤ d ∧ d < 11) ∧ (0 ≤ sr ∧ sr < 11) ∧ (-2147483648 ≤ nu ∧ nu < 2147483648) ∧ PenT p x rest B (k + 3) T') : R_2 L p x rest B k c1 c2 o sz t1 t2 D n ys m' ns'
def SS_s_2 (kz : SegCx) : Prop := ∀ (p x : Nat) (rest : Led) (B : Nat) (k : Int) (T : Led) (c1 c2 : Obj) (o : Str) (sz : Int) (t1 t2 : Tok) (D n : Nat) (ys : List Value) (xs : List Int) (hc1 : c1.data = .cell none) (hc2 : c2.data = .cell (some (.ref p))) (hT : PenT p x rest B k T) (hBL : B ≤ kz.x.L) (hi : IntsAre ys xs) (hl : xs.length = 11) (hb : ∀ r ∈ xs, 0 ≤ r ∧ r < 2 ^ 64) (hDT : ∀ T' k', PenT p x rest B k' T' → ∀ q ∈ T', q.1 ≠ D) (hDp : D ≠ p ∧ D ≠ x) (hD1 : D ≠ kz.x.L + 1 + 1) (hD2 : D ≠ kz.x.L + 1) (hk : k ≤ 900), SegK kz 2 (mset "held" (.ref D) (mset "op" (.str o t1) (mset "size" (.int sz t2) m0))) ((D, listOf ys.toArray n) :: (kz.x.L + 1 + 1, c1) :: (kz.x.L + 1, c2) :: T) (R_2 kz.x.L p x rest B k c1 c2 o sz t1 t2 D n ys)
noncomputable def sgc_s_2 : SegCx := kapSg SS_s_2
set_option maxHeartbeats 4000000 in
theorem s_2_k : SS_s_2 sgc_s_2 := by
  intro p x rest B k T c1 c2 o sz t1 t2 D n ys xs hc1 hc2 hT hBL hi hl hb hDT hDp hD1 hD2 hk
  have e1 : caseScope = caseScope := rfl
  conv at e1 => rhs; whnf
  have e2 : caseSt 2 = caseSt 2 := rfl
  conv at e2 => rhs; whnf
  (try dsimp only at e1)
  (try dsimp only at e2)
  refine @segL_lit _ _ _ _ _ _ _ _ e1 e2 ?_
  clear e1 e2
  unfold SegL
  intro h tk HW HF HN hret
  have HX := HW.X
  have HT := HW.T
  have HB := HW.B
  have hdp := HW.d
  have hun := HW.u
  refine frLet HF ?_
  intro mk HF9
  clear HF
  refine ledLet (by with_reducible assumption) ?_
  intro nk HN9
  k_steps
  all_goals (refine' hret _ _ _ _ ⟨_, _, _, _, _, _, _, rfl, rfl, ?d, ?s, ?n, ?pen⟩ ?bas ?led
             case bas => k_asm
             case pen => exact pen_up (by assumption) (by omega)
             case d => constructor <;> assumption
             case s => constructor <;> assumption
             case n => constructor <;> assumption
             case led => k_extra "Z0")
theorem s_2 {w : World} {mean : ExcName → Option Value} {mg mb : Str → Option Value} {L p x : Nat} {rest : Led} {B : Nat} {k : Int} {T : Led} {c1 c2 : Obj} {o : Str} {sz : Int} {t1 t2 : Tok} {D n : Nat} {ys : List Value} {xs : List Int} (hc1 : c1.data = .cell none) (hc2 : c2.data = .cell (some (.ref p))) (hT : PenT p x rest B k T) (hBL : B ≤ L) (hi : IntsAre ys xs) (hl : xs.length = 11) (hb : ∀ r ∈ xs, 0 ≤ r ∧ r < 2 ^ 64) (hDT : ∀ T' k', PenT p x rest B k' T' → ∀ q ∈ T', q.1 ≠ D) (hDp : D ≠ p ∧ D ≠ x) (hD1 : D ≠ L + 1 + 1) (hD2 : D ≠ L + 1) (hk : k ≤ 900) : Seg w mean mg mb 2 L (mset "held" (.ref D) (mset "op" (.str o t1) (mset "size" (.int sz t2) m0))) ((D, listOf ys.toArray n) :: (L + 1 + 1, c1) :: (L + 1, c2) :: T) (R_2 L p x rest B k c1 c2 o sz t1 t2 D n ys) :=
  seg_of fun z1 z2 z3 z4 z5 z6 z7 z8 z9 za zb => @sg_all SS_s_2 s_2_k (sgAt w mean mg mb L z1 z2 z3 z4 z5 z6 z7 z8 z9 za zb) p x rest B k T c1 c2 o sz t1 t2 D n ys xs hc1 hc2 hT hBL hi hl hb hDT hDp hD1 hD2 hk


example : True := by
  k_with "off H3_2" => skip
  trivial
end
section
set_option maxHeartbeats 1000000
section
variable {h₀ h : Heap} {L : Addr}
end
local macro_rules | `(tactic| k_lt $h) => `(tactic| (replace $h := allLt_of $h; (try simp only [AllLt, and_true] at $h:ident); (repeat (have h9 := And.left $h; replace $h := And.right $h)); (try (first | replace $h := pen_le (by assumption) $h | replace $h := pen_leA (by assumption) $h))))
example : True := by
  k_with "T:k_all" => ((fail_if_success k_extra "off H3_3"); exact pen_ne (by assumption) (by first | assumption | omega))
  k_with ".binaryOp Pow int int" => ((fail_if_success k_extra "off H3_3"); (k_here; first | with_reducible refine pow2_31 ?_ | with_reducible refine pow2_32 ?_ | with_reducible refine pow2_63 ?_ | with_reducible refine pow2_64 ?_ | with_reducible refine pow2_m63 ?_ | with_reducible refine pow2_m31 ?_))
  trivial
inductive R_3 (L : Nat) (p : Nat) (x : Nat) (rest : Led) (B : Nat) (k : Int) (c1 : Obj) (c2 : Obj) (o : Str) (sz : Int) (t1 : Tok) (t2 : Tok) (D : Nat) (n : Nat) (ys : List Value) (d : Int) (sr : Int) (nu : Int) (t3 : Tok) (t4 : Tok) (t5 : Tok) (m' : Str → Option Value) (ns' : Led) : Prop where
  | mk (nr : Bool) (T' : Led) (q9 : m' = (mset "is_near" (.bool nr) (mset "dst" (.int d t3) (mset "src" (.int sr t4) (mset "number" (.int nu t5) (mset "held" (.ref D) (mset "op" (.str o t1) (mset "size" (.int sz t2) m0))))))) ∧ ns' = (D, listOf ys.toArray n) :: (L + 1 + 1, c1) :: (L + 1, c2) :: T' ∧ PenT p x rest B (k + 1) T') : R_3 L p x rest B k c1 c2 o sz t1 t2 D n ys d sr nu t3 t4 t5 m' ns'
def SS_s_3 (kz : SegCx) : Prop := ∀ (p x : Nat) (rest : Led) (B : Nat) (k : Int) (T : Led) (c1 c2 : Obj) (o : Str) (sz : Int) (t1 t2 : Tok) (D n : Nat) (ys : List Value) (xs : List Int) (d sr nu : Int) (t3 t4 t5 : Tok) (hc1 : c1.data = .cell none) (hc2 : c2.data = .cell (some (.ref p))) (hT : PenT p x rest B k T) (hBL : B ≤ kz.x.L) (hi : IntsAre ys xs) (hl : xs.length = 11) (hb : ∀ r ∈ xs, 0 ≤ r ∧ r < 2 ^ 64) (hDT : ∀ T' k', PenT p x rest B k' T' → ∀ q ∈ T', q.1 ≠ D) (hDp : D ≠ p ∧ D ≠ x) (hD1 : D ≠ kz.x.L + 1 + 1) (hD2 : D ≠ kz.x.L + 1) (hk : k ≤ 900), SegK kz 3 (mset "dst" (.int d t3) (mset "src" (.int sr t4) (mset "number" (.int nu t5) (mset "held" (.ref D) (mset "op" (.str o t1) (mset "size" (.int sz t2) m0)))))) ((D, listOf ys.toArray n) :: (kz.x.L + 1 + 1, c1) :: (kz.x.L + 1, c2) :: T) (R_3 kz.x.L p x rest B k c1 c2 o sz t1 t2 D n ys d sr nu t3 t4 t5)
noncomputable def sgc_s_3 : SegCx := kapSg SS_s_3
set_option maxHeartbeats 4000000 in
theorem s_3_k : SS_s_3 sgc_s_3 := by
  intro p x rest B k T c1 c2 o sz t1 t2 D n ys xs d sr nu t3 t4 t5 hc1 hc2 hT hBL hi hl hb hDT hDp hD1 hD2 hk
  have e1 : caseScope = caseScope := rfl
  conv at e1 => rhs; whnf
  have e2 : caseSt 3 = caseSt 3 := rfl
  conv at e2 => rhs; whnf
  (try dsimp only at e1)
  (try dsimp only at e2)
  refine @segL_lit _ _ _ _ _ _ _ _ e1 e2 ?_
  clear e1 e2
  unfold SegL
  intro h tk HW HF HN hret
  have HX := HW.X
  have HT := HW.T
  have HB := HW.B
  have hdp := HW.d
  have hun := HW.u
  refine frLet HF ?_
  intro mk HF9
  clear HF
  refine ledLet (by with_reducible assumption) ?_
  intro nk HN9
  k_steps
  all_goals (refine' hret _ _ _ _ ⟨_, _, rfl, rfl, ?pen⟩ ?bas ?led
             case bas => k_asm
             case pen => exact pen_up (by assumption) (by omega)
             case led => k_extra "Z0")
theorem s_3 {w : World} {mean : ExcName → Option Value} {mg mb : Str → Option Value} {L p x : Nat} {rest : Led} {B : Nat} {k : Int} {T : Led} {c1 c2 : Obj} {o : Str} {sz : Int} {t1 t2 : Tok} {D n : Nat} {ys : List Value} {xs : List Int} {d sr nu : Int} {t3 t4 t5 : Tok} (hc1 : c1.data = .cell none) (hc2 : c2.data = .cell (some (.ref p))) (hT : PenT p x rest B k T) (hBL : B ≤ L) (hi : IntsAre ys xs) (hl : xs.length = 11) (hb : ∀ r ∈ xs, 0 ≤ r ∧ r < 2 ^ 64) (hDT : ∀ T' k', PenT p x rest B k' T' → ∀ q ∈ T', q.1 ≠ D) (hDp : D ≠ p ∧ D ≠ x) (hD1 : D ≠ L + 1 + 1) (hD2 : D ≠ L + 1) (hk : k ≤ 900) : Seg w mean mg mb 3 L (mset "dst" (.int d t3) (mset "src" (.int sr t4) (mset "number" (.int nu t5) (mset "held" (.ref D) (mset "op" (.str o t1) (mset "size" (.int sz t2) m0)))))) ((D, listOf ys.toArray n) :: (L + 1 + 1, c1) :: (L + 1, c2) :: T) (R_3 L p x rest B k c1 c2 o sz t1 t2 D n ys d sr nu t3 t4 t5) :=
  seg_of fun z1 z2 z3 z4 z5 z6 z7 z8 z9 za zb => @sg_all SS_s_3 s_3_k (sgAt w mean mg mb L z1 z2 z3 z4 z5 z6 z7 z8 z9 za zb) p x rest B k T c1 c2 o sz t1 t2 D n ys xs d sr nu t3 t4 t5 hc1 hc2 hT hBL hi hl hb hDT hDp hD1 hD2 hk


example : True := by
  k_with "off H3_3" => skip
  trivial
end
section
set_option maxHeartbeats 1000000
section
variable {h₀ h : Heap} {L : Addr}
end
local macro_rules | `(tactic| k_lt $h) => `(tactic| (replace $h := allLt_of $h; (try simp only [AllLt, and_true] at $h:ident); (repeat (have h9 := And.left $h; replace $h := And.right $h)); (try (first | replace $h := pen_le (by assumption) $h | replace $h := pen_leA (by assumption) $h))))
example : True := by
  k_with "T:k_all" => ((fail_if_success k_extra "off H3_4"); exact pen_ne (by assumption) (by first | assumption | omega))
  k_with ".binaryOp Pow int int" => ((fail_if_success k_extra "off H3_4"); (k_here; first | with_reducible refine pow2_31 ?_ | with_reducible refine pow2_32 ?_ | with_reducible refine pow2_63 ?_ | with_reducible refine pow2_64 ?_ | with_reducible refine pow2_m63 ?_ | with_reducible refine pow2_m31 ?_))
  k_with ".subscriptTail Name Name" => ((fail_if_success k_extra "off H3_4"); (k_here; (with_reducible show wpAny _ _ (subscriptTail _ _ (Value.ref _) (Value.int _ _)) _ _ _); k_dflt (refine' item_intsG ?NEc ?hmEc ?hIEc ?h0Ec ?hkEc ?hszEc (fun _ => ?_) ?hsEc; (case NEc => k_asm); (case hIEc => assumption); (case hmEc => (repeat (first | exact List.Mem.head _ | assumption | refine List.Mem.tail _ ?_))); (case h0Ec => first | assumption | omega); (case hkEc => first | assumption | omega); (case hszEc => omega); (case hsEc => with_unfolding_all rfl))))
  k_with "T:k_all" => ((fail_if_success k_extra "off H3_4"); exact apart_use (by assumption) (by assumption))
  trivial
inductive R_4 (L : Nat) (p : Nat) (x : Nat) (rest : Led) (B : Nat) (k : Int) (c1 : Obj) (c2 : Obj) (o : Str) (sz : Int) (t1 : Tok) (t2 : Tok) (D : Nat) (d : Int) (sr : Int) (nu : Int) (t3 : Tok) (t4 : Tok) (t5 : Tok) (nr : Bool) (m' : Str → Option Value) (ns' : Led) : Prop where
  | mk (ys : List Value) (xs : List Int) (n : Nat) (T' : Led) (q9 : m' = (mset "is_near" (.bool nr) (mset "dst" (.int d t3) (mset "src" (.int sr t4) (mset "number" (.int nu t5) (mset "held" (.ref D) (mset "op" (.str o t1) (mset "size" (.int sz t2) m0))))))) ∧ ns' = (D, listOf ys.toArray n) :: (L + 1 + 1, c1) :: (L + 1, c2) :: T' ∧ IntsAre ys xs ∧ xs.length = 11 ∧ (∀ r ∈ xs, 0 ≤ r ∧ r < 2 ^ 64) ∧ PenT p x rest B (k + 1) T') : R_4 L p x rest B k c1 c2 o sz t1 t2 D d sr nu t3 t4 t5 nr m' ns'
def SS_s_4 (kz : SegCx) : Prop := ∀ (p x : Nat) (rest : Led) (B : Nat) (k : Int) (T : Led) (c1 c2 : Obj) (o : Str) (sz : Int) (t1 t2 : Tok) (D n : Nat) (ys : List Value) (xs : List Int) (d sr nu : Int) (t3 t4 t5 : Tok) (nr : Bool) (hc1 : c1.data = .cell none) (hc2 : c2.data = .cell (some (.ref p))) (hT : PenT p x rest B k T) (hBL : B ≤ kz.x.L) (hi : IntsAre ys xs) (hl : xs.length = 11) (hb : ∀ r ∈ xs, 0 ≤ r ∧ r < 2 ^ 64) (hDT : ∀ T' k', PenT p x rest B k' T' → ∀ q ∈ T', q.1 ≠ D) (hDp : D ≠ p ∧ D ≠ x) (hD1 : D ≠ kz.x.L + 1 + 1) (hD2 : D ≠ kz.x.L + 1) (hd : 0 ≤ d ∧ d < 11) (hs : 0 ≤ sr ∧ sr < 11) (hn : -2147483648 ≤ nu ∧ nu < 2147483648) (hk : k ≤ 900), SegK kz 4 (mset "is_near" (.bool nr) (mset "dst" (.int d t3) (mset "src" (.int sr t4) (mset "number" (.int nu t5) (mset "held" (.ref D) (mset "op" (.str o t1) (mset "size" (.int sz t2) m0))))))) ((D, listOf ys.toArray n) :: (kz.x.L + 1 + 1, c1) :: (kz.x.L + 1, c2) :: T) (R_4 kz.x.L p x rest B k c1 c2 o sz t1 t2 D d sr nu t3 t4 t5 nr)
noncomputable def sgc_s_4 : SegCx := kapSg SS_s_4
set_option maxHeartbeats 4000000 in
theorem s_4_k : SS_s_4 sgc_s_4 := by
  intro p x rest B k T c1 c2 o sz t1 t2 D n ys xs d sr nu t3 t4 t5 nr hc1 hc2 hT hBL hi hl hb hDT hDp hD1 hD2 hd hs hn hk
  have e1 : caseScope = caseScope := rfl
  conv at e1 => rhs; whnf
  have e2 : caseSt 4 = caseSt 4 := rfl
  conv at e2 => rhs; whnf
  (try dsimp only at e1)
  (try dsimp only at e2)
  refine @segL_lit _ _ _ _ _ _ _ _ e1 e2 ?_
  clear e1 e2
  unfold SegL
  intro h tk HW HF HN hret
  have HX := HW.X
  have HT := HW.T
  have HB := HW.B
  have hdp := HW.d
  have hun := HW.u
  refine frLet HF ?_
  intro mk HF9
  clear HF
  refine ledLet (by with_reducible assumption) ?_
  intro nk HN9
  k_steps
  all_goals (refine' hret _ _ _ _ ⟨_, _, _, _, rfl, rfl, ?hi, ?hl, ?hb, ?pen⟩ ?bas ?led
             case bas => k_asm
             case pen => exact pen_up (by assumption) (by omega)
             case hi => assumption
             case hl => first | assumption | (rw [List.length_set]; assumption)
             case hb => first | assumption | exact set_bnd (by assumption)
             case led => k_extra "Z0")
theorem s_4 {w : World} {mean : ExcName → Option Value} {mg mb : Str → Option Value} {L p x : Nat} {rest : Led} {B : Nat} {k : Int} {T : Led} {c1 c2 : Obj} {o : Str} {sz : Int} {t1 t2 : Tok} {D n : Nat} {ys : List Value} {xs : List Int} {d sr nu : Int} {t3 t4 t5 : Tok} {nr : Bool} (hc1 : c1.data = .cell none) (hc2 : c2.data = .cell (some (.ref p))) (hT : PenT p x rest B k T) (hBL : B ≤ L) (hi : IntsAre ys xs) (hl : xs.length = 11) (hb : ∀ r ∈ xs, 0 ≤ r ∧ r < 2 ^ 64) (hDT : ∀ T' k', PenT p x rest B k' T' → ∀ q ∈ T', q.1 ≠ D) (hDp : D ≠ p ∧ D ≠ x) (hD1 : D ≠ L + 1 + 1) (hD2 : D ≠ L + 1) (hd : 0 ≤ d ∧ d < 11) (hs : 0 ≤ sr ∧ sr < 11) (hn : -2147483648 ≤ nu ∧ nu < 2147483648) (hk : k ≤ 900) : Seg w mean mg mb 4 L (mset "is_near" (.bool nr) (mset "dst" (.int d t3) (mset "src" (.int sr t4) (mset "number" (.int nu t5) (mset "held" (.ref D) (mset "op" (.str o t1) (mset "size" (.int sz t2) m0))))))) ((D, listOf ys.toArray n) :: (L + 1 + 1, c1) :: (L + 1, c2) :: T) (R_4 L p x rest B k c1 c2 o sz t1 t2 D d sr nu t3 t4 t5 nr) :=
  seg_of fun z1 z2 z3 z4 z5 z6 z7 z8 z9 za zb => @sg_all SS_s_4 s_4_k (sgAt w mean mg mb L z1 z2 z3 z4 z5 z6 z7 z8 z9 za zb) p x rest B k T c1 c2 o sz t1 t2 D n ys xs d sr nu t3 t4 t5 nr hc1 hc2 hT hBL hi hl hb hDT hDp hD1 hD2 hd hs hn hk


example : True := by
  k_with "off H3_4" => skip
  trivial
end
section
set_option maxHeartbeats 1000000
section
variable {h₀ h : Heap} {L : Addr}
end
local macro_rules | `(tactic| k_lt $h) => `(tactic| (replace $h := allLt_of $h; (try simp only [AllLt, and_true] at $h:ident); (repeat (have h9 := And.left $h; replace $h := And.right $h)); (try (first | replace $h := pen_le (by assumption) $h | replace $h := pen_leA (by assumption) $h))))
example : True := by
  k_with "T:k_all" => ((fail_if_success k_extra "off H3_5"); exact pen_ne (by assumption) (by first | assumption | omega))
  k_with ".binaryOp Pow int int" => ((fail_if_success k_extra "off H3_5"); (k_here; first | with_reducible refine pow2_31 ?_ | with_reducible refine pow2_32 ?_ | with_reducible refine pow2_63 ?_ | with_reducible refine pow2_64 ?_ | with_reducible refine pow2_m63 ?_ | with_reducible refine pow2_m31 ?_))
  trivial
inductive R_5 (L : Nat) (p : Nat) (x : Nat) (rest : Led) (B : Nat) (k : Int) (c1 : Obj) (c2 : Obj) (o : Str) (sz : Int) (t1 : Tok) (t2 : Tok) (D : Nat) (n : Nat) (ys : List Value) (d : Int) (sr : Int) (nu : Int) (t3 : Tok) (t4 : Tok) (t5 : Tok) (nr : Bool) (m' : Str → Option Value) (ns' : Led) : Prop where
  | mk (f : Int) (t6 : Tok) (T' : Led) (q9 : m' = (mset "far" (.int f t6) (mset "is_near" (.bool nr) (mset "dst" (.int d t3) (mset "src" (.int sr t4) (mset "number" (.int nu t5) (mset "held" (.ref D) (mset "op" (.str o t1) (mset "size" (.int sz t2) m0)))))))) ∧ ns' = (D, listOf ys.toArray n) :: (L + 1 + 1, c1) :: (L + 1, c2) :: T' ∧ (0 ≤ f ∧ f < 2) ∧ PenT p x rest B (k + 1) T') : R_5 L p x rest B k c1 c2 o sz t1 t2 D n ys d sr nu t3 t4 t5 nr m' ns'
def SS_s_5 (kz : SegCx) : Prop := ∀ (p x : Nat) (rest : Led) (B : Nat) (k : Int) (T : Led) (c1 c2 : Obj) (o : Str) (sz : Int) (t1 t2 : Tok) (D n : Nat) (ys : List Value) (xs : List Int) (d sr nu : Int) (t3 t4 t5 : Tok) (nr : Bool) (hc1 : c1.data = .cell none) (hc2 : c2.data = .cell (some (.ref p))) (hT : PenT p x rest B k T) (hBL : B ≤ kz.x.L) (hi : IntsAre ys xs) (hl : xs.length = 11) (hb : ∀ r ∈ xs, 0 ≤ r ∧ r < 2 ^ 64) (hDT : ∀ T' k', PenT p x rest B k' T' → ∀ q ∈ T', q.1 ≠ D) (hDp : D ≠ p ∧ D ≠ x) (hD1 : D ≠ kz.x.L + 1 + 1) (hD2 : D ≠ kz.x.L + 1) (hk : k ≤ 900), SegK kz 5 (mset "is_near" (.bool nr) (mset "dst" (.int d t3) (mset "src" (.int sr t4) (mset "number" (.int nu t5) (mset "held" (.ref D) (mset "op" (.str o t1) (mset "size" (.int sz t2) m0))))))) ((D, listOf ys.toArray n) :: (kz.x.L + 1 + 1, c1) :: (kz.x.L + 1, c2) :: T) (R_5 kz.x.L p x rest B k c1 c2 o sz t1 t2 D n ys d sr nu t3 t4 t5 nr)
noncomputable def sgc_s_5 : SegCx := kapSg SS_s_5
set_option maxHeartbeats 4000000 in
theorem s_5_k : SS_s_5 sgc_s_5 := by
  intro p x rest B k T c1 c2 o sz t1 t2 D n ys xs d sr nu t3 t4 t5 nr hc1 hc2 hT hBL hi hl hb hDT hDp hD1 hD2 hk
  have e1 : caseScope = caseScope := rfl
  conv at e1 => rhs; whnf
  have e2 : caseSt 5 = caseSt 5 := rfl
  conv at e2 => rhs; whnf
  (try dsimp only at e1)
  (try dsimp only at e2)
  refine @segL_lit _ _ _ _ _ _ _ _ e1 e2 ?_
  clear e1 e2
  unfold SegL
  intro h tk HW HF HN hret
  have HX := HW.X
  have HT := HW.T
  have HB := HW.B
  have hdp := HW.d
  have hun := HW.u
  refine frLet HF ?_
  intro mk HF9
  clear HF
  refine ledLet (by with_reducible assumption) ?_
  intro nk HN9
  k_steps
  all_goals (refine' hret _ _ _ _ ⟨_, _, _, rfl, rfl, ?f, ?pen⟩ ?bas ?led
             case bas => k_asm
             case pen => exact pen_up (by assumption) (by omega)
             case f => constructor <;> assumption
             case led => k_extra "Z0")
theorem s_5 {w : World} {mean : ExcName → Option Value} {mg mb : Str → Option Value} {L p x : Nat} {rest : Led} {B : Nat} {k : Int} {T : Led} {c1 c2 : Obj} {o : Str} {sz : Int} {t1 t2 : Tok} {D n : Nat} {ys : List Value} {xs : List Int} {d sr nu : Int} {t3 t4 t5 : Tok} {nr : Bool} (hc1 : c1.data = .cell none) (hc2 : c2.data = .cell (some (.ref p))) (hT : PenT p x rest B k T) (hBL : B ≤ L) (hi : IntsAre ys xs) (hl : xs.length = 11) (hb : ∀ r ∈ xs, 0 ≤ r ∧ r < 2 ^ 64) (hDT : ∀ T' k', PenT p x rest B k' T' → ∀ q ∈ T', q.1 ≠ D) (hDp : D ≠ p ∧ D ≠ x) (hD1 : D ≠ L + 1 + 1) (hD2 : D ≠ L + 1) (hk : k ≤ 900) : Seg w mean mg mb 5 L (mset "is_near" (.bool nr) (mset "dst" (.int d t3) (mset "src" (.int sr t4) (mset "number" (.int nu t5) (mset "held" (.ref D) (mset "op" (.str o t1) (mset "size" (.int sz t2) m0))))))) ((D, listOf ys.toArray n) :: (L + 1 + 1, c1) :: (L + 1, c2) :: T) (R_5 L p x rest B k c1 c2 o sz t1 t2 D n ys d sr nu t3 t4 t5 nr) :=
  seg_of fun z1 z2 z3 z4 z5 z6 z7 z8 z9 za zb => @sg_all SS_s_5 s_5_k (sgAt w mean mg mb L z1 z2 z3 z4 z5 z6 z7 z8 z9 za zb) p x rest B k T c1 c2 o sz t1 t2 D n ys xs d sr nu t3 t4 t5 nr hc1 hc2 hT hBL hi hl hb hDT hDp hD1 hD2 hk


example : True := by
  k_with "off H3_5" => skip
  trivial
end
section
set_option maxHeartbeats 1000000
section
variable {h₀ h : Heap} {L : Addr}
end
local macro_rules | `(tactic| k_lt $h) => `(tactic| (replace $h := allLt_of $h; (try simp only [AllLt, and_true] at $h:ident); (repeat (have h9 := And.left $h; replace $h := And.right $h)); (try (first | replace $h := pen_le (by assumption) $h | replace $h := pen_leA (by assumption) $h))))
example : True := by
  k_with "T:k_all" => ((fail_if_success k_extra "off H4_6"); exact pen_ne (by assumption) (by first | assumption | omega))
  k_with ".binaryOp Pow int int" => ((fail_if_success k_extra "off H4_6"); (k_here; first | with_reducible refine pow2_31 ?_ | with_reducible refine pow2_32 ?_ | with_reducible refine pow2_63 ?_ | with_reducible refine pow2_64 ?_ | with_reducible refine pow2_m63 ?_ | with_reducible refine pow2_m31 ?_))
  k_with ".call ref" => (k_here; (with_reducible show wpAny _ _ (call (Value.ref 230) [_, _, _, _, _]) _ _ _); k_dflt (refine c_bregS_v _ _ _ _ _ _ rfl (zW := by assumption) (zD := by exact rfl) (zF := by k_asm) (zN := by k_asm) (ho := by assumption) (hz := by (first | assumption | omega)) (kk9 := ?_)); walk_at "After")
  k_with ".call ref" => (k_here; (with_reducible show wpAny _ _ (call (Value.ref 238) [_, _, _, _, _]) _ _ _); k_dflt (refine c_bimmS_v _ _ _ _ _ _ rfl (zW := by assumption) (zD := by exact rfl) (zF := by k_asm) (zN := by k_asm) (ho := by assumption) (hz := by (first | assumption | omega)) (kk9 := ?_)); walk_at "After")
  trivial
inductive R_6 (L : Nat) (p : Nat) (x : Nat) (rest : Led) (B : Nat) (k : Int) (c1 : Obj) (c2 : Obj) (o : Str) (sz : Int) (t1 : Tok) (t2 : Tok) (D : Nat) (n : Nat) (ys : List Value) (d : Int) (sr : Int) (nu : Int) (t3 : Tok) (t4 : Tok) (t5 : Tok) (nr : Bool) (f : Int) (t6 : Tok) (m' : Str → Option Value) (ns' : Led) : Prop where
  | mk (rg : Bool) (c so im : Int) (ox dx : Nat) (od : Obj) (T' : Led) (q9 : m' = (mset "order" (.ref ox) (mset "far" (.int f t6) (mset "is_near" (.bool nr) (mset "dst" (.int d t3) (mset "src" (.int sr t4) (mset "number" (.int nu t5) (mset "held" (.ref D) (mset "op" (.str o t1) (mset "size" (.int sz t2) m0))))))))) ∧ ns' = (ox, instObj 133 dx) :: (dx, od) :: (D, listOf ys.toArray n) :: (L + 1 + 1, c1) :: (L + 1, c2) :: T' ∧ KindO rg o sz sr nu c so im ∧ IsOrd c d so f im 0 od ∧ PenT p x rest B (k + 1) T') : R_6 L p x rest B k c1 c2 o sz t1 t2 D n ys d sr nu t3 t4 t5 nr f t6 m' ns'
def SS_s_6 (kz : SegCx) : Prop := ∀ (p x : Nat) (rest : Led) (B : Nat) (k : Int) (T : Led) (c1 c2 : Obj) (o : Str) (sz : Int) (t1 t2 : Tok) (D n : Nat) (ys : List Value) (xs : List Int) (d sr nu : Int) (t3 t4 t5 : Tok) (nr : Bool) (f : Int) (t6 : Tok) (hc1 : c1.data = .cell none) (hc2 : c2.data = .cell (some (.ref p))) (hT : PenT p x rest B k T) (hBL : B ≤ kz.x.L) (hi : IntsAre ys xs) (hl : xs.length = 11) (hb : ∀ r ∈ xs, 0 ≤ r ∧ r < 2 ^ 64) (hDT : ∀ T' k', PenT p x rest B k' T' → ∀ q ∈ T', q.1 ≠ D) (hDp : D ≠ p ∧ D ≠ x) (hD1 : D ≠ kz.x.L + 1 + 1) (hD2 : D ≠ kz.x.L + 1) (ho : o ∈ ops) (hz : sz = 64 ∨ sz = 32) (hd : 0 ≤ d ∧ d < 11) (hs : 0 ≤ sr ∧ sr < 11) (hn : -2147483648 ≤ nu ∧ nu < 2147483648) (hf : 0 ≤ f ∧ f < 2) (hk : k ≤ 900), SegK kz 6 (mset "far" (.int f t6) (mset "is_near" (.bool nr) (mset "dst" (.int d t3) (mset "src" (.int sr t4) (mset "number" (.int nu t5) (mset "held" (.ref D) (mset "op" (.str o t1) (mset "size" (.int sz t2) m0)))))))) ((D, listOf ys.toArray n) :: (kz.x.L + 1 + 1, c1) :: (kz.x.L + 1, c2) :: T) (R_6 kz.x.L p x rest B k c1 c2 o sz t1 t2 D n ys d sr nu t3 t4 t5 nr f t6)
noncomputable def sgc_s_6 : SegCx := kapSg SS_s_6
set_option maxHeartbeats 4000000 in
theorem s_6_k : SS_s_6 sgc_s_6 := by
  intro p x rest B k T c1 c2 o sz t1 t2 D n ys xs d sr nu t3 t4 t5 nr f t6 hc1 hc2 hT hBL hi hl hb hDT hDp hD1 hD2 ho hz hd hs hn hf hk
  have e1 : caseScope = caseScope := rfl
  conv at e1 => rhs; whnf
  have e2 : caseSt 6 = caseSt 6 := rfl
  conv at e2 => rhs; whnf
  (try dsimp only at e1)
  (try dsimp only at e2)
  refine @segL_lit _ _ _ _ _ _ _ _ e1 e2 ?_
  clear e1 e2
  unfold SegL
  intro h tk HW HF HN hret
  have HX := HW.X
  have HT := HW.T
  have HB := HW.B
  have hdp := HW.d
  have hun := HW.u
  refine frLet HF ?_
  intro mk HF9
  clear HF
  refine ledLet (by with_reducible assumption) ?_
  intro nk HN9
  k_steps
  all_goals (first
    | (refine' hret _ _ _ _ ⟨true, _, _, _, _, _, _, _, rfl, rfl, ?kd, ?io, ?pen⟩ ?bas ?led
       case bas => k_asm
       case io => assumption
       case pen => exact pen_up (by assumption) (by omega)
       case kd => exact .inl ⟨rfl, rfl, rfl, rfl⟩
       case led => k_extra "Z0")
    | (refine' hret _ _ _ _ ⟨false, _, _, _, _, _, _, _, rfl, rfl, ?kd, ?io, ?pen⟩ ?bas ?led
       case bas => k_asm
       case io => assumption
       case pen => exact pen_up (by assumption) (by omega)
       case kd => exact .inr ⟨rfl, rfl, rfl, rfl⟩
       case led => k_extra "Z0"))
theorem s_6 {w : World} {mean : ExcName → Option Value} {mg mb : Str → Option Value} {L p x : Nat} {rest : Led} {B : Nat} {k : Int} {T : Led} {c1 c2 : Obj} {o : Str} {sz : Int} {t1 t2 : Tok} {D n : Nat} {ys : List Value} {xs : List Int} {d sr nu : Int} {t3 t4 t5 : Tok} {nr : Bool} {f : Int} {t6 : Tok} (hc1 : c1.data = .cell none) (hc2 : c2.data = .cell (some (.ref p))) (hT : PenT p x rest B k T) (hBL : B ≤ L) (hi : IntsAre ys xs) (hl : xs.length = 11) (hb : ∀ r ∈ xs, 0 ≤ r ∧ r < 2 ^ 64) (hDT : ∀ T' k', PenT p x rest B k' T' → ∀ q ∈ T', q.1 ≠ D) (hDp : D ≠ p ∧ D ≠ x) (hD1 : D ≠ L + 1 + 1) (hD2 : D ≠ L + 1) (ho : o ∈ ops) (hz : sz = 64 ∨ sz = 32) (hd : 0 ≤ d ∧ d < 11) (hs : 0 ≤ sr ∧ sr < 11) (hn : -2147483648 ≤ nu ∧ nu < 2147483648) (hf : 0 ≤ f ∧ f < 2) (hk : k ≤ 900) : Seg w mean mg mb 6 L (mset "far" (.int f t6) (mset "is_near" (.bool nr) (mset "dst" (.int d t3) (mset "src" (.int sr t4) (mset "number" (.int nu t5) (mset "held" (.ref D) (mset "op" (.str o t1) (mset "size" (.int sz t2) m0)))))))) ((D, listOf ys.toArray n) :: (L + 1 + 1, c1) :: (L + 1, c2) :: T) (R_6 L p x rest B k c1 c2 o sz t1 t2 D n ys d sr nu t3 t4 t5 nr f t6) :=
  seg_of fun z1 z2 z3 z4 z5 z6 z7 z8 z9 za zb => @sg_all SS_s_6 s_6_k (sgAt w mean mg mb L z1 z2 z3 z4 z5 z6 z7 z8 z9 za zb) p x rest B k T c1 c2 o sz t1 t2 D n ys xs d sr nu t3 t4 t5 nr f t6 hc1 hc2 hT hBL hi hl hb hDT hDp hD1 hD2 ho hz hd hs hn hf hk


example : True := by
  k_with "off H4_6" => skip
  trivial
end
section
set_option maxHeartbeats 1000000
section
variable {h₀ h : Heap} {L : Addr}
end
example : True := by
  k_with ".subscriptTail Name Name" => ((fail_if_success k_extra "off H4_7"); (k_here; (with_reducible show wpAny _ _ (subscriptTail _ _ (Value.ref _) (Value.int _ _)) _ _ _); k_dflt (refine' item_intsG ?NEk ?hmEk ?hIEk ?h0Ek ?hkEk ?hszEk (fun _ => ?_) ?hsEk; (case NEk => k_asm); (case hIEk => assumption); (case hmEk => (repeat (first | exact List.Mem.head _ | assumption | refine List.Mem.tail _ ?_))); (case h0Ek => first | assumption | omega); (case hkEk => first | assumption | omega); (case hszEk => omega); (case hsEk => with_unfolding_all rfl))))
  k_with "T:k_all" => ((fail_if_success k_extra "off H4_7"); exact apart_use (by assumption) (by assumption))
  k_with ".call ref" => (k_here; (with_reducible show wpAny _ _ (call (Value.ref 230) [_, _, _, _, _]) _ _ _); k_dflt (refine c_bregS_v _ _ _ _ _ _ rfl (zW := by assumption) (zD := by exact rfl) (zF := by k_asm) (zN := by k_asm) (ho := by assumption) (hz := by (first | assumption | omega)) (kk9 := ?_)); (intro x09Z x19Z x29Z h9Z tk9Z hf09Z nkZ F9Z N9Z; obtain ⟨_, _, _, _, _, _, _, _, _, _, _, _, _, _, _, _, _, _, hq9⟩ := hf09Z; subst hq9; (try dsimp only); (try k_fold)))
  k_with ".call ref" => (k_here; (with_reducible show wpAny _ _ (call (Value.ref _) []) _ _ _); k_dflt (refine c_told_v _ _ _ _ _ _ rfl (zW := by assumption) (zD := by exact rfl) (zF := by k_asm) (zN := by k_asm) (hm1 := by walk_at "Mem") (hm2 := by walk_at "Mem") (hd := by (first | assumption | exact isOrd_mk)) (kk9 := ?_)); walk_at "After")
  trivial
inductive R_7 (L : Nat) (T : Led) (c1 : Obj) (c2 : Obj) (o : Str) (sz : Int) (t1 : Tok) (t2 : Tok) (D : Nat) (n : Nat) (ys : List Value) (xs : List Int) (d : Int) (sr : Int) (nu : Int) (t3 : Tok) (t4 : Tok) (t5 : Tok) (nr : Bool) (f : Int) (t6 : Tok) (rg : Bool) (ox : Nat) (dx : Nat) (od : Obj) (m' : Str → Option Value) (ns' : Led) : Prop where
  | mk (ot : Int) (t7 : Tok) (q9 : m' = (mset "other" (.int ot t7) (mset "order" (.ref ox) (mset "far" (.int f t6) (mset "is_near" (.bool nr) (mset "dst" (.int d t3) (mset "src" (.int sr t4) (mset "number" (.int nu t5) (mset "held" (.ref D) (mset "op" (.str o t1) (mset "size" (.int sz t2) m0)))))))))) ∧ ns' = (ox, instObj 133 dx) :: (dx, od) :: (D, listOf ys.toArray n) :: (L + 1 + 1, c1) :: (L + 1, c2) :: T ∧ OtherO rg xs sr nu ot) : R_7 L T c1 c2 o sz t1 t2 D n ys xs d sr nu t3 t4 t5 nr f t6 rg ox dx od m' ns'
def SS_s_7 (kz : SegCx) : Prop := ∀ (p x : Nat) (rest : Led) (B : Nat) (k : Int) (T : Led) (c1 c2 : Obj) (o : Str) (sz : Int) (t1 t2 : Tok) (D n : Nat) (ys : List Value) (xs : List Int) (d sr nu : Int) (t3 t4 t5 : Tok) (nr : Bool) (f : Int) (t6 : Tok) (rg : Bool) (c so im : Int) (ox dx : Nat) (od : Obj) (hc1 : c1.data = .cell none) (hc2 : c2.data = .cell (some (.ref p))) (hT : PenT p x rest B k T) (hBL : B ≤ kz.x.L) (hi : IntsAre ys xs) (hl : xs.length = 11) (hb : ∀ r ∈ xs, 0 ≤ r ∧ r < 2 ^ 64) (hDT : ∀ T' k', PenT p x rest B k' T' → ∀ q ∈ T', q.1 ≠ D) (hDp : D ≠ p ∧ D ≠ x) (hD1 : D ≠ kz.x.L + 1 + 1) (hD2 : D ≠ kz.x.L + 1) (ho : o ∈ ops) (hz : sz = 64 ∨ sz = 32) (hd : 0 ≤ d ∧ d < 11) (hs : 0 ≤ sr ∧ sr < 11) (hn : -2147483648 ≤ nu ∧ nu < 2147483648) (hf : 0 ≤ f ∧ f < 2) (hK : KindO rg o sz sr nu c so im) (hO : IsOrd c d so f im 0 od), SegK kz 7 (mset "order" (.ref ox) (mset "far" (.int f t6) (mset "is_near" (.bool nr) (mset "dst" (.int d t3) (mset "src" (.int sr t4) (mset "number" (.int nu t5) (mset "held" (.ref D) (mset "op" (.str o t1) (mset "size" (.int sz t2) m0))))))))) ((ox, instObj 133 dx) :: (dx, od) :: (D, listOf ys.toArray n) :: (kz.x.L + 1 + 1, c1) :: (kz.x.L + 1, c2) :: T) (R_7 kz.x.L T c1 c2 o sz t1 t2 D n ys xs d sr nu t3 t4 t5 nr f t6 rg ox dx od)
noncomputable def sgc_s_7 : SegCx := kapSg SS_s_7
set_option maxHeartbeats 4000000 in
theorem s_7_k : SS_s_7 sgc_s_7 := by
  intro p x rest B k T c1 c2 o sz t1 t2 D n ys xs d sr nu t3 t4 t5 nr f t6 rg c so im ox dx od hc1 hc2 hT hBL hi hl hb hDT hDp hD1 hD2 ho hz hd hs hn hf hK hO
  have e1 : caseScope = caseScope := rfl
  conv at e1 => rhs; whnf
  have e2 : caseSt 7 = caseSt 7 := rfl
  conv at e2 => rhs; whnf
  (try dsimp only at e1)
  (try dsimp only at e2)
  refine @segL_lit _ _ _ _ _ _ _ _ e1 e2 ?_
  clear e1 e2
  unfold SegL
  intro h tk HW HF HN hret
  have HX := HW.X
  have HT := HW.T
  have HB := HW.B
  have hdp := HW.d
  have hun := HW.u
  rcases hK with ⟨rfl, rfl, rfl, rfl⟩ | ⟨rfl, rfl, rfl, rfl⟩
  all_goals (obtain ⟨_, _, _, _, _, _, _, _, _, _, _, _, _, _, _, _, _, _, hq9⟩ := hO; subst hq9)
  refine frLet HF ?_
  intro mk HF9
  clear HF
  refine ledLet (by with_reducible assumption) ?_
  intro nk HN9
  k_steps
  all_goals (first | (exfalso; exact tup_no (by assumption)) | (exfalso; omega) | (exfalso; exact absurd rfl (by assumption)) | skip)
  all_goals (first
    | (refine' hret _ _ _ _ ⟨_, _, rfl, rfl, ?kd⟩ ?bas ?led
       case bas => k_asm
       case kd => exact .inl ⟨rfl, rfl⟩
       case led => k_extra "Z0")
    | (refine' hret _ _ _ _ ⟨_, _, rfl, rfl, ?kd⟩ ?bas ?led
       case bas => k_asm
       case kd => exact .inr ⟨rfl, rfl⟩
       case led => k_extra "Z0"))
theorem s_7 {w : World} {mean : ExcName → Option Value} {mg mb : Str → Option Value} {L p x : Nat} {rest : Led} {B : Nat} {k : Int} {T : Led} {c1 c2 : Obj} {o : Str} {sz : Int} {t1 t2 : Tok} {D n : Nat} {ys : List Value} {xs : List Int} {d sr nu : Int} {t3 t4 t5 : Tok} {nr : Bool} {f : Int} {t6 : Tok} {rg : Bool} {c so im : Int} {ox dx : Nat} {od : Obj} (hc1 : c1.data = .cell none) (hc2 : c2.data = .cell (some (.ref p))) (hT : PenT p x rest B k T) (hBL : B ≤ L) (hi : IntsAre ys xs) (hl : xs.length = 11) (hb : ∀ r ∈ xs, 0 ≤ r ∧ r < 2 ^ 64) (hDT : ∀ T' k', PenT p x rest B k' T' → ∀ q ∈ T', q.1 ≠ D) (hDp : D ≠ p ∧ D ≠ x) (hD1 : D ≠ L + 1 + 1) (hD2 : D ≠ L + 1) (ho : o ∈ ops) (hz : sz = 64 ∨ sz = 32) (hd : 0 ≤ d ∧ d < 11) (hs : 0 ≤ sr ∧ sr < 11) (hn : -2147483648 ≤ nu ∧ nu < 2147483648) (hf : 0 ≤ f ∧ f < 2) (hK : KindO rg o sz sr nu c so im) (hO : IsOrd c d so f im 0 od) : Seg w mean mg mb 7 L (mset "order" (.ref ox) (mset "far" (.int f t6) (mset "is_near" (.bool nr) (mset "dst" (.int d t3) (mset "src" (.int sr t4) (mset "number" (.int nu t5) (mset "held" (.ref D) (mset "op" (.str o t1) (mset "size" (.int sz t2) m0))))))))) ((ox, instObj 133 dx) :: (dx, od) :: (D, listOf ys.toArray n) :: (L + 1 + 1, c1) :: (L + 1, c2) :: T) (R_7 L T c1 c2 o sz t1 t2 D n ys xs d sr nu t3 t4 t5 nr f t6 rg ox dx od) :=
  seg_of fun z1 z2 z3 z4 z5 z6 z7 z8 z9 za zb => @sg_all SS_s_7 s_7_k (sgAt w mean mg mb L z1 z2 z3 z4 z5 z6 z7 z8 z9 za zb) p x rest B k T c1 c2 o sz t1 t2 D n ys xs d sr nu t3 t4 t5 nr f t6 rg c so im ox dx od hc1 hc2 hT hBL hi hl hb hDT hDp hD1 hD2 ho hz hd hs hn hf hK hO


example : True := by
  k_with "off H4_7" => skip
  trivial
end
section
set_option maxHeartbeats 1000000
example : True := by
  k_with ".call ref" => (k_here; (with_reducible show wpAny _ _ (call (Value.ref 375) _) _ _ _); k_dflt (refine c_maker_v _ _ _ _ _ _ rfl (zW := by assumption) (zD := by exact rfl) (zF := by k_asm) (zN := by k_asm) (kk9 := ?_)); walk_at "After")
  trivial
inductive R_8 (L : Nat) (T : Led) (c1 : Obj) (c2 : Obj) (o : Str) (sz : Int) (t1 : Tok) (t2 : Tok) (D : Nat) (n : Nat) (ys : List Value) (d : Int) (sr : Int) (nu : Int) (t3 : Tok) (t4 : Tok) (t5 : Tok) (nr : Bool) (f : Int) (t6 : Tok) (ox : Nat) (dx : Nat) (od : Obj) (ot : Int) (t7 : Tok) (m' : Str → Option Value) (ns' : Led) : Prop where
  | mk (mx md rl rn : Nat) (k1 k2 : Int) (q1 q2 q3 : Tok) (q9 : m' = (mset "maker" (.ref mx) (mset "other" (.int ot t7) (mset "order" (.ref ox) (mset "far" (.int f t6) (mset "is_near" (.bool nr) (mset "dst" (.int d t3) (mset "src" (.int sr t4) (mset "number" (.int nu t5) (mset "held" (.ref D) (mset "op" (.str o t1) (mset "size" (.int sz t2) m0))))))))))) ∧ ns' = (mx, instObj 375 md) :: (md, dictOf [⟨k1, .str (Str.ofString "rows") q1, .ref rl⟩, ⟨k2, .str (Str.ofString "next_label") q2, .int 0 q3⟩] 2) :: (rl, listOf #[] rn) :: (ox, instObj 133 dx) :: (dx, od) :: (D, listOf ys.toArray n) :: (L + 1 + 1, c1) :: (L + 1, c2) :: T ∧ mx ≠ rl ∧ md ≠ rl ∧ AllLt rl ((ox, instObj 133 dx) :: (dx, od) :: (D, listOf ys.toArray n) :: (L + 1 + 1, c1) :: (L + 1, c2) :: T)) : R_8 L T c1 c2 o sz t1 t2 D n ys d sr nu t3 t4 t5 nr f t6 ox dx od ot t7 m' ns'
def SS_s_8 (kz : SegCx) : Prop := ∀ (p x : Nat) (rest : Led) (B : Nat) (k : Int) (T : Led) (c1 c2 : Obj) (o : Str) (sz : Int) (t1 t2 : Tok) (D n : Nat) (ys : List Value) (xs : List Int) (d sr nu : Int) (t3 t4 t5 : Tok) (nr : Bool) (f : Int) (t6 : Tok) (rg : Bool) (c so im : Int) (ox dx : Nat) (od : Obj) (ot : Int) (t7 : Tok) (hc1 : c1.data = .cell none) (hc2 : c2.data = .cell (some (.ref p))) (hT : PenT p x rest B k T) (hBL : B ≤ kz.x.L) (hi : IntsAre ys xs) (hl : xs.length = 11) (hb : ∀ r ∈ xs, 0 ≤ r ∧ r < 2 ^ 64) (hDT : ∀ T' k', PenT p x rest B k' T' → ∀ q ∈ T', q.1 ≠ D) (hDp : D ≠ p ∧ D ≠ x) (hD1 : D ≠ kz.x.L + 1 + 1) (hD2 : D ≠ kz.x.L + 1), SegK kz 8 (mset "other" (.int ot t7) (mset "order" (.ref ox) (mset "far" (.int f t6) (mset "is_near" (.bool nr) (mset "dst" (.int d t3) (mset "src" (.int sr t4) (mset "number" (.int nu t5) (mset "held" (.ref D) (mset "op" (.str o t1) (mset "size" (.int sz t2) m0)))))))))) ((ox, instObj 133 dx) :: (dx, od) :: (D, listOf ys.toArray n) :: (kz.x.L + 1 + 1, c1) :: (kz.x.L + 1, c2) :: T) (R_8 kz.x.L T c1 c2 o sz t1 t2 D n ys d sr nu t3 t4 t5 nr f t6 ox dx od ot t7)
noncomputable def sgc_s_8 : SegCx := kapSg SS_s_8
set_option maxHeartbeats 4000000 in
theorem s_8_k : SS_s_8 sgc_s_8 := by
  intro p x rest B k T c1 c2 o sz t1 t2 D n ys xs d sr nu t3 t4 t5 nr f t6 rg c so im ox dx od ot t7 hc1 hc2 hT hBL hi hl hb hDT hDp hD1 hD2
  have e1 : caseScope = caseScope := rfl
  conv at e1 => rhs; whnf
  have e2 : caseSt 8 = caseSt 8 := rfl
  conv at e2 => rhs; whnf
  (try dsimp only at e1)
  (try dsimp only at e2)
  refine @segL_lit _ _ _ _ _ _ _ _ e1 e2 ?_
  clear e1 e2
  unfold SegL
  intro h tk HW HF HN hret
  have HX := HW.X
  have HT := HW.T
  have HB := HW.B
  have hdp := HW.d
  have hun := HW.u
  refine frLet HF ?_
  intro mk HF9
  clear HF
  refine ledLet (by with_reducible assumption) ?_
  intro nk HN9
  k_steps
  all_goals (refine' hret _ _ _ _ ⟨_, _, _, _, _, _, _, _, _, rfl, rfl, ?n1, ?n2, ?al⟩ ?bas ?led
             case bas => k_asm
             case n1 => assumption
             case n2 => assumption
             case al => (first | walk_at "AllLt" | (assumption))
             case led => k_extra "Z0")
theorem s_8 {w : World} {mean : ExcName → Option Value} {mg mb : Str → Option Value} {L p x : Nat} {rest : Led} {B : Nat} {k : Int} {T : Led} {c1 c2 : Obj} {o : Str} {sz : Int} {t1 t2 : Tok} {D n : Nat} {ys : List Value} {xs : List Int} {d sr nu : Int} {t3 t4 t5 : Tok} {nr : Bool} {f : Int} {t6 : Tok} {rg : Bool} {c so im : Int} {ox dx : Nat} {od : Obj} {ot : Int} {t7 : Tok} (hc1 : c1.data = .cell none) (hc2 : c2.data = .cell (some (.ref p))) (hT : PenT p x rest B k T) (hBL : B ≤ L) (hi : IntsAre ys xs) (hl : xs.length = 11) (hb : ∀ r ∈ xs, 0 ≤ r ∧ r < 2 ^ 64) (hDT : ∀ T' k', PenT p x rest B k' T' → ∀ q ∈ T', q.1 ≠ D) (hDp : D ≠ p ∧ D ≠ x) (hD1 : D ≠ L + 1 + 1) (hD2 : D ≠ L + 1) : Seg w mean mg mb 8 L (mset "other" (.int ot t7) (mset "order" (.ref ox) (mset "far" (.int f t6) (mset "is_near" (.bool nr) (mset "dst" (.int d t3) (mset "src" (.int sr t4) (mset "number" (.int nu t5) (mset "held" (.ref D) (mset "op" (.str o t1) (mset "size" (.int sz t2) m0)))))))))) ((ox, instObj 133 dx) :: (dx, od) :: (D, listOf ys.toArray n) :: (L + 1 + 1, c1) :: (L + 1, c2) :: T) (R_8 L T c1 c2 o sz t1 t2 D n ys d sr nu t3 t4 t5 nr f t6 ox dx od ot t7) :=
  seg_of fun z1 z2 z3 z4 z5 z6 z7 z8 z9 za zb => @sg_all SS_s_8 s_8_k (sgAt w mean mg mb L z1 z2 z3 z4 z5 z6 z7 z8 z9 za zb) p x rest B k T c1 c2 o sz t1 t2 D n ys xs d sr nu t3 t4 t5 nr f t6 rg c so im ox dx od ot t7 hc1 hc2 hT hBL hi hl hb hDT hDp hD1 hD2
end
section
set_option maxHeartbeats 1000000
example : True := by
  k_with "nolet" => fail_if_success k_extra "off H5_9"
  trivial
local macro_rules | `(tactic| k_lt $h) => `(tactic| (replace $h := allLt_of $h; (try simp only [AllLt, and_true] at $h:ident); (repeat (have h9 := And.left $h; replace $h := And.right $h))))
section
variable {h₀ h : Heap} {L : Addr}
end
example : True := by
  k_with "T:ktr_room" => ((fail_if_success k_extra "off H5_9"); ((try simp only [depth_under_make, depth_under_kw, depth_in1, depth_deeper, depth_caller]); (try dsimp only [ktrTop]); (try simp only [recursionLimit]); omega))
  k_with "T:ktr_units" => ((fail_if_success k_extra "off H5_9"); ((try simp only [units_under_make, units_in1, units_deeper, Around.mark_units, units_caller]); (try dsimp only [ktrTop]); (have hcL9 := cLine_is); omega))
  k_with "T:k_all" => ((fail_if_success k_extra "off H5_9"); first | assumption | exact allNe_of (by assumption))
  k_with "T:cell_enter" => ((fail_if_success k_extra "off H5_9"); first | (refine' code_def ?k1Es ?k2Es ?k3Es ?k4Es ?k5Es ?kAEs ?kFEs ?kKEs ?k6Es ?k7Es ?k8Es ?k9Es ?kBEs ?_ ?c2Es ?c3Es ?c4Es ?c5Es; (case kAEs => exact rfl); (case kFEs => exact rfl); (case kKEs => assumption); (case k1Es => k_asm); (case k2Es => k_asm); (case k3Es => k_asm); (case k4Es => k_asm); (case k5Es => k_asm); (case k6Es => k_is); (case k7Es => k_is); (case k8Es => ktr_room); (case k9Es => first | exact BindsTo.of_eq rfl | exact binds_K (by k_in) rfl (by k_is) rfl rfl rfl); (case c5Es => decide); (case kBEs => exact locs rfl); (case c2Es => exact rfl); (case c3Es => exact rfl); (case c4Es => exact rfl); k_whole; intro g'Z L'Z h'Z FG'Z F'Z N'Z B'Z X'Z T'Z; (try dsimp only); (try k_fold)) | (refine' code_defC ?k1Es ?k2Es ?k3Es ?k4Es ?k5Es ?kAEs ?kFEs ?kKEs ?k6Es ?k7Es ?k8Es ?k9Es ?kBEs ?kDEs ?_ ?c2Es ?c3Es ?c4Es; (case kAEs => exact rfl); (case kFEs => exact rfl); (case kKEs => assumption); (case k1Es => k_asm); (case k2Es => k_asm); (case k3Es => k_asm); (case k4Es => k_asm); (case k5Es => k_asm); (case k6Es => k_is); (case k7Es => k_is); (case k8Es => ktr_room); (case k9Es => first | exact BindsTo.of_eq rfl | exact binds_K (by k_in) rfl (by k_is) rfl rfl rfl); (case kBEs => exact rfl); (case kDEs => decide +kernel); (case c2Es => exact rfl); (case c3Es => exact rfl); (case c4Es => exact rfl); k_whole; intro g'Z L'Z h'Z tk'Z cells'Z FG'Z F'Z N'Z Y'Z B'Z X'Z T'Z l1Z; (try k_lt l1Z); k_cells Y'Z; (try simp only [List.cons_append, List.nil_append] at N'Z); (try dsimp only); (try k_fold)))
  k_with ".newTuple" => ((fail_if_success k_extra "off H5_9"); (k_here; k_dflt (refine' kup_newTuple ?FEt ?NEt ?_ ?zEt; (case FEt => k_asm); (case NEt => k_asm); (case zEt => kmk_size)); intro D'Z h'Z F'Z N'Z l1Z; (try k_lt l1Z); (try k_sweep)))
  k_with ".UnrEnd" => ((fail_if_success k_extra "off H5_9"); (k_here; k_dflt (first | (refine' unrEnd_pre [] ?FEu ?NEu ?ofEu ?_; (case FEu => k_asm); (case NEu => k_asm); (case ofEu => (simp only [List.nil_append, List.cons_append]; k_all))) | (refine' unrEnd_pre [_] ?FEu ?NEu ?ofEu ?_; (case FEu => k_asm); (case NEu => k_asm); (case ofEu => (simp only [List.nil_append, List.cons_append]; k_all))) | (refine' unrEnd_pre [_, _] ?FEu ?NEu ?ofEu ?_; (case FEu => k_asm); (case NEu => k_asm); (case ofEu => (simp only [List.nil_append, List.cons_append]; k_all))) | (refine' unrEnd_pre [_, _, _] ?FEu ?NEu ?ofEu ?_; (case FEu => k_asm); (case NEu => k_asm); (case ofEu => (simp only [List.nil_append, List.cons_append]; k_all))) | (refine' unrEnd_pre [_, _, _, _] ?FEu ?NEu ?ofEu ?_; (case FEu => k_asm); (case NEu => k_asm); (case ofEu => (simp only [List.nil_append, List.cons_append]; k_all))) | (refine' unrEnd_pre [_, _, _, _, _] ?FEu ?NEu ?ofEu ?_; (case FEu => k_asm); (case NEu => k_asm); (case ofEu => (simp only [List.nil_append, List.cons_append]; k_all))) | (refine' unrEnd_pre [_, _, _, _, _, _] ?FEu ?NEu ?ofEu ?_; (case FEu => k_asm); (case NEu => k_asm); (case ofEu => (simp only [List.nil_append, List.cons_append]; k_all)))); (try simp only [List.nil_append, List.cons_append])))
  k_with ".call ref" => (k_here; (with_reducible show wpAny _ _ (call (Value.ref 222) [_]) _ _ _); k_dflt (refine' ct_use (c_neg0 ) ?kBEv ?kFEv ?kXEv ?kNEv ?kTEv ?kkEv trivial ?kdEv ?kuEv ?_; (case kBEv => k_asm); (case kFEv => k_asm); (case kXEv => k_asm); (case kNEv => k_asm); (case kTEv => k_asm); (case kkEv => first | exact rfl | assumption);  (case kdEv => ktr_room); (case kuEv => ktr_units); (intro v9Z ns9Z h9Z tk9Z hR9Z F9Z N9Z; obtain ⟨x09, x19, x29, hv9, hn9, hf09⟩ := hR9Z; subst hv9 hn9;  (try dsimp only [List.nil_append, List.cons_append] at N9Z); (try dsimp only); (try k_fold))))
  k_with ".call ref" => (k_here; (with_reducible show wpAny _ _ (call (Value.ref 245) _) _ _ _); k_dflt (refine' ct_use (c_leave ) ?kBEw ?kFEw ?kXEw ?kNEw ?kTEw ?kkEw trivial ?kdEw ?kuEw ?_; (case kBEw => k_asm); (case kFEw => k_asm); (case kXEw => k_asm); (case kNEw => k_asm); (case kTEw => k_asm); (case kkEw => first | exact rfl | assumption);  (case kdEw => ktr_room); (case kuEw => ktr_units); (intro v9Z ns9Z h9Z tk9Z hR9Z F9Z N9Z; obtain ⟨x09, x19, x29, hv9, hn9, hf09⟩ := hR9Z; subst hv9 hn9;  (try dsimp only [List.nil_append, List.cons_append] at N9Z); (try dsimp only); (try k_fold))))
  k_with ".call ref" => (k_here; (with_reducible show wpAny _ _ (call (Value.ref 450) [_]) _ _ _); k_dflt (refine' ct_use (c_prog ?hm1Ex ?hm2Ex ?hd1Ex ?hm3Ex ?hm4Ex ?hd2Ex ?hm5Ex ?hm6Ex ?hd3Ex ?hm7Ex ?hc1Ex ?hc2Ex) ?kBEx ?kFEx ?kXEx ?kNEx ?kTEx ?kkEx trivial ?kdEx ?kuEx ?_; (case kBEx => k_asm); (case kFEx => k_asm); (case kXEx => k_asm); (case kNEx => k_asm); (case kTEx => k_asm); (case kkEx => first | exact rfl | assumption); (case hm7Ex => (repeat (first | exact List.Mem.head _ | assumption | refine List.Mem.tail _ ?_))); (case hm1Ex => (repeat (first | exact List.Mem.head _ | assumption | refine List.Mem.tail _ ?_))); (case hm2Ex => (repeat (first | exact List.Mem.head _ | assumption | refine List.Mem.tail _ ?_))); (case hd1Ex => (first | assumption | exact isOrd_mk)); (case hm3Ex => (repeat (first | exact List.Mem.head _ | assumption | refine List.Mem.tail _ ?_))); (case hm4Ex => (repeat (first | exact List.Mem.head _ | assumption | refine List.Mem.tail _ ?_))); (case hd2Ex => (first | assumption | exact isOrd_mk)); (case hm5Ex => (repeat (first | exact List.Mem.head _ | assumption | refine List.Mem.tail _ ?_))); (case hm6Ex => (repeat (first | exact List.Mem.head _ | assumption | refine List.Mem.tail _ ?_))); (case hd3Ex => (first | assumption | exact isOrd_mk));  (case hc1Ex => assumption); (case hc2Ex => assumption); (case kdEx => ktr_room); (case kuEx => ktr_units); (intro v9Z ns9Z h9Z tk9Z hR9Z F9Z N9Z; obtain ⟨x09, x19, hv9, hn9, hf09⟩ := hR9Z; subst hv9 hn9;  (try dsimp only [List.nil_append, List.cons_append] at N9Z); (try dsimp only); (try k_fold))))
  k_with ".call ref" => (k_here; (with_reducible show wpAny _ _ (call (Value.ref 393) [_, _, _]) _ _ _); k_dflt (refine' ct_use (c_layg ?hm1Ey ?hm2Ey ?hdEy ?hTEy ?hTmEy ?hoEy ?hkEy ?hiEy ?hc2Ey ?hc3Ey ?hd0Ey ?hd1Ey ?hfEy ?ha1Ey ?ha2Ey ?hapEy ?hwEy) ?kBEy ?kFEy ?kXEy ?kNEy ?kTEy ?kkEy trivial ?kdEy ?kuEy ?_; (case kBEy => k_asm); (case kFEy => k_asm); (case kXEy => k_asm); (case kNEy => exact news_lay [_, _, _, _, _] [_, _] (by k_asm)); (case kTEy => k_asm); (case kkEy => first | exact rfl | assumption); (case hm1Ey => exact List.mem_append_right _ (List.mem_append_right _ (List.mem_append_right _ (List.Mem.head _)))); (case hm2Ey => exact List.mem_append_right _ (List.mem_append_right _ (List.mem_append_right _ (List.Mem.tail _ (List.Mem.head _))))); (case hdEy => (first | assumption | exact isOrd_mk)); (case hTEy => assumption); (case hTmEy => exact fun q hq => List.mem_append_right _ (List.mem_append_left _ hq)); (case hoEy => assumption); (case hkEy => assumption); (case hiEy => assumption); (case hc2Ey => assumption); (case hc3Ey => assumption); (case hd0Ey => omega); (case hd1Ey => omega); (case hfEy => (first | assumption | omega)); (case ha1Ey => omega); (case ha2Ey => omega); (case hapEy => exact hap_lay (by assumption) (news_lay [_, _, _, _, _] [_, _] (by k_asm)) (by assumption) (by assumption) (by assumption) (by assumption)); (case hwEy => assumption); (case kdEy => ktr_room); (case kuEy => ktr_units); (intro v9Z ns9Z h9Z tk9Z hR9Z F9Z N9Z; obtain ⟨x09, x19, x29, x39, x49, x59, x69, x79, x89, x99, x109, hv9, hn9, hf09, hf19⟩ := hR9Z; subst hv9 hn9;  (try dsimp only [List.nil_append, List.cons_append] at N9Z); (try dsimp only); (try k_fold))))
  trivial
theorem kind_lay {rg : Bool} {o : Str} {sz sr nu c so im : Int} {d : Int} (ho : o ∈ ops) (hz : sz = 64 ∨ sz = 32) (hs : 0 ≤ sr ∧ sr < 11) (h : KindO rg o sz sr nu c so im) : ∃ nm th, LayW c so im o nm th ∧ SizeOk sz c ∧ c.fdiv (2 ^ Int.toNat 4) = spot o ∧ (c == 24) = false ∧ (c == 133) = false ∧ (c == 6) = false ∧ ∀ a1 a2 a3 : Tok, RowO rg o sz d sr nu nm #[.int sz a1, .int (hostR d) a2, .int th a3] := by
  rcases h with ⟨rfl, rfl, rfl, rfl⟩ | ⟨rfl, rfl, rfl, rfl⟩
  · obtain ⟨q1, q2, q3, q4, q5, q6⟩ := codeOk_reg ho hz
    exact ⟨_, _, .reg q2 hs.1 hs.2 rfl rfl, q1, q3, q4, q5, q6, fun a1 a2 a3 => ⟨a1, a2, a3, .inl ⟨rfl, rfl, rfl⟩⟩⟩
  · obtain ⟨q1, q2, q3, q4, q5, q6⟩ := codeOk_imm ho hz
    exact ⟨_, _, .imm q2 rfl rfl, q1, q3, q4, q5, q6, fun a1 a2 a3 => ⟨a1, a2, a3, .inr ⟨rfl, rfl, rfl⟩⟩⟩
inductive R_9 (L : Nat) (T : Led) (c1 : Obj) (c2 : Obj) (o : Str) (sz : Int) (t1 : Tok) (t2 : Tok) (D : Nat) (n : Nat) (ys : List Value) (d : Int) (sr : Int) (nu : Int) (t3 : Tok) (t4 : Tok) (t5 : Tok) (nr : Bool) (f : Int) (t6 : Tok) (rg : Bool) (ox : Nat) (ot : Int) (t7 : Tok) (mx : Nat) (md : Nat) (rl : Nat) (k1 : Int) (k2 : Int) (q1 : Tok) (q2 : Tok) (q3 : Tok) (m' : Str → Option Value) (ns' : Led) : Prop where
  | mk (r0 r1 rn : Nat) (T0 T1 : Led) (nm : Str) (vs : Array Value) (b1 b2 b3 : Tok) (q9 : m' = (mset "maker" (.ref mx) (mset "other" (.int ot t7) (mset "order" (.ref ox) (mset "far" (.int f t6) (mset "is_near" (.bool nr) (mset "dst" (.int d t3) (mset "src" (.int sr t4) (mset "number" (.int nu t5) (mset "held" (.ref D) (mset "op" (.str o t1) (mset "size" (.int sz t2) m0))))))))))) ∧ ns' = (mx, instObj 375 md) :: (md, dictOf [⟨k1, .str (Str.ofString "rows") q1, .ref rl⟩, ⟨k2, .str (Str.ofString "next_label") q2, .int 0 q3⟩] 2) :: (rl, listOf #[.ref r0, .ref r1] rn) :: (T1 ++ (T0 ++ ((D, listOf ys.toArray n) :: (L + 1 + 1, c1) :: (L + 1, c2) :: T))) ∧ RowO rg o sz d sr nu nm vs ∧ IsRw nm vs r0 T0 ∧ IsRw (Str.ofString "jcc") #[.str (condT o) b1, .str (Str.ofString "order") b2, .int (1 + f) b3] r1 T1) : R_9 L T c1 c2 o sz t1 t2 D n ys d sr nu t3 t4 t5 nr f t6 rg ox ot t7 mx md rl k1 k2 q1 q2 q3 m' ns'
def SS_s_9 (kz : SegCx) : Prop := ∀ (p x : Nat) (rest : Led) (B : Nat) (k : Int) (T : Led) (c1 c2 : Obj) (o : Str) (sz : Int) (t1 t2 : Tok) (D n : Nat) (ys : List Value) (xs : List Int) (d sr nu : Int) (t3 t4 t5 : Tok) (nr : Bool) (f : Int) (t6 : Tok) (rg : Bool) (c so im : Int) (ox dx : Nat) (od : Obj) (ot : Int) (t7 : Tok) (mx md rl rn : Nat) (k1 k2 : Int) (q1 q2 q3 : Tok) (hc1 : c1.data = .cell none) (hc2 : c2.data = .cell (some (.ref p))) (hT : PenT p x rest B k T) (hBL : B ≤ kz.x.L) (hi : IntsAre ys xs) (hl : xs.length = 11) (hb : ∀ r ∈ xs, 0 ≤ r ∧ r < 2 ^ 64) (hDT : ∀ T' k', PenT p x rest B k' T' → ∀ q ∈ T', q.1 ≠ D) (hDp : D ≠ p ∧ D ≠ x) (hD1 : D ≠ kz.x.L + 1 + 1) (hD2 : D ≠ kz.x.L + 1) (ho : o ∈ ops) (hz : sz = 64 ∨ sz = 32) (hd : 0 ≤ d ∧ d < 11) (hs : 0 ≤ sr ∧ sr < 11) (hn : -2147483648 ≤ nu ∧ nu < 2147483648) (hf : 0 ≤ f ∧ f < 2) (hK : KindO rg o sz sr nu c so im) (hO : IsOrd c d so f im 0 od) (hm1 : mx ≠ rl) (hm2 : md ≠ rl) (hal : AllLt rl ((ox, instObj 133 dx) :: (dx, od) :: (D, listOf ys.toArray n) :: (kz.x.L + 1 + 1, c1) :: (kz.x.L + 1, c2) :: T)), SegK kz 9 (mset "maker" (.ref mx) (mset "other" (.int ot t7) (mset "order" (.ref ox) (mset "far" (.int f t6) (mset "is_near" (.bool nr) (mset "dst" (.int d t3) (mset "src" (.int sr t4) (mset "number" (.int nu t5) (mset "held" (.ref D) (mset "op" (.str o t1) (mset "size" (.int sz t2) m0))))))))))) ((mx, instObj 375 md) :: (md, dictOf [⟨k1, .str (Str.ofString "rows") q1, .ref rl⟩, ⟨k2, .str (Str.ofString "next_label") q2, .int 0 q3⟩] 2) :: (rl, listOf #[] rn) :: (ox, instObj 133 dx) :: (dx, od) :: (D, listOf ys.toArray n) :: (kz.x.L + 1 + 1, c1) :: (kz.x.L + 1, c2) :: T) (R_9 kz.x.L T c1 c2 o sz t1 t2 D n ys d sr nu t3 t4 t5 nr f t6 rg ox ot t7 mx md rl k1 k2 q1 q2 q3)
noncomputable def sgc_s_9 : SegCx := kapSg SS_s_9
set_option maxHeartbeats 4000000 in
theorem s_9_k : SS_s_9 sgc_s_9 := by
  intro p x rest B k T c1 c2 o sz t1 t2 D n ys xs d sr nu t3 t4 t5 nr f t6 rg c so im ox dx od ot t7 mx md rl rn k1 k2 q1 q2 q3 hc1 hc2 hT hBL hi hl hb hDT hDp hD1 hD2 ho hz hd hs hn hf hK hO hm1 hm2 hal
  have e1 : caseScope = caseScope := rfl
  conv at e1 => rhs; whnf
  have e2 : caseSt 9 = caseSt 9 := rfl
  conv at e2 => rhs; whnf
  (try dsimp only at e1)
  (try dsimp only at e2)
  refine @segL_lit _ _ _ _ _ _ _ _ e1 e2 ?_
  clear e1 e2
  unfold SegL
  intro h tk HW HF HN hret
  have HX := HW.X
  have HT := HW.T
  have HB := HW.B
  have hdp := HW.d
  have hun := HW.u
  obtain ⟨nm9, th9, hw9, hs9, hi9, hc7, hc9, hc8, hro⟩ := kind_lay (d := d) ho hz hs hK
  refine frLet HF ?_
  intro mk HF9
  clear HF
  refine ledLet (by with_reducible assumption) ?_
  intro nk HN9
  k_steps
  all_goals (refine' hret _ _ _ _ ⟨_, _, _, _, _, _, _, _, _, _, rfl, rfl, ?ro, ?i0, ?i1⟩ ?bas ?led
             case bas => k_asm
             case led => exact drop_last (by k_asm)
             case i0 => assumption
             case i1 => assumption
             case ro => exact hro _ _ _)
theorem s_9 {w : World} {mean : ExcName → Option Value} {mg mb : Str → Option Value} {L p x : Nat} {rest : Led} {B : Nat} {k : Int} {T : Led} {c1 c2 : Obj} {o : Str} {sz : Int} {t1 t2 : Tok} {D n : Nat} {ys : List Value} {xs : List Int} {d sr nu : Int} {t3 t4 t5 : Tok} {nr : Bool} {f : Int} {t6 : Tok} {rg : Bool} {c so im : Int} {ox dx : Nat} {od : Obj} {ot : Int} {t7 : Tok} {mx md rl rn : Nat} {k1 k2 : Int} {q1 q2 q3 : Tok} (hc1 : c1.data = .cell none) (hc2 : c2.data = .cell (some (.ref p))) (hT : PenT p x rest B k T) (hBL : B ≤ L) (hi : IntsAre ys xs) (hl : xs.length = 11) (hb : ∀ r ∈ xs, 0 ≤ r ∧ r < 2 ^ 64) (hDT : ∀ T' k', PenT p x rest B k' T' → ∀ q ∈ T', q.1 ≠ D) (hDp : D ≠ p ∧ D ≠ x) (hD1 : D ≠ L + 1 + 1) (hD2 : D ≠ L + 1) (ho : o ∈ ops) (hz : sz = 64 ∨ sz = 32) (hd : 0 ≤ d ∧ d < 11) (hs : 0 ≤ sr ∧ sr < 11) (hn : -2147483648 ≤ nu ∧ nu < 2147483648) (hf : 0 ≤ f ∧ f < 2) (hK : KindO rg o sz sr nu c so im) (hO : IsOrd c d so f im 0 od) (hm1 : mx ≠ rl) (hm2 : md ≠ rl) (hal : AllLt rl ((ox, instObj 133 dx) :: (dx, od) :: (D, listOf ys.toArray n) :: (L + 1 + 1, c1) :: (L + 1, c2) :: T)) : Seg w mean mg mb 9 L (mset "maker" (.ref mx) (mset "other" (.int ot t7) (mset "order" (.ref ox) (mset "far" (.int f t6) (mset "is_near" (.bool nr) (mset "dst" (.int d t3) (mset "src" (.int sr t4) (mset "number" (.int nu t5) (mset "held" (.ref D) (mset "op" (.str o t1) (mset "size" (.int sz t2) m0))))))))))) ((mx, instObj 375 md) :: (md, dictOf [⟨k1, .str (Str.ofString "rows") q1, .ref rl⟩, ⟨k2, .str (Str.ofString "next_label") q2, .int 0 q3⟩] 2) :: (rl, listOf #[] rn) :: (ox, instObj 133 dx) :: (dx, od) :: (D, listOf ys.toArray n) :: (L + 1 + 1, c1) :: (L + 1, c2) :: T) (R_9 L T c1 c2 o sz t1 t2 D n ys d sr nu t3 t4 t5 nr f t6 rg ox ot t7 mx md rl k1 k2 q1 q2 q3) :=
  seg_of fun z1 z2 z3 z4 z5 z6 z7 z8 z9 za zb => @sg_all SS_s_9 s_9_k (sgAt w mean mg mb L z1 z2 z3 z4 z5 z6 z7 z8 z9 za zb) p x rest B k T c1 c2 o sz t1 t2 D n ys xs d sr nu t3 t4 t5 nr f t6 rg c so im ox dx od ot t7 mx md rl rn k1 k2 q1 q2 q3 hc1 hc2 hT hBL hi hl hb hDT hDp hD1 hD2 ho hz hd hs hn hf hK hO hm1 hm2 hal


example : True := by
  k_with "off H5_9" => skip
  trivial
end
section
set_option maxHeartbeats 1000000
example : True := by
  k_with "nolean" => fail_if_success k_extra "off H6r"
  trivial
inductive RT_c_row (news : Led) (nm : Str) (pp : Nat) (v : Value) (ns : Led) : Prop where
  | mk (rx rd : Nat) (k1 k2 : Int) (t1 t2 t3 : Tok) (q9 : v = .ref rx ∧ ns = (rx, instObj 269 rd) :: (rd, dictOf [⟨k1, .str (Str.ofString "name") t1, .str nm t3⟩, ⟨k2, .str (Str.ofString "parts") t2, .ref pp⟩] 2) :: news) : RT_c_row news nm pp v ns
theorem c_row_i {news : Led} {nm : Str} {pp : Nat} {h₀ : Heap} {L : Addr} {m : Str → Option Value} {s : Shared} {Q : Value → Shared → Prop}
   (kk9 : ∀ v news' h' tk', (RT_c_row news nm pp) v news' → Fr h₀ L h' m → News h₀ L h' news' → Q v { s with heap := h', toks := tk' }) :
   ∀ (rx rd : Nat) (k1 k2 : Int) (t1 t2 t3 : Tok) (h' : Heap) (tk' : Nat), Fr h₀ L h' m → News h₀ L h' ((rx, instObj 269 rd) :: (rd, dictOf [⟨k1, .str (Str.ofString "name") t1, .str nm t3⟩, ⟨k2, .str (Str.ofString "parts") t2, .ref pp⟩] 2) :: news) → Q (.ref rx) { s with heap := h', toks := tk' } := by
  intro rx rd k1 k2 t1 t2 t3 h' tk'  F N
  exact kk9 _ _ _ _ ⟨rx, rd, k1, k2, t1, t2, t3, rfl, rfl⟩ F N
theorem c_row {w : World} {mean : ExcName → Option Value} {mg mb : Str → Option Value} {news : Led} {nm : Str} {pp : Nat} {t : Tok}  :
   Ct w mean mg mb 12 269 (news) True [.str nm t, .ref pp] (RT_c_row news nm pp) := by
  unfold Ct
  k_fill
  intro dp un gd cn cs fa ccd cl outer A₀ base h₀ L m s Q E HB HF HX HN HT hkind hp hdp hun hret
  replace hret := c_row_i hret
  k_steps
  all_goals (refine' hret _ _ _ _ _ _ _ _ _ ?bas ?led
             case bas => k_asm
             case led => k_extra "Z0")
theorem c_row_v (kx : Cx) (cn8 : Str) (cs8 : Scope) (a8 : Addr) (ccd8 : Value) (cl8 : List (Str × Addr)) (zk : cs8.kind = .function) {D8 : Nat} (zW : Wf kx D8) (zD : Nat.ble 12 D8 = true) {news : Led} {nm : Str} {pp : Nat} {t : Tok} {m8 : Str → Option Value} {h9 : Heap} {tk9 : Nat} {Q8 E8 : Value → Shared → Prop} (zF : Fr kx.h₀ kx.L h9 m8) (zN : News kx.h₀ kx.L h9 ((news))) 
   (kk9 : ∀ (rx rd : Nat) (k1 k2 : Int) (t1 t2 t3 : Tok) (h' : Heap) (tk' : Nat), let n' : Led := ((rx, instObj 269 rd) :: (rd, dictOf [⟨k1, .str (Str.ofString "name") t1, .str nm t3⟩, ⟨k2, .str (Str.ofString "parts") t2, .ref pp⟩] 2) :: news); Fr kx.h₀ kx.L h' m8 → News kx.h₀ kx.L h' n' → Q8 (.ref rx) (kSt kx h' tk')) : wpAny (kMd kx) (kAr kx (envX cn8 cs8 kx.L a8 ccd8 cl8)) (call (.ref 269) [.str nm t, .ref pp]) Q8 E8 (kSt kx h9 tk9) := by
  refine cv_use kx cn8 cs8 a8 ccd8 cl8 zk zW zD (c_row) zF zN ?_
  rintro v news' h' tk' ⟨rx, rd, k1, k2, t1, t2, t3, rfl, rfl⟩ F N
  exact kk9 rx rd k1 k2 t1 t2 t3 _ _ F N
example : True := by
  k_with "off H6r" => skip
  trivial
end
section
set_option maxHeartbeats 1000000
example : True := by
  k_with ".call ref" => (k_here; (with_reducible show wpAny _ _ (call (Value.ref 269) [_, _]) _ _ _); k_dflt (refine c_row_v _ _ _ _ _ _ rfl (zW := by assumption) (zD := by exact rfl) (zF := by k_asm) (zN := by k_asm) (kk9 := ?_)); walk_at "After")
  trivial
inductive R_10 (L : Nat) (T : Led) (c1 : Obj) (c2 : Obj) (o : Str) (sz : Int) (t1 : Tok) (t2 : Tok) (D : Nat) (n : Nat) (ys : List Value) (d : Int) (sr : Int) (nu : Int) (t3 : Tok) (t4 : Tok) (t5 : Tok) (nr : Bool) (f : Int) (t6 : Tok) (ox : Nat) (ot : Int) (t7 : Tok) (mx : Nat) (md : Nat) (rl : Nat) (rn : Nat) (k1 : Int) (k2 : Int) (q1 : Tok) (q2 : Tok) (q3 : Tok) (r0 : Nat) (r1 : Nat) (nm : Str) (vs : Array Value) (m' : Str → Option Value) (ns' : Led) : Prop where
  | mk (bl bn r2 r3 r4 r5 r6 r7 : Nat) (RL : Led) (q9 : m' = (mset "behind" (.ref bl) (mset "maker" (.ref mx) (mset "other" (.int ot t7) (mset "order" (.ref ox) (mset "far" (.int f t6) (mset "is_near" (.bool nr) (mset "dst" (.int d t3) (mset "src" (.int sr t4) (mset "number" (.int nu t5) (mset "held" (.ref D) (mset "op" (.str o t1) (mset "size" (.int sz t2) m0)))))))))))) ∧ ns' = (bl, listOf #[.ref r2, .ref r3, .ref r4, .ref r5, .ref r6, .ref r7] bn) :: (mx, instObj 375 md) :: (md, dictOf [⟨k1, .str (Str.ofString "rows") q1, .ref rl⟩, ⟨k2, .str (Str.ofString "next_label") q2, .int 0 q3⟩] 2) :: (rl, listOf #[.ref r0, .ref r1] rn) :: (D, listOf ys.toArray n) :: (L + 1 + 1, c1) :: (L + 1, c2) :: (RL ++ T) ∧ Rows2 nm vs o (1 + f) r0 r1 RL ∧ Rows6 r2 r3 r4 r5 r6 r7 RL ∧ ∀ q ∈ RL ++ T, q.1 ≠ L + 1 + 1) : R_10 L T c1 c2 o sz t1 t2 D n ys d sr nu t3 t4 t5 nr f t6 ox ot t7 mx md rl rn k1 k2 q1 q2 q3 r0 r1 nm vs m' ns'
def SS_s_10 (kz : SegCx) : Prop := ∀ (p x : Nat) (rest : Led) (B : Nat) (k : Int) (T : Led) (c1 c2 : Obj) (o : Str) (sz : Int) (t1 t2 : Tok) (D n : Nat) (ys : List Value) (xs : List Int) (d sr nu : Int) (t3 t4 t5 : Tok) (nr : Bool) (f : Int) (t6 : Tok) (ox : Nat) (ot : Int) (t7 : Tok) (mx md rl rn : Nat) (k1 k2 : Int) (q1 q2 q3 : Tok) (r0 r1 : Nat) (T0 T1 : Led) (nm : Str) (vs : Array Value) (b1 b2 b3 : Tok) (h0 : IsRw nm vs r0 T0) (h1 : IsRw (Str.ofString "jcc") #[.str (condT o) b1, .str (Str.ofString "order") b2, .int (1 + f) b3] r1 T1) (hc1 : c1.data = .cell none) (hTc : ∀ q ∈ T, q.1 ≠ kz.x.L + 1 + 1), SegK kz 10 (mset "maker" (.ref mx) (mset "other" (.int ot t7) (mset "order" (.ref ox) (mset "far" (.int f t6) (mset "is_near" (.bool nr) (mset "dst" (.int d t3) (mset "src" (.int sr t4) (mset "number" (.int nu t5) (mset "held" (.ref D) (mset "op" (.str o t1) (mset "size" (.int sz t2) m0))))))))))) ((mx, instObj 375 md) :: (md, dictOf [⟨k1, .str (Str.ofString "rows") q1, .ref rl⟩, ⟨k2, .str (Str.ofString "next_label") q2, .int 0 q3⟩] 2) :: (rl, listOf #[.ref r0, .ref r1] rn) :: (T1 ++ (T0 ++ ((D, listOf ys.toArray n) :: (kz.x.L + 1 + 1, c1) :: (kz.x.L + 1, c2) :: T)))) (R_10 kz.x.L T c1 c2 o sz t1 t2 D n ys d sr nu t3 t4 t5 nr f t6 ox ot t7 mx md rl rn k1 k2 q1 q2 q3 r0 r1 nm vs)
noncomputable def sgc_s_10 : SegCx := kapSg SS_s_10
set_option maxHeartbeats 4000000 in
theorem s_10_k : SS_s_10 sgc_s_10 := by
  intro p x rest B k T c1 c2 o sz t1 t2 D n ys xs d sr nu t3 t4 t5 nr f t6 ox ot t7 mx md rl rn k1 k2 q1 q2 q3 r0 r1 T0 T1 nm vs b1 b2 b3 h0 h1 hc1 hTc
  have e1 : caseScope = caseScope := rfl
  conv at e1 => rhs; whnf
  have e2 : caseSt 10 = caseSt 10 := rfl
  conv at e2 => rhs; whnf
  (try dsimp only at e1)
  (try dsimp only at e2)
  refine @segL_lit _ _ _ _ _ _ _ _ e1 e2 ?_
  clear e1 e2
  unfold SegL
  intro h tk HW HF HN hret
  have HX := HW.X
  have HT := HW.T
  have HB := HW.B
  have hdp := HW.d
  have hun := HW.u
  refine frLet HF ?_
  intro mk HF9
  clear HF
  refine ledLet (by with_reducible assumption) ?_
  intro nk HN9
  k_steps
  all_goals (refine' hret _ _ _ _ ⟨_, _, _, _, _, _, _, _, _, rfl, rfl, ?r2, ?r6, ?nc⟩ ?bas ?led
             case bas => k_asm
             case led => exact news_beh [_, _, _, _, _, _, _, _, _, _, _, _, _, _, _, _, _, _] (by k_asm)
             case r2 => exact rows2_up _ (by assumption) (by assumption)
             case r6 => exact ⟨_, _, _, _, _, _, _, _, _, _, _, _, _, _, isRw_mk, by (refine List.forall_mem_cons.mpr ⟨?_, List.forall_mem_cons.mpr ⟨?_, List.forall_mem_cons.mpr ⟨?_, List.forall_mem_nil _⟩⟩⟩ <;> exact List.mem_append_left _ (by (repeat (first | exact List.Mem.head _ | refine List.Mem.tail _ ?_)))), isRw_mk, by (refine List.forall_mem_cons.mpr ⟨?_, List.forall_mem_cons.mpr ⟨?_, List.forall_mem_cons.mpr ⟨?_, List.forall_mem_nil _⟩⟩⟩ <;> exact List.mem_append_left _ (by (repeat (first | exact List.Mem.head _ | refine List.Mem.tail _ ?_)))), isRw_mk, by (refine List.forall_mem_cons.mpr ⟨?_, List.forall_mem_cons.mpr ⟨?_, List.forall_mem_cons.mpr ⟨?_, List.forall_mem_nil _⟩⟩⟩ <;> exact List.mem_append_left _ (by (repeat (first | exact List.Mem.head _ | refine List.Mem.tail _ ?_)))), isRw_mk, by (refine List.forall_mem_cons.mpr ⟨?_, List.forall_mem_cons.mpr ⟨?_, List.forall_mem_cons.mpr ⟨?_, List.forall_mem_nil _⟩⟩⟩ <;> exact List.mem_append_left _ (by (repeat (first | exact List.Mem.head _ | refine List.Mem.tail _ ?_)))), isRw_mk, by (refine List.forall_mem_cons.mpr ⟨?_, List.forall_mem_cons.mpr ⟨?_, List.forall_mem_cons.mpr ⟨?_, List.forall_mem_nil _⟩⟩⟩ <;> exact List.mem_append_left _ (by (repeat (first | exact List.Mem.head _ | refine List.Mem.tail _ ?_)))), isRw_mk, by (refine List.forall_mem_cons.mpr ⟨?_, List.forall_mem_cons.mpr ⟨?_, List.forall_mem_cons.mpr ⟨?_, List.forall_mem_nil _⟩⟩⟩ <;> exact List.mem_append_left _ (by (repeat (first | exact List.Mem.head _ | refine List.Mem.tail _ ?_))))⟩
             case nc => exact rl_ne (news_beh [_, _, _, _, _, _, _, _, _, _, _, _, _, _, _, _, _, _] (by k_asm)) (by intro q hq v e; simp only [List.mem_cons, List.not_mem_nil, or_false] at hq; rcases hq with rfl | rfl | rfl | rfl | rfl | rfl | rfl | rfl | rfl | rfl | rfl | rfl | rfl | rfl | rfl | rfl | rfl | rfl <;> cases e) (by assumption) (by assumption) (by assumption) (by assumption))
theorem s_10 {w : World} {mean : ExcName → Option Value} {mg mb : Str → Option Value} {L p x : Nat} {rest : Led} {B : Nat} {k : Int} {T : Led} {c1 c2 : Obj} {o : Str} {sz : Int} {t1 t2 : Tok} {D n : Nat} {ys : List Value} {xs : List Int} {d sr nu : Int} {t3 t4 t5 : Tok} {nr : Bool} {f : Int} {t6 : Tok} {ox : Nat} {ot : Int} {t7 : Tok} {mx md rl rn : Nat} {k1 k2 : Int} {q1 q2 q3 : Tok} {r0 r1 : Nat} {T0 T1 : Led} {nm : Str} {vs : Array Value} {b1 b2 b3 : Tok} (h0 : IsRw nm vs r0 T0) (h1 : IsRw (Str.ofString "jcc") #[.str (condT o) b1, .str (Str.ofString "order") b2, .int (1 + f) b3] r1 T1) (hc1 : c1.data = .cell none) (hTc : ∀ q ∈ T, q.1 ≠ L + 1 + 1) : Seg w mean mg mb 10 L (mset "maker" (.ref mx) (mset "other" (.int ot t7) (mset "order" (.ref ox) (mset "far" (.int f t6) (mset "is_near" (.bool nr) (mset "dst" (.int d t3) (mset "src" (.int sr t4) (mset "number" (.int nu t5) (mset "held" (.ref D) (mset "op" (.str o t1) (mset "size" (.int sz t2) m0))))))))))) ((mx, instObj 375 md) :: (md, dictOf [⟨k1, .str (Str.ofString "rows") q1, .ref rl⟩, ⟨k2, .str (Str.ofString "next_label") q2, .int 0 q3⟩] 2) :: (rl, listOf #[.ref r0, .ref r1] rn) :: (T1 ++ (T0 ++ ((D, listOf ys.toArray n) :: (L + 1 + 1, c1) :: (L + 1, c2) :: T)))) (R_10 L T c1 c2 o sz t1 t2 D n ys d sr nu t3 t4 t5 nr f t6 ox ot t7 mx md rl rn k1 k2 q1 q2 q3 r0 r1 nm vs) :=
  seg_of fun z1 z2 z3 z4 z5 z6 z7 z8 z9 za zb => @sg_all SS_s_10 s_10_k (sgAt w mean mg mb L z1 z2 z3 z4 z5 z6 z7 z8 z9 za zb) p x rest B k T c1 c2 o sz t1 t2 D n ys xs d sr nu t3 t4 t5 nr f t6 ox ot t7 mx md rl rn k1 k2 q1 q2 q3 r0 r1 T0 T1 nm vs b1 b2 b3 h0 h1 hc1 hTc
end
section
set_option maxHeartbeats 1000000
example : True := by
  k_with ".call type:tuple" => ((fail_if_success k_extra "off H7_11"); (k_here; (with_reducible show wpAny _ _ (call (Value.type _) [Value.ref _]) _ _ _); k_dflt (refine' call_tuple_tup (IsTup_news ?NEA ?hmEA) ?_; (case NEA => k_asm); (case hmEA => k_mem))))
  k_with ".CompEnd" => ((fail_if_success k_extra "off H7_11"); (k_here; k_dflt (first | (refine' compEnd_d [_] ?FEB ?NEB ?offEB ?SEB ?_; (case FEB => k_asm); (case NEB => k_asm); (case offEB => (first | assumption | (simp only [LCg.Off3, and_true]; first | assumption | (refine And.intro ⟨by k_ne, by k_ne, by k_ne⟩ ?_; assumption)))); (case SEB => (exact Or.inr ⟨_, by k_mem, rfl, _, rfl⟩))) | (refine' compEnd_k [_] ?FEB ?NEB ?offEB ?SEB ?_; (case FEB => k_asm); (case NEB => k_asm); (case offEB => (first | assumption | (simp only [LCg.Off3, and_true]; first | assumption | (refine And.intro ⟨by k_ne, by k_ne, by k_ne⟩ ?_; assumption)))); (case SEB => (exact Or.inr ⟨_, by k_mem, rfl, _, rfl⟩))) | (refine' compEnd_d [] ?FEB ?NEB ?offEB ?SEB ?_; (case FEB => k_asm); (case NEB => k_asm); (case offEB => (first | assumption | (simp only [LCg.Off3, and_true]; first | assumption | (refine And.intro ⟨by k_ne, by k_ne, by k_ne⟩ ?_; assumption)))); (case SEB => (exact Or.inr ⟨_, by k_mem, rfl, _, rfl⟩))) | (refine' compEnd_k [] ?FEB ?NEB ?offEB ?SEB ?_; (case FEB => k_asm); (case NEB => k_asm); (case offEB => (first | assumption | (simp only [LCg.Off3, and_true]; first | assumption | (refine And.intro ⟨by k_ne, by k_ne, by k_ne⟩ ?_; assumption)))); (case SEB => (exact Or.inr ⟨_, by k_mem, rfl, _, rfl⟩))))))
  k_with ".compareOp Eq ref ref" => ((fail_if_success k_extra "off H7_11"); (k_here; (with_reducible show wpAny _ _ (compareOp CmpOp.Eq (Value.ref _) (Value.ref _)) _ _ _); k_dflt ((refine eq_dataH (by ke_read) (by ke_read) (by ke_shaped) (by ke_shaped) (by ke_room) ?_); ke_norm)))
  k_with ".compareOp NotEq ref ref" => ((fail_if_success k_extra "off H7_11"); (k_here; (with_reducible show wpAny _ _ (compareOp CmpOp.NotEq (Value.ref _) (Value.ref _)) _ _ _); k_dflt ((refine ne_dataH (by ke_read) (by ke_read) (by ke_shaped) (by ke_shaped) (by ke_room) ?_); ke_norm)))
  k_with ".call ref" => (k_here; (with_reducible show wpAny _ _ (call (Value.ref 316) [_]) _ _ _); k_dflt (refine c_goalj_v _ _ _ _ _ _ rfl (zW := by assumption) (zD := by exact rfl) (zF := by k_asm) (zN := by k_asm) (hr := by assumption) (hT := by (refine List.forall_mem_cons.mpr ⟨by k_mem, List.forall_mem_cons.mpr ⟨by k_mem, List.forall_mem_cons.mpr ⟨by k_mem, List.forall_mem_nil _⟩⟩⟩)) (kk9 := ?_)); (intro x09Z h9Z tk9Z hf09Z nkZ F9Z N9Z; (try simp only [AllLt, and_true] at hf09Z); (repeat (have h9Z := And.left hf09Z; replace hf09Z := And.right hf09Z)); (try dsimp only); (try k_fold)))
  trivial
def SS_s_11 (kz : SegCx) : Prop := ∀ (p x : Nat) (rest : Led) (B : Nat) (k : Int) (T : Led) (c1 c2 : Obj) (o : Str) (sz : Int) (t1 t2 : Tok) (D n : Nat) (ys : List Value) (xs : List Int) (d sr nu : Int) (t3 t4 t5 : Tok) (nr : Bool) (f : Int) (t6 : Tok) (ox : Nat) (ot : Int) (t7 : Tok) (mx md rl rn : Nat) (k1 k2 : Int) (q1 q2 q3 : Tok) (r0 r1 r2 r3 r4 r5 r6 r7 bl bn : Nat) (RL : Led) (nm : Str) (vs : Array Value) (hR2 : Rows2 nm vs o (1 + f) r0 r1 RL) (hf : 0 ≤ f ∧ f < 2) (hnj : (nm == Str.ofString "jcc") = false) (hn1 : (nm == Str.ofString "jmp") = false) (hn3 : (nm == Str.ofString "call") = false), SegK kz 11 (mset "behind" (.ref bl) (mset "maker" (.ref mx) (mset "other" (.int ot t7) (mset "order" (.ref ox) (mset "far" (.int f t6) (mset "is_near" (.bool nr) (mset "dst" (.int d t3) (mset "src" (.int sr t4) (mset "number" (.int nu t5) (mset "held" (.ref D) (mset "op" (.str o t1) (mset "size" (.int sz t2) m0)))))))))))) ((bl, listOf #[.ref r2, .ref r3, .ref r4, .ref r5, .ref r6, .ref r7] bn) :: (mx, instObj 375 md) :: (md, dictOf [⟨k1, .str (Str.ofString "rows") q1, .ref rl⟩, ⟨k2, .str (Str.ofString "next_label") q2, .int 0 q3⟩] 2) :: (rl, listOf #[.ref r0, .ref r1] rn) :: (D, listOf ys.toArray n) :: (kz.x.L + 1 + 1, c1) :: (kz.x.L + 1, c2) :: (RL ++ T)) (fun m' ns' => m' = (mset "behind" (.ref bl) (mset "maker" (.ref mx) (mset "other" (.int ot t7) (mset "order" (.ref ox) (mset "far" (.int f t6) (mset "is_near" (.bool nr) (mset "dst" (.int d t3) (mset "src" (.int sr t4) (mset "number" (.int nu t5) (mset "held" (.ref D) (mset "op" (.str o t1) (mset "size" (.int sz t2) m0)))))))))))) ∧ ns' = (bl, listOf #[.ref r2, .ref r3, .ref r4, .ref r5, .ref r6, .ref r7] bn) :: (mx, instObj 375 md) :: (md, dictOf [⟨k1, .str (Str.ofString "rows") q1, .ref rl⟩, ⟨k2, .str (Str.ofString "next_label") q2, .int 0 q3⟩] 2) :: (rl, listOf #[.ref r0, .ref r1] rn) :: (D, listOf ys.toArray n) :: (kz.x.L + 1 + 1, c1) :: (kz.x.L + 1, c2) :: (RL ++ T))
noncomputable def sgc_s_11 : SegCx := kapSg SS_s_11
set_option maxHeartbeats 4000000 in
theorem s_11_k : SS_s_11 sgc_s_11 := by
  intro p x rest B k T c1 c2 o sz t1 t2 D n ys xs d sr nu t3 t4 t5 nr f t6 ox ot t7 mx md rl rn k1 k2 q1 q2 q3 r0 r1 r2 r3 r4 r5 r6 r7 bl bn RL nm vs hR2 hf hnj hn1 hn3
  have e1 : caseScope = caseScope := rfl
  conv at e1 => rhs; whnf
  have e2 : caseSt 11 = caseSt 11 := rfl
  conv at e2 => rhs; whnf
  (try dsimp only at e1)
  (try dsimp only at e2)
  refine @segL_lit _ _ _ _ _ _ _ _ e1 e2 ?_
  clear e1 e2
  unfold SegL
  intro h tk HW HF HN hret
  have HX := HW.X
  have HT := HW.T
  have HB := HW.B
  have hdp := HW.d
  have hun := HW.u
  obtain ⟨T0, T1, b1, b2, b3, hr0, hs0, hr1, hs1⟩ := hR2
  have hr1' := hr1
  obtain ⟨rd0, rp0, ka0, kb0, ta0, tb0, tc0, rfl⟩ := hr0
  obtain ⟨rd1, rp1, ka1, kb1, ta1, tb1, tc1, rfl⟩ := hr1
  have g1 := hs0 _ (.head _)
  have g2 := hs0 _ (.tail _ (.head _))
  have g3 := hs0 _ (.tail _ (.tail _ (.head _)))
  have g4 := hs1 _ (.head _)
  have g5 := hs1 _ (.tail _ (.head _))
  have g6 := hs1 _ (.tail _ (.tail _ (.head _)))
  have HN1 := (news_add (List.Mem.tail _ (List.Mem.tail _ (List.Mem.tail _ (List.Mem.tail _ (List.Mem.tail _ (List.Mem.tail _ (List.Mem.tail _ (List.mem_append_left _ g1)))))))) (news_add (List.Mem.tail _ (List.Mem.tail _ (List.Mem.tail _ (List.Mem.tail _ (List.Mem.tail _ (List.Mem.tail _ (List.Mem.tail _ (List.mem_append_left _ g2)))))))) (news_add (List.Mem.tail _ (List.Mem.tail _ (List.Mem.tail _ (List.Mem.tail _ (List.Mem.tail _ (List.Mem.tail _ (List.Mem.tail _ (List.mem_append_left _ g3)))))))) (news_add (List.Mem.tail _ (List.Mem.tail _ (List.Mem.tail _ (List.Mem.tail _ (List.Mem.tail _ (List.Mem.tail _ (List.Mem.tail _ (List.mem_append_left _ g4)))))))) (news_add (List.Mem.tail _ (List.Mem.tail _ (List.Mem.tail _ (List.Mem.tail _ (List.Mem.tail _ (List.Mem.tail _ (List.Mem.tail _ (List.mem_append_left _ g5)))))))) (news_add (List.Mem.tail _ (List.Mem.tail _ (List.Mem.tail _ (List.Mem.tail _ (List.Mem.tail _ (List.Mem.tail _ (List.Mem.tail _ (List.mem_append_left _ g6)))))))) HN HN) HN) HN) HN) HN) HN)
  clear HN
  refine frLet HF ?_
  intro mk HF9
  clear HF
  refine ledLet (by with_reducible assumption) ?_
  intro nk HN9
  k_steps
  all_goals (refine' hret _ _ _ _ ⟨rfl, rfl⟩ ?bas ?led
             case bas => k_asm
             case led => k_extra "Z0")
theorem s_11 {w : World} {mean : ExcName → Option Value} {mg mb : Str → Option Value} {L p x : Nat} {rest : Led} {B : Nat} {k : Int} {T : Led} {c1 c2 : Obj} {o : Str} {sz : Int} {t1 t2 : Tok} {D n : Nat} {ys : List Value} {xs : List Int} {d sr nu : Int} {t3 t4 t5 : Tok} {nr : Bool} {f : Int} {t6 : Tok} {ox : Nat} {ot : Int} {t7 : Tok} {mx md rl rn : Nat} {k1 k2 : Int} {q1 q2 q3 : Tok} {r0 r1 r2 r3 r4 r5 r6 r7 bl bn : Nat} {RL : Led} {nm : Str} {vs : Array Value} (hR2 : Rows2 nm vs o (1 + f) r0 r1 RL) (hf : 0 ≤ f ∧ f < 2) (hnj : (nm == Str.ofString "jcc") = false) (hn1 : (nm == Str.ofString "jmp") = false) (hn3 : (nm == Str.ofString "call") = false) : Seg w mean mg mb 11 L (mset "behind" (.ref bl) (mset "maker" (.ref mx) (mset "other" (.int ot t7) (mset "order" (.ref ox) (mset "far" (.int f t6) (mset "is_near" (.bool nr) (mset "dst" (.int d t3) (mset "src" (.int sr t4) (mset "number" (.int nu t5) (mset "held" (.ref D) (mset "op" (.str o t1) (mset "size" (.int sz t2) m0)))))))))))) ((bl, listOf #[.ref r2, .ref r3, .ref r4, .ref r5, .ref r6, .ref r7] bn) :: (mx, instObj 375 md) :: (md, dictOf [⟨k1, .str (Str.ofString "rows") q1, .ref rl⟩, ⟨k2, .str (Str.ofString "next_label") q2, .int 0 q3⟩] 2) :: (rl, listOf #[.ref r0, .ref r1] rn) :: (D, listOf ys.toArray n) :: (L + 1 + 1, c1) :: (L + 1, c2) :: (RL ++ T)) (fun m' ns' => m' = (mset "behind" (.ref bl) (mset "maker" (.ref mx) (mset "other" (.int ot t7) (mset "order" (.ref ox) (mset "far" (.int f t6) (mset "is_near" (.bool nr) (mset "dst" (.int d t3) (mset "src" (.int sr t4) (mset "number" (.int nu t5) (mset "held" (.ref D) (mset "op" (.str o t1) (mset "size" (.int sz t2) m0)))))))))))) ∧ ns' = (bl, listOf #[.ref r2, .ref r3, .ref r4, .ref r5, .ref r6, .ref r7] bn) :: (mx, instObj 375 md) :: (md, dictOf [⟨k1, .str (Str.ofString "rows") q1, .ref rl⟩, ⟨k2, .str (Str.ofString "next_label") q2, .int 0 q3⟩] 2) :: (rl, listOf #[.ref r0, .ref r1] rn) :: (D, listOf ys.toArray n) :: (L + 1 + 1, c1) :: (L + 1, c2) :: (RL ++ T)) :=
  seg_of fun z1 z2 z3 z4 z5 z6 z7 z8 z9 za zb => @sg_all SS_s_11 s_11_k (sgAt w mean mg mb L z1 z2 z3 z4 z5 z6 z7 z8 z9 za zb) p x rest B k T c1 c2 o sz t1 t2 D n ys xs d sr nu t3 t4 t5 nr f t6 ox ot t7 mx md rl rn k1 k2 q1 q2 q3 r0 r1 r2 r3 r4 r5 r6 r7 bl bn RL nm vs hR2 hf hnj hn1 hn3


example : True := by
  k_with "off H7_11" => skip
  trivial
end
section
set_option maxHeartbeats 1000000
example : True := by
  k_with "nolean" => fail_if_success k_extra "off H9_12"
  trivial
example : True := by
  k_with ".call ref" => (k_here; (with_reducible show wpAny _ _ (call (Value.ref 718) [_, _]) _ _ _); k_dflt (refine' ct_use (c_plainW ?hlEF ?hR2EF ?hR6EF ?hRLEF ?hROEF ?hoEF ?hzEF ?hdEF ?hsEF ?hnuEF ?hnEF) ?kBEF ?kFEF ?kXEF ?kNEF ?kTEF ?kkEF trivial ?kdEF ?kuEF ?_; (case kBEF => k_asm); (case kFEF => k_asm); (case kXEF => k_asm); (case kNEF => k_asm); (case kTEF => k_asm); (case kkEF => first | exact rfl | assumption); (case hlEF => (repeat (first | exact List.Mem.head _ | assumption | refine List.Mem.tail _ ?_))); (case hR2EF => assumption); (case hR6EF => assumption); (case hRLEF => (repeat (first | exact subR | refine subT ?_))); (case hROEF => assumption); (case hoEF => assumption); (case hzEF => assumption); (case hdEF => assumption); (case hsEF => assumption); (case hnuEF => assumption); (case hnEF => omega); (case kdEF => ktr_room); (case kuEF => ktr_units); (intro v9Z ns9Z h9Z tk9Z hR9Z F9Z N9Z; obtain ⟨x09, x19, x29, x39, x49, x59, x69, x79, x89, x99, x109, x119, x129, x139, x149, x159, x169, hv9, hn9, hfM9, hfI9, hfk29, hfk39, hfo9, hfA9⟩ := hR9Z; subst hv9 hn9; (try dsimp only [List.nil_append, List.cons_append] at N9Z); replace N9Z := news_pl N9Z; have hA09 := hfA9.1; have hA59 := hfA9.2.2.2.2.2.1; have hA69 := hfA9.2.2.2.2.2.2.1; have hA89 := hfA9.2.2.2.2.2.2.2.2; clear hfA9; dsimp only at hA09 hA59 hA69 hA89; (try dsimp only [List.nil_append, List.cons_append] at N9Z); (try dsimp only); (try k_fold))))
  trivial
inductive R_12 (w : World) (mean : ExcName → Option Value) (mg : Str → Option Value) (mb : Str → Option Value) (L : Nat) (T : Led) (c2 : Obj) (o : Str) (sz : Int) (t1 : Tok) (t2 : Tok) (D : Nat) (n : Nat) (ys : List Value) (d : Int) (sr : Int) (nu : Int) (t3 : Tok) (t4 : Tok) (t5 : Tok) (nr : Bool) (f : Int) (t6 : Tok) (ox : Nat) (ot : Int) (t7 : Tok) (mx : Nat) (bl : Nat) (rg : Bool) (m' : Str → Option Value) (ns' : Led) : Prop where
  | mk (ax ay rr : Nat) (dm : Obj) (vr : List Value) (rn9 : Nat) (c9 : Obj) (PK : Led) (rw mk fl pl : Nat) (q9 : m' = (mset "behind" (.ref bl) (mset "maker" (.ref mx) (mset "other" (.int ot t7) (mset "order" (.ref ox) (mset "far" (.int f t6) (mset "is_near" (.bool nr) (mset "dst" (.int d t3) (mset "src" (.int sr t4) (mset "number" (.int nu t5) (mset "held" (.ref D) (mset "op" (.str o t1) (mset "size" (.int sz t2) m0)))))))))))) ∧ ns' = (ax, instObj 718 ay) :: (ay, dm) :: (rr, listOf vr.toArray rn9) :: (L + 1 + 1, c9) :: (L + 1, c2) :: (D, listOf ys.toArray n) :: (PK ++ T) ∧ c9.data = .cell (some (.ref ax)) ∧ IsMach rw mk rr fl pl 0 0 0 false dm ∧ IntsAre vr [5, 5, 5, 5, 1879048192, 5, 5, 5, 5, 5, 5, 5, 5, 5, 5, 5] ∧ RunC w mean mg mb ax ay rr dm rg o sz d sr nu (1 + f) rw mk pl PK ∧ (ay < ax ∧ ax < rr ∧ L + 1 + 1 < ay ∧ D < ay) ∧ (∀ q ∈ PK ++ T, q.1 ≠ ay) ∧ (∀ q ∈ PK ++ T, q.1 ≠ rr)) : R_12 w mean mg mb L T c2 o sz t1 t2 D n ys d sr nu t3 t4 t5 nr f t6 ox ot t7 mx bl rg m' ns'
def SS_s_12 (kz : SegCx) : Prop := ∀ (p x : Nat) (rest : Led) (B : Nat) (k : Int) (T : Led) (c1 c2 : Obj) (o : Str) (sz : Int) (t1 t2 : Tok) (D n : Nat) (ys : List Value) (xs : List Int) (d sr nu : Int) (t3 t4 t5 : Tok) (nr : Bool) (f : Int) (t6 : Tok) (ox : Nat) (ot : Int) (t7 : Tok) (mx md rl rn : Nat) (k1 k2 : Int) (q1 q2 q3 : Tok) (r0 r1 r2 r3 r4 r5 r6 r7 bl bn : Nat) (RL : Led) (nm : Str) (vs : Array Value) (rg : Bool) (hR2 : Rows2 nm vs o (1 + f) r0 r1 RL) (hR6 : Rows6 r2 r3 r4 r5 r6 r7 RL) (hRO : RowO rg o sz d sr nu nm vs) (ho : o ∈ ops) (hz : sz = 64 ∨ sz = 32) (hd : 0 ≤ d ∧ d < 11) (hs : 0 ≤ sr ∧ sr < 11) (hn : -2147483648 ≤ nu ∧ nu < 2147483648) (hf : 0 ≤ f ∧ f < 2) (hc1 : c1.data = .cell none) (hD1 : D ≠ kz.x.L + 1 + 1) (hRT : ∀ q ∈ RL ++ T, q.1 ≠ kz.x.L + 1 + 1), SegK kz 12 (mset "behind" (.ref bl) (mset "maker" (.ref mx) (mset "other" (.int ot t7) (mset "order" (.ref ox) (mset "far" (.int f t6) (mset "is_near" (.bool nr) (mset "dst" (.int d t3) (mset "src" (.int sr t4) (mset "number" (.int nu t5) (mset "held" (.ref D) (mset "op" (.str o t1) (mset "size" (.int sz t2) m0)))))))))))) ((bl, listOf #[.ref r2, .ref r3, .ref r4, .ref r5, .ref r6, .ref r7] bn) :: (mx, instObj 375 md) :: (md, dictOf [⟨k1, .str (Str.ofString "rows") q1, .ref rl⟩, ⟨k2, .str (Str.ofString "next_label") q2, .int 0 q3⟩] 2) :: (rl, listOf #[.ref r0, .ref r1] rn) :: (D, listOf ys.toArray n) :: (kz.x.L + 1 + 1, c1) :: (kz.x.L + 1, c2) :: (RL ++ T)) (R_12 kz.x.w kz.x.mean kz.x.mg kz.x.mb kz.x.L T c2 o sz t1 t2 D n ys d sr nu t3 t4 t5 nr f t6 ox ot t7 mx bl rg)
noncomputable def sgc_s_12 : SegCx := kapSg SS_s_12
set_option maxHeartbeats 4000000 in
theorem s_12_k : SS_s_12 sgc_s_12 := by
  intro p x rest B k T c1 c2 o sz t1 t2 D n ys xs d sr nu t3 t4 t5 nr f t6 ox ot t7 mx md rl rn k1 k2 q1 q2 q3 r0 r1 r2 r3 r4 r5 r6 r7 bl bn RL nm vs rg hR2 hR6 hRO ho hz hd hs hn hf hc1 hD1 hRT
  have e1 : caseScope = caseScope := rfl
  conv at e1 => rhs; whnf
  have e2 : caseSt 12 = caseSt 12 := rfl
  conv at e2 => rhs; whnf
  (try dsimp only at e1)
  (try dsimp only at e2)
  refine @segL_lit _ _ _ _ _ _ _ _ e1 e2 ?_
  clear e1 e2
  unfold SegL
  intro h tk HW HF HN hret
  have HX := HW.X
  have HT := HW.T
  have HB := HW.B
  have hdp := HW.d
  have hun := HW.u
  refine frLet HF ?_
  intro mk HF9
  clear HF
  refine ledLet (by with_reducible assumption) ?_
  intro nk HN9
  k_steps
  all_goals (refine' hret _ _ _ _ ⟨_, _, _, _, _, _, _, _, _, _, _, _, rfl, rfl, ?c, ?m, ?i, ?run, ?ord, ?na, ?nr⟩ ?bas ?led
             case bas => k_asm
             case led => exact news_fin (by k_asm)
             case c => first | assumption | rfl
             case m => assumption
             case i => assumption
             case run => exact mk_runC (by assumption) (by assumption) (by assumption) (by assumption) (by assumption) (by assumption) (by assumption) (by assumption) (by assumption) (by omega) (by assumption) (by assumption)
             case ord => omega
             case na => exact pk_ne (by k_ne) (by k_ne) (by k_ne) (by k_ne) (by k_ne) (allNe_of (by assumption))
             case nr => exact pk_ne (by k_ne) (by k_ne) (by k_ne) (by k_ne) (by k_ne) (allLt_le (by assumption) (by omega)))
theorem s_12 {w : World} {mean : ExcName → Option Value} {mg mb : Str → Option Value} {L p x : Nat} {rest : Led} {B : Nat} {k : Int} {T : Led} {c1 c2 : Obj} {o : Str} {sz : Int} {t1 t2 : Tok} {D n : Nat} {ys : List Value} {xs : List Int} {d sr nu : Int} {t3 t4 t5 : Tok} {nr : Bool} {f : Int} {t6 : Tok} {ox : Nat} {ot : Int} {t7 : Tok} {mx md rl rn : Nat} {k1 k2 : Int} {q1 q2 q3 : Tok} {r0 r1 r2 r3 r4 r5 r6 r7 bl bn : Nat} {RL : Led} {nm : Str} {vs : Array Value} {rg : Bool} (hR2 : Rows2 nm vs o (1 + f) r0 r1 RL) (hR6 : Rows6 r2 r3 r4 r5 r6 r7 RL) (hRO : RowO rg o sz d sr nu nm vs) (ho : o ∈ ops) (hz : sz = 64 ∨ sz = 32) (hd : 0 ≤ d ∧ d < 11) (hs : 0 ≤ sr ∧ sr < 11) (hn : -2147483648 ≤ nu ∧ nu < 2147483648) (hf : 0 ≤ f ∧ f < 2) (hc1 : c1.data = .cell none) (hD1 : D ≠ L + 1 + 1) (hRT : ∀ q ∈ RL ++ T, q.1 ≠ L + 1 + 1) : Seg w mean mg mb 12 L (mset "behind" (.ref bl) (mset "maker" (.ref mx) (mset "other" (.int ot t7) (mset "order" (.ref ox) (mset "far" (.int f t6) (mset "is_near" (.bool nr) (mset "dst" (.int d t3) (mset "src" (.int sr t4) (mset "number" (.int nu t5) (mset "held" (.ref D) (mset "op" (.str o t1) (mset "size" (.int sz t2) m0)))))))))))) ((bl, listOf #[.ref r2, .ref r3, .ref r4, .ref r5, .ref r6, .ref r7] bn) :: (mx, instObj 375 md) :: (md, dictOf [⟨k1, .str (Str.ofString "rows") q1, .ref rl⟩, ⟨k2, .str (Str.ofString "next_label") q2, .int 0 q3⟩] 2) :: (rl, listOf #[.ref r0, .ref r1] rn) :: (D, listOf ys.toArray n) :: (L + 1 + 1, c1) :: (L + 1, c2) :: (RL ++ T)) (R_12 w mean mg mb L T c2 o sz t1 t2 D n ys d sr nu t3 t4 t5 nr f t6 ox ot t7 mx bl rg) :=
  seg_of fun z1 z2 z3 z4 z5 z6 z7 z8 z9 za zb => @sg_all SS_s_12 s_12_k (sgAt w mean mg mb L z1 z2 z3 z4 z5 z6 z7 z8 z9 za zb) p x rest B k T c1 c2 o sz t1 t2 D n ys xs d sr nu t3 t4 t5 nr f t6 ox ot t7 mx md rl rn k1 k2 q1 q2 q3 r0 r1 r2 r3 r4 r5 r6 r7 bl bn RL nm vs rg hR2 hR6 hRO ho hz hd hs hn hf hc1 hD1 hRT


example : True := by
  k_with "off H9_12" => skip
  trivial
end
section
set_option maxHeartbeats 1000000
def SS_s_13 (kz : SegCx) : Prop := ∀ (p x : Nat) (rest : Led) (B : Nat) (k : Int) (T : Led) (c1 c2 : Obj) (o : Str) (sz : Int) (t1 t2 : Tok) (D n : Nat) (ys : List Value) (xs : List Int) (d sr nu : Int) (t3 t4 t5 : Tok) (nr : Bool) (f : Int) (t6 : Tok) (ox bl mx : Nat) (ot : Int) (t7 : Tok) (ax ay rr : Nat) (dm : Obj) (vr : List Value) (rn9 : Nat) (c9 : Obj) (PK : Led) (rw mk fl pl : Nat) (hM : IsMach rw mk rr fl pl 0 0 0 false dm) (hc9 : c9.data = .cell (some (.ref ax))), SegK kz 13 (mset "behind" (.ref bl) (mset "maker" (.ref mx) (mset "other" (.int ot t7) (mset "order" (.ref ox) (mset "far" (.int f t6) (mset "is_near" (.bool nr) (mset "dst" (.int d t3) (mset "src" (.int sr t4) (mset "number" (.int nu t5) (mset "held" (.ref D) (mset "op" (.str o t1) (mset "size" (.int sz t2) m0)))))))))))) ((ax, instObj 718 ay) :: (ay, dm) :: (rr, listOf vr.toArray rn9) :: (kz.x.L + 1 + 1, c9) :: (kz.x.L + 1, c2) :: (D, listOf ys.toArray n) :: (PK ++ T)) (fun m' ns' => m' = (mset "regs" (.ref rr) (mset "behind" (.ref bl) (mset "maker" (.ref mx) (mset "other" (.int ot t7) (mset "order" (.ref ox) (mset "far" (.int f t6) (mset "is_near" (.bool nr) (mset "dst" (.int d t3) (mset "src" (.int sr t4) (mset "number" (.int nu t5) (mset "held" (.ref D) (mset "op" (.str o t1) (mset "size" (.int sz t2) m0))))))))))))) ∧ ns' = (ax, instObj 718 ay) :: (ay, dm) :: (rr, listOf vr.toArray rn9) :: (kz.x.L + 1 + 1, c9) :: (kz.x.L + 1, c2) :: (D, listOf ys.toArray n) :: (PK ++ T))
noncomputable def sgc_s_13 : SegCx := kapSg SS_s_13
set_option maxHeartbeats 4000000 in
theorem s_13_k : SS_s_13 sgc_s_13 := by
  intro p x rest B k T c1 c2 o sz t1 t2 D n ys xs d sr nu t3 t4 t5 nr f t6 ox bl mx ot t7 ax ay rr dm vr rn9 c9 PK rw mk fl pl hM hc9
  have e1 : caseScope = caseScope := rfl
  conv at e1 => rhs; whnf
  have e2 : caseSt 13 = caseSt 13 := rfl
  conv at e2 => rhs; whnf
  (try dsimp only at e1)
  (try dsimp only at e2)
  refine @segL_lit _ _ _ _ _ _ _ _ e1 e2 ?_
  clear e1 e2
  unfold SegL
  intro h tk HW HF HN hret
  have HX := HW.X
  have HT := HW.T
  have HB := HW.B
  have hdp := HW.d
  have hun := HW.u
  obtain ⟨h1, h2, h3, h4, h5, h6, h7, h8, h9, t1, t2, t3, t4, t5, t6, t7, t8, t9, u6, u7, u8, rfl⟩ := hM
  refine frLet HF ?_
  intro mk HF9
  clear HF
  refine ledLet (by with_reducible assumption) ?_
  intro nk HN9
  k_steps
  all_goals (refine' hret _ _ _ _ ⟨rfl, rfl⟩ ?bas ?led
             case bas => k_asm
             case led => k_extra "Z0")
theorem s_13 {w : World} {mean : ExcName → Option Value} {mg mb : Str → Option Value} {L p x : Nat} {rest : Led} {B : Nat} {k : Int} {T : Led} {c1 c2 : Obj} {o : Str} {sz : Int} {t1 t2 : Tok} {D n : Nat} {ys : List Value} {xs : List Int} {d sr nu : Int} {t3 t4 t5 : Tok} {nr : Bool} {f : Int} {t6 : Tok} {ox bl mx : Nat} {ot : Int} {t7 : Tok} {ax ay rr : Nat} {dm : Obj} {vr : List Value} {rn9 : Nat} {c9 : Obj} {PK : Led} {rw mk fl pl : Nat} (hM : IsMach rw mk rr fl pl 0 0 0 false dm) (hc9 : c9.data = .cell (some (.ref ax))) : Seg w mean mg mb 13 L (mset "behind" (.ref bl) (mset "maker" (.ref mx) (mset "other" (.int ot t7) (mset "order" (.ref ox) (mset "far" (.int f t6) (mset "is_near" (.bool nr) (mset "dst" (.int d t3) (mset "src" (.int sr t4) (mset "number" (.int nu t5) (mset "held" (.ref D) (mset "op" (.str o t1) (mset "size" (.int sz t2) m0)))))))))))) ((ax, instObj 718 ay) :: (ay, dm) :: (rr, listOf vr.toArray rn9) :: (L + 1 + 1, c9) :: (L + 1, c2) :: (D, listOf ys.toArray n) :: (PK ++ T)) (fun m' ns' => m' = (mset "regs" (.ref rr) (mset "behind" (.ref bl) (mset "maker" (.ref mx) (mset "other" (.int ot t7) (mset "order" (.ref ox) (mset "far" (.int f t6) (mset "is_near" (.bool nr) (mset "dst" (.int d t3) (mset "src" (.int sr t4) (mset "number" (.int nu t5) (mset "held" (.ref D) (mset "op" (.str o t1) (mset "size" (.int sz t2) m0))))))))))))) ∧ ns' = (ax, instObj 718 ay) :: (ay, dm) :: (rr, listOf vr.toArray rn9) :: (L + 1 + 1, c9) :: (L + 1, c2) :: (D, listOf ys.toArray n) :: (PK ++ T)) :=
  seg_of fun z1 z2 z3 z4 z5 z6 z7 z8 z9 za zb => @sg_all SS_s_13 s_13_k (sgAt w mean mg mb L z1 z2 z3 z4 z5 z6 z7 z8 z9 za zb) p x rest B k T c1 c2 o sz t1 t2 D n ys xs d sr nu t3 t4 t5 nr f t6 ox bl mx ot t7 ax ay rr dm vr rn9 c9 PK rw mk fl pl hM hc9
end
section
set_option maxHeartbeats 1000000
section
variable {h₀ h : Heap} {L : Addr}
end
example : True := by
  k_with "nolean" => fail_if_success k_extra "off H10_14"
  k_with ".call ref" => (k_here; (with_reducible show wpAny _ _ (call (Value.ref 337) [_]) _ _ _); k_dflt (refine' ct_use (c_hostW ?h0EG ?h1EG) ?kBEG ?kFEG ?kXEG ?kNEG ?kTEG ?kkEG trivial ?kdEG ?kuEG ?_; (case kBEG => k_asm); (case kFEG => k_asm); (case kXEG => k_asm); (case kNEG => k_asm); (case kTEG => k_asm); (case kkEG => first | exact rfl | assumption); (case h0EG => (first | assumption | omega)); (case h1EG => (first | assumption | omega)); (case kdEG => ktr_room); (case kuEG => ktr_units); (intro v9Z ns9Z h9Z tk9Z hR9Z F9Z N9Z; obtain ⟨x09, hv9, hn9, hf09, hf19⟩ := hR9Z; subst hv9 hn9;  (try dsimp only [List.nil_append, List.cons_append] at N9Z); (try dsimp only); (try k_fold))))
  k_with ".subscriptTail Name Name" => ((fail_if_success k_extra "off H10_14"); (k_here; (with_reducible show wpAny _ _ (subscriptTail _ _ (Value.ref _) (Value.int _ _)) _ _ _); k_dflt (refine' item_intsG ?NEH ?hmEH ?hIEH ?h0EH ?hkEH ?hszEH (fun _ => ?_) ?hsEH; (case NEH => k_asm); (case hIEH => assumption); (case hmEH => (repeat (first | exact List.Mem.head _ | assumption | refine List.Mem.tail _ ?_))); (case h0EH => first | assumption | omega); (case hkEH => first | assumption | omega); (case hszEH => omega); (case hsEH => with_unfolding_all rfl))))
  k_with ".exec For Name Call cons nil" => ((fail_if_success k_extra "off H10_14"); (k_here; (refine wpAny_noRaise ?_); (rename Fr _ _ _ _ => lF'); (with_unfolding_all refine' For_invVF lF' ?k1EI ?k2EI ?_; (case k1EI => exact rfl); (case k2EI => exact rfl); k_whole)))
  k_with ".pyIter ref" => ((fail_if_success k_extra "off H10_14"); (k_here; k_dflt (refine' iter_rangeUnr (n := 11) ?hhEJ ?hrEJ ?hsEJ ?hnEJ ?FEJ ?NEJ ?_; (case hhEJ => rfl); (case hrEJ => assumption); (case hsEJ => decide); (case hnEJ => decide); (case FEJ => k_asm); (case NEJ => k_asm)); intro I9Z l1Z; (try k_lt l1Z); k_dflt (refine' range_ind (RegInv _ _ _ _ _ _) ?_ ?_ 11 0 _ _ rfl (.inl ⟨rfl, rfl⟩) ?j0EJ; (case j0EJ => exact regInv_mk (by assumption) (by assumption))); (focus (intro i9Z nw9Z t9Z h9Z tk9Z hi9Z hJ9Z F9Z N9Z; k_dflt (obtain ⟨vr9, rn9, hn9, hI9⟩ := hJ9Z; subst hn9; have hlen9 := regI_len hI9)))))
  trivial
inductive R_14 (L : Nat) (T : Led) (c2 : Obj) (o : Str) (sz : Int) (t1 : Tok) (t2 : Tok) (D : Nat) (n : Nat) (ys : List Value) (xs : List Int) (d : Int) (sr : Int) (nu : Int) (t3 : Tok) (t4 : Tok) (t5 : Tok) (nr : Bool) (f : Int) (t6 : Tok) (ox : Nat) (bl : Nat) (mx : Nat) (ot : Int) (t7 : Tok) (ax : Nat) (ay : Nat) (rr : Nat) (dm : Obj) (c9 : Obj) (PK : Led) (m' : Str → Option Value) (ns' : Led) : Prop where
  | mk (v9 : Value) (vr : List Value) (rn9 : Nat) (q9 : m' = (mset "spot" v9 (mset "regs" (.ref rr) (mset "behind" (.ref bl) (mset "maker" (.ref mx) (mset "other" (.int ot t7) (mset "order" (.ref ox) (mset "far" (.int f t6) (mset "is_near" (.bool nr) (mset "dst" (.int d t3) (mset "src" (.int sr t4) (mset "number" (.int nu t5) (mset "held" (.ref D) (mset "op" (.str o t1) (mset "size" (.int sz t2) m0)))))))))))))) ∧ ns' = (ax, instObj 718 ay) :: (ay, dm) :: (rr, listOf vr.toArray rn9) :: (L + 1 + 1, c9) :: (L + 1, c2) :: (D, listOf ys.toArray n) :: (PK ++ T) ∧ IntsAre vr (RegsAt xs 11)) : R_14 L T c2 o sz t1 t2 D n ys xs d sr nu t3 t4 t5 nr f t6 ox bl mx ot t7 ax ay rr dm c9 PK m' ns'
set_option maxHeartbeats 4000000 in
theorem s_14 {w : World} {mean : ExcName → Option Value} {mg mb : Str → Option Value} {L p x : Nat} {rest : Led} {B : Nat} {k : Int} {T : Led} {c1 c2 : Obj} {o : Str} {sz : Int} {t1 t2 : Tok} {D n : Nat} {ys : List Value} {xs : List Int} {d sr nu : Int} {t3 t4 t5 : Tok} {nr : Bool} {f : Int} {t6 : Tok} {ox bl mx : Nat} {ot : Int} {t7 : Tok} {ax ay rr : Nat} {dm : Obj} {vr : List Value} {rn9 : Nat} {c9 : Obj} {PK : Led} {rw mk fl pl : Nat} (hi : IntsAre ys xs) (hl : xs.length = 11) (hb : ∀ r ∈ xs, 0 ≤ r ∧ r < 2 ^ 64) (hD1 : D ≠ L + 1 + 1) (hD2 : D ≠ L + 1) (hor : ay < ax ∧ ax < rr ∧ L + 1 + 1 < ay ∧ D < ay) (hna : ∀ q ∈ PK ++ T, q.1 ≠ ay) (hnr : ∀ q ∈ PK ++ T, q.1 ≠ rr) (hiR : IntsAre vr [5, 5, 5, 5, 1879048192, 5, 5, 5, 5, 5, 5, 5, 5, 5, 5, 5]) : Seg w mean mg mb 14 L (mset "regs" (.ref rr) (mset "behind" (.ref bl) (mset "maker" (.ref mx) (mset "other" (.int ot t7) (mset "order" (.ref ox) (mset "far" (.int f t6) (mset "is_near" (.bool nr) (mset "dst" (.int d t3) (mset "src" (.int sr t4) (mset "number" (.int nu t5) (mset "held" (.ref D) (mset "op" (.str o t1) (mset "size" (.int sz t2) m0))))))))))))) ((ax, instObj 718 ay) :: (ay, dm) :: (rr, listOf vr.toArray rn9) :: (L + 1 + 1, c9) :: (L + 1, c2) :: (D, listOf ys.toArray n) :: (PK ++ T)) (R_14 L T c2 o sz t1 t2 D n ys xs d sr nu t3 t4 t5 nr f t6 ox bl mx ot t7 ax ay rr dm c9 PK) := by
  unfold Seg
  have e1 : caseScope = caseScope := rfl
  conv at e1 => rhs; whnf
  have e2 : caseSt 14 = caseSt 14 := rfl
  conv at e2 => rhs; whnf
  (try dsimp only at e1)
  (try dsimp only at e2)
  rw [e1, e2]
  clear e1 e2
  k_fill
  intro dp un gd outer A₀ base h₀ s Q E rest HB HF HX HN HT hdp hun hret
  k_steps
  all_goals (first
    | exact regInv_next (by assumption)
    | (rename_i nw9 h9 tk9 m9 hJ9 hm9 hF9 hN9
       obtain ⟨vr9, rn9, rfl, hI9⟩ := hJ9
       rcases hm9 with ⟨h0, _⟩ | ⟨v9, rfl⟩
       · exact absurd h0 (by decide)
       · exact hret _ _ _ _ ⟨v9, vr9, rn9, rfl, rfl, hI9⟩ hF9 hN9))

example : True := by
  k_with "off H10_14" => skip
  trivial
end
section
set_option maxHeartbeats 1000000
example : True := by
  k_with "nolean" => fail_if_success k_extra "off H11_15"
  k_with ".call ref" => (k_here; (with_reducible show wpAny _ _ (call (Value.ref 715) [_, _]) _ _ _); k_dflt (refine' ct_use ((show RunC _ _ _ _ _ _ _ _ _ _ _ _ _ _ _ _ _ _ _ from ?hrunEK) _ _ _ _ _ ?hIEK ?hlenEK ?hPKEK ?a1EK ?a2EK ?a3EK ?hapEK ?haqEK) ?kBEK ?kFEK ?kXEK ?kNEK ?kTEK ?kkEK trivial ?kdEK ?kuEK ?_; (case kBEK => k_asm); (case kFEK => k_asm); (case kXEK => k_asm); (case hrunEK => assumption); (case kNEK => k_asm); (case kTEK => k_asm); (case kkEK => first | exact rfl | assumption); (case hIEK => assumption); (case hlenEK => exact regsAt_len _); (case hPKEK => exact sub_pk); (case a1EK => omega); (case a2EK => omega); (case a3EK => omega); (case hapEK => k_all); (case haqEK => k_all); (case kdEK => ktr_room); (case kuEK => ktr_units); (intro v9Z ns9Z h9Z tk9Z hR9Z F9Z N9Z; obtain ⟨x09, x19, x29, x39, x49, x59, x69, x79, x89, x99, hv9, hn9, hf09, hf19, hf29, hf39, hf49⟩ := hR9Z; subst hv9 hn9; (try dsimp only [List.nil_append, List.cons_append] at N9Z); (try dsimp only); (try k_fold))))
  trivial
inductive R_15 (L : Nat) (T : Led) (c2 : Obj) (o : Str) (sz : Int) (t1 : Tok) (t2 : Tok) (D : Nat) (n : Nat) (ys : List Value) (xs : List Int) (d : Int) (sr : Int) (nu : Int) (t3 : Tok) (t4 : Tok) (t5 : Tok) (nr : Bool) (f : Int) (t6 : Tok) (ox : Nat) (bl : Nat) (mx : Nat) (ot : Int) (t7 : Tok) (ax : Nat) (ay : Nat) (rr : Nat) (c9 : Obj) (PK : Led) (rw : Nat) (mk : Nat) (pl : Nat) (rg : Bool) (v9 : Value) (m' : Str → Option Value) (ns' : Led) : Prop where
  | mk (oe od : Nat) (dO d2 : Obj) (vr2 : List Value) (rn2 fx : Nat) (pc9 od9 st9 : Int) (q9 : m' = (mset "end" (.ref oe) (mset "spot" v9 (mset "regs" (.ref rr) (mset "behind" (.ref bl) (mset "maker" (.ref mx) (mset "other" (.int ot t7) (mset "order" (.ref ox) (mset "far" (.int f t6) (mset "is_near" (.bool nr) (mset "dst" (.int d t3) (mset "src" (.int sr t4) (mset "number" (.int nu t5) (mset "held" (.ref D) (mset "op" (.str o t1) (mset "size" (.int sz t2) m0))))))))))))))) ∧ ns' = (oe, instObj 478 od) :: (od, dO) :: (ax, instObj 718 ay) :: (ay, d2) :: (rr, listOf vr2.toArray rn2) :: (L + 1 + 1, c9) :: (L + 1, c2) :: (D, listOf ys.toArray n) :: (PK ++ T) ∧ IsOut (Str.ofString "exit") (dueOf rg o sz d sr nu (1 + f) (RegsAt xs 11)) dO ∧ IntsAre vr2 ((RegsAt xs 11).set 9 (dueOf rg o sz d sr nu (1 + f) (RegsAt xs 11))) ∧ IsMach rw mk rr fx pl pc9 od9 st9 true d2) : R_15 L T c2 o sz t1 t2 D n ys xs d sr nu t3 t4 t5 nr f t6 ox bl mx ot t7 ax ay rr c9 PK rw mk pl rg v9 m' ns'
set_option maxHeartbeats 4000000 in
theorem s_15 {w : World} {mean : ExcName → Option Value} {mg mb : Str → Option Value} {L p x : Nat} {rest : Led} {B : Nat} {k : Int} {T : Led} {c1 c2 : Obj} {o : Str} {sz : Int} {t1 t2 : Tok} {D n : Nat} {ys : List Value} {xs : List Int} {d sr nu : Int} {t3 t4 t5 : Tok} {nr : Bool} {f : Int} {t6 : Tok} {ox bl mx : Nat} {ot : Int} {t7 : Tok} {ax ay rr : Nat} {dm : Obj} {vr : List Value} {rn9 : Nat} {c9 : Obj} {PK : Led} {rw mk fl pl : Nat} {rg : Bool} {v9 : Value} (hM : IsMach rw mk rr fl pl 0 0 0 false dm) (hc9 : c9.data = .cell (some (.ref ax))) (hor : ay < ax ∧ ax < rr ∧ L + 1 + 1 < ay ∧ D < ay) (hna : ∀ q ∈ PK ++ T, q.1 ≠ ay) (hnr : ∀ q ∈ PK ++ T, q.1 ≠ rr) (hrun : RunC w mean mg mb ax ay rr dm rg o sz d sr nu (1 + f) rw mk pl PK) (hiR : IntsAre vr (RegsAt xs 11)) (hD1 : D ≠ L + 1 + 1) : Seg w mean mg mb 15 L (mset "spot" v9 (mset "regs" (.ref rr) (mset "behind" (.ref bl) (mset "maker" (.ref mx) (mset "other" (.int ot t7) (mset "order" (.ref ox) (mset "far" (.int f t6) (mset "is_near" (.bool nr) (mset "dst" (.int d t3) (mset "src" (.int sr t4) (mset "number" (.int nu t5) (mset "held" (.ref D) (mset "op" (.str o t1) (mset "size" (.int sz t2) m0)))))))))))))) ((ax, instObj 718 ay) :: (ay, dm) :: (rr, listOf vr.toArray rn9) :: (L + 1 + 1, c9) :: (L + 1, c2) :: (D, listOf ys.toArray n) :: (PK ++ T)) (R_15 L T c2 o sz t1 t2 D n ys xs d sr nu t3 t4 t5 nr f t6 ox bl mx ot t7 ax ay rr c9 PK rw mk pl rg v9) := by
  unfold Seg
  have e1 : caseScope = caseScope := rfl
  conv at e1 => rhs; whnf
  have e2 : caseSt 15 = caseSt 15 := rfl
  conv at e2 => rhs; whnf
  (try dsimp only at e1)
  (try dsimp only at e2)
  rw [e1, e2]
  clear e1 e2
  k_fill
  intro dp un gd outer A₀ base h₀ s Q E rest HB HF HX HN HT hdp hun hret
  obtain ⟨h1, h2, h3, h4, h5, h6, h7, h8, h9, t1, t2, t3, t4, t5, t6, t7, t8, t9, u6, u7, u8, rfl⟩ := hM
  k_steps
  all_goals (refine' hret _ _ _ _ ⟨_, _, _, _, _, _, _, _, _, _, rfl, rfl, ?o, ?i, ?m⟩ ?bas ?led
             case bas => k_asm
             case led => k_extra "Z0"
             case o => assumption
             case i => assumption
             case m => assumption)

example : True := by
  k_with "off H11_15" => skip
  trivial
end
section
set_option maxHeartbeats 1000000
section
variable {h₀ h : Heap} {L : Addr}
end
example : True := by
  k_with ".subscriptTail Name Name" => ((fail_if_success k_extra "off H12_16"); (k_here; (with_reducible show wpAny _ _ (subscriptTail _ _ (Value.ref _) (Value.int _ _)) _ _ _); k_dflt (refine' item_intsG ?NEL ?hmEL ?hIEL ?h0EL ?hkEL ?hszEL (fun _ => ?_) ?hsEL; (case NEL => k_asm); (case hIEL => assumption); (case hmEL => (repeat (first | exact List.Mem.head _ | assumption | refine List.Mem.tail _ ?_))); (case h0EL => first | assumption | omega); (case hkEL => first | assumption | omega); (case hszEL => omega); (case hsEL => with_unfolding_all rfl))))
  k_with ".call ref" => (k_here; (with_reducible show wpAny _ _ (call (Value.ref 761) [_, _, _, _]) _ _ _); k_dflt (refine' ct_use (c_saysS ?hopEM ?hzEM ?hxEM ?hyEM) ?kBEM ?kFEM ?kXEM ?kNEM ?kTEM ?kkEM trivial ?kdEM ?kuEM ?_; (case kBEM => k_asm); (case kFEM => k_asm); (case kXEM => k_asm); (case kNEM => k_asm); (case kTEM => k_asm); (case kkEM => first | exact rfl | assumption); (case hopEM => assumption); (case hzEM => assumption); (case hxEM => (first | assumption | exact getD_bnd (by assumption))); (case hyEM => assumption); (case kdEM => ktr_room); (case kuEM => ktr_units); (intro v9Z ns9Z h9Z tk9Z hR9Z F9Z N9Z; obtain ⟨hv9, hn9⟩ := hR9Z; subst hv9 hn9;  (try dsimp only [List.nil_append, List.cons_append] at N9Z); (try dsimp only); (try k_fold))))
  trivial
inductive R_16 (L : Nat) (T : Led) (c2 : Obj) (o : Str) (sz : Int) (t1 : Tok) (t2 : Tok) (D : Nat) (n : Nat) (ys : List Value) (xs : List Int) (d : Int) (sr : Int) (nu : Int) (t3 : Tok) (t4 : Tok) (t5 : Tok) (nr : Bool) (f : Int) (t6 : Tok) (ox : Nat) (bl : Nat) (mx : Nat) (ot : Int) (t7 : Tok) (ax : Nat) (ay : Nat) (rr : Nat) (c9 : Obj) (PK : Led) (v9 : Value) (oe : Nat) (od : Nat) (dO : Obj) (d2 : Obj) (vr2 : List Value) (rn2 : Nat) (m' : Str → Option Value) (ns' : Led) : Prop where
  | mk (du : Int) (t9 : Tok) (q9 : m' = (mset "due" (.int du t9) (mset "end" (.ref oe) (mset "spot" v9 (mset "regs" (.ref rr) (mset "behind" (.ref bl) (mset "maker" (.ref mx) (mset "other" (.int ot t7) (mset "order" (.ref ox) (mset "far" (.int f t6) (mset "is_near" (.bool nr) (mset "dst" (.int d t3) (mset "src" (.int sr t4) (mset "number" (.int nu t5) (mset "held" (.ref D) (mset "op" (.str o t1) (mset "size" (.int sz t2) m0)))))))))))))))) ∧ ns' = (oe, instObj 478 od) :: (od, dO) :: (ax, instObj 718 ay) :: (ay, d2) :: (rr, listOf vr2.toArray rn2) :: (L + 1 + 1, c9) :: (L + 1, c2) :: (D, listOf ys.toArray n) :: (PK ++ T) ∧ du = if saysZ sz o (xs.getD d.toNat 0) ot = true then 1 + f else 1) : R_16 L T c2 o sz t1 t2 D n ys xs d sr nu t3 t4 t5 nr f t6 ox bl mx ot t7 ax ay rr c9 PK v9 oe od dO d2 vr2 rn2 m' ns'
def SS_s_16 (kz : SegCx) : Prop := ∀ (p x : Nat) (rest : Led) (B : Nat) (k : Int) (T : Led) (c1 c2 : Obj) (o : Str) (sz : Int) (t1 t2 : Tok) (D n : Nat) (ys : List Value) (xs : List Int) (d sr nu : Int) (t3 t4 t5 : Tok) (nr : Bool) (f : Int) (t6 : Tok) (ox bl mx : Nat) (ot : Int) (t7 : Tok) (ax ay rr : Nat) (dm : Obj) (vr : List Value) (rn9 : Nat) (c9 : Obj) (PK : Led) (rw mk fl pl : Nat) (rg : Bool) (v9 : Value) (oe od : Nat) (dO d2 : Obj) (vr2 : List Value) (rn2 fx : Nat) (pc9 od9 st9 : Int) (hi : IntsAre ys xs) (hl : xs.length = 11) (hb : ∀ r ∈ xs, 0 ≤ r ∧ r < 2 ^ 64) (ho : o ∈ ops) (hz : sz = 64 ∨ sz = 32) (hd : 0 ≤ d ∧ d < 11) (hf : 0 ≤ f ∧ f < 2) (hot : -(2^31) ≤ ot ∧ ot < 2^64), SegK kz 16 (mset "end" (.ref oe) (mset "spot" v9 (mset "regs" (.ref rr) (mset "behind" (.ref bl) (mset "maker" (.ref mx) (mset "other" (.int ot t7) (mset "order" (.ref ox) (mset "far" (.int f t6) (mset "is_near" (.bool nr) (mset "dst" (.int d t3) (mset "src" (.int sr t4) (mset "number" (.int nu t5) (mset "held" (.ref D) (mset "op" (.str o t1) (mset "size" (.int sz t2) m0))))))))))))))) ((oe, instObj 478 od) :: (od, dO) :: (ax, instObj 718 ay) :: (ay, d2) :: (rr, listOf vr2.toArray rn2) :: (kz.x.L + 1 + 1, c9) :: (kz.x.L + 1, c2) :: (D, listOf ys.toArray n) :: (PK ++ T)) (R_16 kz.x.L T c2 o sz t1 t2 D n ys xs d sr nu t3 t4 t5 nr f t6 ox bl mx ot t7 ax ay rr c9 PK v9 oe od dO d2 vr2 rn2)
noncomputable def sgc_s_16 : SegCx := kapSg SS_s_16
set_option maxHeartbeats 4000000 in
theorem s_16_k : SS_s_16 sgc_s_16 := by
  intro p x rest B k T c1 c2 o sz t1 t2 D n ys xs d sr nu t3 t4 t5 nr f t6 ox bl mx ot t7 ax ay rr dm vr rn9 c9 PK rw mk fl pl rg v9 oe od dO d2 vr2 rn2 fx pc9 od9 st9 hi hl hb ho hz hd hf hot
  have e1 : caseScope = caseScope := rfl
  conv at e1 => rhs; whnf
  have e2 : caseSt 16 = caseSt 16 := rfl
  conv at e2 => rhs; whnf
  (try dsimp only at e1)
  (try dsimp only at e2)
  refine @segL_lit _ _ _ _ _ _ _ _ e1 e2 ?_
  clear e1 e2
  unfold SegL
  intro h tk HW HF HN hret
  have HX := HW.X
  have HT := HW.T
  have HB := HW.B
  have hdp := HW.d
  have hun := HW.u
  refine frLet HF ?_
  intro mk HF9
  clear HF
  refine ledLet (by with_reducible assumption) ?_
  intro nk HN9
  k_steps
  all_goals (first
    | (refine' hret _ _ _ _ ⟨_, _, rfl, rfl, ?du⟩ ?bas ?led
       case bas => k_asm
       case led => k_extra "Z0"
       case du => exact (if_pos (by assumption)).symm)
    | (refine' hret _ _ _ _ ⟨_, _, rfl, rfl, ?du⟩ ?bas ?led
       case bas => k_asm
       case led => k_extra "Z0"
       case du => exact (if_neg (by assumption)).symm)
    | (refine' hret _ _ _ _ ⟨_, _, rfl, rfl, ?du⟩ ?bas ?led
       case bas => k_asm
       case led => k_extra "Z0"
       case du => exact (if_neg (ne_of_f (by assumption))).symm))
theorem s_16 {w : World} {mean : ExcName → Option Value} {mg mb : Str → Option Value} {L p x : Nat} {rest : Led} {B : Nat} {k : Int} {T : Led} {c1 c2 : Obj} {o : Str} {sz : Int} {t1 t2 : Tok} {D n : Nat} {ys : List Value} {xs : List Int} {d sr nu : Int} {t3 t4 t5 : Tok} {nr : Bool} {f : Int} {t6 : Tok} {ox bl mx : Nat} {ot : Int} {t7 : Tok} {ax ay rr : Nat} {dm : Obj} {vr : List Value} {rn9 : Nat} {c9 : Obj} {PK : Led} {rw mk fl pl : Nat} {rg : Bool} {v9 : Value} {oe od : Nat} {dO d2 : Obj} {vr2 : List Value} {rn2 fx : Nat} {pc9 od9 st9 : Int} (hi : IntsAre ys xs) (hl : xs.length = 11) (hb : ∀ r ∈ xs, 0 ≤ r ∧ r < 2 ^ 64) (ho : o ∈ ops) (hz : sz = 64 ∨ sz = 32) (hd : 0 ≤ d ∧ d < 11) (hf : 0 ≤ f ∧ f < 2) (hot : -(2^31) ≤ ot ∧ ot < 2^64) : Seg w mean mg mb 16 L (mset "end" (.ref oe) (mset "spot" v9 (mset "regs" (.ref rr) (mset "behind" (.ref bl) (mset "maker" (.ref mx) (mset "other" (.int ot t7) (mset "order" (.ref ox) (mset "far" (.int f t6) (mset "is_near" (.bool nr) (mset "dst" (.int d t3) (mset "src" (.int sr t4) (mset "number" (.int nu t5) (mset "held" (.ref D) (mset "op" (.str o t1) (mset "size" (.int sz t2) m0))))))))))))))) ((oe, instObj 478 od) :: (od, dO) :: (ax, instObj 718 ay) :: (ay, d2) :: (rr, listOf vr2.toArray rn2) :: (L + 1 + 1, c9) :: (L + 1, c2) :: (D, listOf ys.toArray n) :: (PK ++ T)) (R_16 L T c2 o sz t1 t2 D n ys xs d sr nu t3 t4 t5 nr f t6 ox bl mx ot t7 ax ay rr c9 PK v9 oe od dO d2 vr2 rn2) :=
  seg_of fun z1 z2 z3 z4 z5 z6 z7 z8 z9 za zb => @sg_all SS_s_16 s_16_k (sgAt w mean mg mb L z1 z2 z3 z4 z5 z6 z7 z8 z9 za zb) p x rest B k T c1 c2 o sz t1 t2 D n ys xs d sr nu t3 t4 t5 nr f t6 ox bl mx ot t7 ax ay rr dm vr rn9 c9 PK rw mk fl pl rg v9 oe od dO d2 vr2 rn2 fx pc9 od9 st9 hi hl hb ho hz hd hf hot


example : True := by
  k_with "off H12_16" => skip
  trivial
end
section
set_option maxHeartbeats 1000000
example : True := by
  k_with ".subscriptTail Name Name" => ((fail_if_success k_extra "off H13_17"); (k_here; (with_reducible show wpAny _ _ (subscriptTail _ _ (Value.ref _) (Value.int _ _)) _ _ _); k_dflt (refine' item_intsG ?NEN ?hmEN ?hIEN ?h0EN ?hkEN ?hszEN (fun _ => ?_) ?hsEN; (case NEN => k_asm); (case hIEN => assumption); (case hmEN => (repeat (first | exact List.Mem.head _ | assumption | refine List.Mem.tail _ ?_))); (case h0EN => first | assumption | omega); (case hkEN => first | assumption | omega); (case hszEN => omega); (case hsEN => with_unfolding_all rfl))))
  k_with ".compareOp Eq ref ref" => ((fail_if_success k_extra "off H13_17"); (k_here; (with_reducible show wpAny _ _ (compareOp CmpOp.Eq (Value.ref _) (Value.ref _)) _ _ _); k_dflt ((refine eq_dataH (by ke_read) (by ke_read) (by ke_shaped) (by ke_shaped) (by ke_room) ?_); ke_norm)))
  k_with ".compareOp NotEq ref ref" => ((fail_if_success k_extra "off H13_17"); (k_here; (with_reducible show wpAny _ _ (compareOp CmpOp.NotEq (Value.ref _) (Value.ref _)) _ _ _); k_dflt ((refine ne_dataH (by ke_read) (by ke_read) (by ke_shaped) (by ke_shaped) (by ke_room) ?_); ke_norm)))
  trivial
def SS_s_17 (kz : SegCx) : Prop := ∀ (p x : Nat) (rest : Led) (B : Nat) (k : Int) (T : Led) (c1 c2 : Obj) (o : Str) (sz : Int) (t1 t2 : Tok) (D n : Nat) (ys : List Value) (xs : List Int) (d sr nu : Int) (t3 t4 t5 : Tok) (nr : Bool) (f : Int) (t6 : Tok) (ox bl mx : Nat) (ot : Int) (t7 : Tok) (ax ay rr : Nat) (dm : Obj) (vr : List Value) (rn9 : Nat) (c9 : Obj) (PK : Led) (rw mk fl pl : Nat) (rg : Bool) (v9 : Value) (oe od : Nat) (dO d2 : Obj) (vr2 : List Value) (rn2 fx : Nat) (pc9 od9 st9 : Int) (du : Int) (t9 : Tok) (RX : List Int) (hc9 : c9.data = .cell (some (.ref ax))) (hO : IsOut (Str.ofString "exit") du dO) (hi2 : IntsAre vr2 (RX.set 9 du)) (hlx : (RX.set 9 du).length = 16) (hM2 : IsMach rw mk rr fx pl pc9 od9 st9 true d2) (hget : (RX.set 9 du).getD (9 : Int).toNat 0 = du), SegK kz 17 (mset "due" (.int du t9) (mset "end" (.ref oe) (mset "spot" v9 (mset "regs" (.ref rr) (mset "behind" (.ref bl) (mset "maker" (.ref mx) (mset "other" (.int ot t7) (mset "order" (.ref ox) (mset "far" (.int f t6) (mset "is_near" (.bool nr) (mset "dst" (.int d t3) (mset "src" (.int sr t4) (mset "number" (.int nu t5) (mset "held" (.ref D) (mset "op" (.str o t1) (mset "size" (.int sz t2) m0)))))))))))))))) ((oe, instObj 478 od) :: (od, dO) :: (ax, instObj 718 ay) :: (ay, d2) :: (rr, listOf vr2.toArray rn2) :: (kz.x.L + 1 + 1, c9) :: (kz.x.L + 1, c2) :: (D, listOf ys.toArray n) :: (PK ++ T)) (fun m' ns' => m' = (mset "due" (.int du t9) (mset "end" (.ref oe) (mset "spot" v9 (mset "regs" (.ref rr) (mset "behind" (.ref bl) (mset "maker" (.ref mx) (mset "other" (.int ot t7) (mset "order" (.ref ox) (mset "far" (.int f t6) (mset "is_near" (.bool nr) (mset "dst" (.int d t3) (mset "src" (.int sr t4) (mset "number" (.int nu t5) (mset "held" (.ref D) (mset "op" (.str o t1) (mset "size" (.int sz t2) m0)))))))))))))))) ∧ ns' = (oe, instObj 478 od) :: (od, dO) :: (ax, instObj 718 ay) :: (ay, d2) :: (rr, listOf vr2.toArray rn2) :: (kz.x.L + 1 + 1, c9) :: (kz.x.L + 1, c2) :: (D, listOf ys.toArray n) :: (PK ++ T))
noncomputable def sgc_s_17 : SegCx := kapSg SS_s_17
set_option maxHeartbeats 4000000 in
theorem s_17_k : SS_s_17 sgc_s_17 := by
  intro p x rest B k T c1 c2 o sz t1 t2 D n ys xs d sr nu t3 t4 t5 nr f t6 ox bl mx ot t7 ax ay rr dm vr rn9 c9 PK rw mk fl pl rg v9 oe od dO d2 vr2 rn2 fx pc9 od9 st9 du t9 RX hc9 hO hi2 hlx hM2 hget
  have e1 : caseScope = caseScope := rfl
  conv at e1 => rhs; whnf
  have e2 : caseSt 17 = caseSt 17 := rfl
  conv at e2 => rhs; whnf
  (try dsimp only at e1)
  (try dsimp only at e2)
  refine @segL_lit _ _ _ _ _ _ _ _ e1 e2 ?_
  clear e1 e2
  unfold SegL
  intro h tk HW HF HN hret
  have HX := HW.X
  have HT := HW.T
  have HB := HW.B
  have hdp := HW.d
  have hun := HW.u
  obtain ⟨oh1, oh2, oh3, oh4, oh5, ot1, ot2, ot3, ot4, ot5, ou1, ou4, ov2, ov3, ov5, rfl⟩ := hO
  obtain ⟨h1, h2, h3, h4, h5, h6, h7, h8, h9, t1, t2, t3, t4, t5, t6, t7, t8, t9, u6, u7, u8, rfl⟩ := hM2
  refine frLet HF ?_
  intro mk HF9
  clear HF
  refine ledLet (by with_reducible assumption) ?_
  intro nk HN9
  k_steps
  all_goals (first
    | (refine' hret _ _ _ _ ⟨rfl, rfl⟩ ?bas ?led
       case bas => k_asm
       case led => k_extra "Z0")
    | (exfalso; exact absurd hget (by assumption)))
theorem s_17 {w : World} {mean : ExcName → Option Value} {mg mb : Str → Option Value} {L p x : Nat} {rest : Led} {B : Nat} {k : Int} {T : Led} {c1 c2 : Obj} {o : Str} {sz : Int} {t1 t2 : Tok} {D n : Nat} {ys : List Value} {xs : List Int} {d sr nu : Int} {t3 t4 t5 : Tok} {nr : Bool} {f : Int} {t6 : Tok} {ox bl mx : Nat} {ot : Int} {t7 : Tok} {ax ay rr : Nat} {dm : Obj} {vr : List Value} {rn9 : Nat} {c9 : Obj} {PK : Led} {rw mk fl pl : Nat} {rg : Bool} {v9 : Value} {oe od : Nat} {dO d2 : Obj} {vr2 : List Value} {rn2 fx : Nat} {pc9 od9 st9 : Int} {du : Int} {t9 : Tok} {RX : List Int} (hc9 : c9.data = .cell (some (.ref ax))) (hO : IsOut (Str.ofString "exit") du dO) (hi2 : IntsAre vr2 (RX.set 9 du)) (hlx : (RX.set 9 du).length = 16) (hM2 : IsMach rw mk rr fx pl pc9 od9 st9 true d2) (hget : (RX.set 9 du).getD (9 : Int).toNat 0 = du) : Seg w mean mg mb 17 L (mset "due" (.int du t9) (mset "end" (.ref oe) (mset "spot" v9 (mset "regs" (.ref rr) (mset "behind" (.ref bl) (mset "maker" (.ref mx) (mset "other" (.int ot t7) (mset "order" (.ref ox) (mset "far" (.int f t6) (mset "is_near" (.bool nr) (mset "dst" (.int d t3) (mset "src" (.int sr t4) (mset "number" (.int nu t5) (mset "held" (.ref D) (mset "op" (.str o t1) (mset "size" (.int sz t2) m0)))))))))))))))) ((oe, instObj 478 od) :: (od, dO) :: (ax, instObj 718 ay) :: (ay, d2) :: (rr, listOf vr2.toArray rn2) :: (L + 1 + 1, c9) :: (L + 1, c2) :: (D, listOf ys.toArray n) :: (PK ++ T)) (fun m' ns' => m' = (mset "due" (.int du t9) (mset "end" (.ref oe) (mset "spot" v9 (mset "regs" (.ref rr) (mset "behind" (.ref bl) (mset "maker" (.ref mx) (mset "other" (.int ot t7) (mset "order" (.ref ox) (mset "far" (.int f t6) (mset "is_near" (.bool nr) (mset "dst" (.int d t3) (mset "src" (.int sr t4) (mset "number" (.int nu t5) (mset "held" (.ref D) (mset "op" (.str o t1) (mset "size" (.int sz t2) m0)))))))))))))))) ∧ ns' = (oe, instObj 478 od) :: (od, dO) :: (ax, instObj 718 ay) :: (ay, d2) :: (rr, listOf vr2.toArray rn2) :: (L + 1 + 1, c9) :: (L + 1, c2) :: (D, listOf ys.toArray n) :: (PK ++ T)) :=
  seg_of fun z1 z2 z3 z4 z5 z6 z7 z8 z9 za zb => @sg_all SS_s_17 s_17_k (sgAt w mean mg mb L z1 z2 z3 z4 z5 z6 z7 z8 z9 za zb) p x rest B k T c1 c2 o sz t1 t2 D n ys xs d sr nu t3 t4 t5 nr f t6 ox bl mx ot t7 ax ay rr dm vr rn9 c9 PK rw mk fl pl rg v9 oe od dO d2 vr2 rn2 fx pc9 od9 st9 du t9 RX hc9 hO hi2 hlx hM2 hget


example : True := by
  k_with "off H13_17" => skip
  trivial
end
section
set_option maxHeartbeats 1000000
example : True := by
  k_with ".subscriptTail Attribute Name" => ((fail_if_success k_extra "off H13_18"); (k_here; (with_reducible show wpAny _ _ (subscriptTail _ _ (Value.ref _) (Value.int _ _)) _ _ _); k_dflt (refine' item_intsG ?NEQ ?hmEQ ?hIEQ ?h0EQ ?hkEQ ?hszEQ (fun _ => ?_) ?hsEQ; (case NEQ => k_asm); (case hIEQ => assumption); (case hmEQ => (repeat (first | exact List.Mem.head _ | assumption | refine List.Mem.tail _ ?_))); (case h0EQ => first | assumption | omega); (case hkEQ => first | assumption | omega); (case hszEQ => omega); (case hsEQ => with_unfolding_all rfl))))
  k_with ".CompSrc" => ((fail_if_success k_extra "off H13_18"); (k_here; k_dflt (refine LCg.CompSrc.range (by rfl) (by k_asm) (by k_asm) (by assumption) (by first | decide | rfl) (by first | rfl | decide) (by exact Nat.le_of_ble_eq_true rfl) ?_; intro g'Z; refine' comp_ind (OutInv _ _) ?h0ER ?_ ?_; (case h0ER => exact outInv_zero (by assumption)); (rotate_left; (intro ys9Z nw9Z hI9Z; (replace hI9Z : OutInv _ _ 11 _ _ := hI9Z); obtain ⟨hm9, hi9⟩ := hI9Z; subst hm9); rotate_left; (intro i9Z ys9Z nw9Z hn9Z hI9Z v9Z I9Z oI9Z C9Z oC9Z D9Z m9Z h9Z tk9Z E9Z hv9Z hC9Z hx9Z F9Z N9Z off9Z ne9Z; (replace hn9Z : i9Z < 11 := hn9Z); obtain ⟨hm9, hi9⟩ := hI9Z; subst hm9; (try (obtain ⟨t9, hv9'⟩ := hv9Z; subst hv9')); (try dsimp only [List.nil_append, List.cons_append] at N9Z))))))
  k_with ".CompEnd" => ((fail_if_success k_extra "off H13_18"); (k_here; k_dflt (refine' compEnd_all ?FES ?NES ?ofES ?rrES; (case FES => k_asm); (case NES => k_asm); (case ofES => assumption); (case rrES => exact outInv_step (by assumption) (by assumption) (by assumption) (by assumption)))))
  k_with ".compareOp Eq ref ref" => ((fail_if_success k_extra "off H13_18"); (k_here; (with_reducible show wpAny _ _ (compareOp CmpOp.Eq (Value.ref _) (Value.ref _)) _ _ _); k_dflt (refine ke_eq_ints (by is_list) (by is_list) (by l_ints) (by l_ints) (by ke_room) ?_)))
  trivial
def SS_s_18 (kz : SegCx) : Prop := ∀ (p x : Nat) (rest : Led) (B : Nat) (k : Int) (T : Led) (c1 c2 : Obj) (o : Str) (sz : Int) (t1 t2 : Tok) (D n : Nat) (ys : List Value) (xs : List Int) (d sr nu : Int) (t3 t4 t5 : Tok) (nr : Bool) (f : Int) (t6 : Tok) (ox bl mx : Nat) (ot : Int) (t7 : Tok) (ax ay rr : Nat) (dm : Obj) (vr : List Value) (rn9 : Nat) (c9 : Obj) (PK : Led) (rw mk fl pl : Nat) (rg : Bool) (v9 : Value) (oe od : Nat) (dO d2 : Obj) (vr2 : List Value) (rn2 fx : Nat) (pc9 od9 st9 : Int) (du : Int) (t9 : Tok) (RX : List Int) (hi : IntsAre ys xs) (hl : xs.length = 11) (hc9 : c9.data = .cell (some (.ref ax))) (hO : IsOut (Str.ofString "exit") du dO) (hi2 : IntsAre vr2 (RX.set 9 du)) (hlx : (RX.set 9 du).length = 16) (hM2 : IsMach rw mk rr fx pl pc9 od9 st9 true d2) (hall : ∀ i : Nat, i < 11 → (RX.set 9 du).getD (hostR (0 + (i : Int))).toNat 0 = xs.getD i 0), SegRK kz 18 (mset "due" (.int du t9) (mset "end" (.ref oe) (mset "spot" v9 (mset "regs" (.ref rr) (mset "behind" (.ref bl) (mset "maker" (.ref mx) (mset "other" (.int ot t7) (mset "order" (.ref ox) (mset "far" (.int f t6) (mset "is_near" (.bool nr) (mset "dst" (.int d t3) (mset "src" (.int sr t4) (mset "number" (.int nu t5) (mset "held" (.ref D) (mset "op" (.str o t1) (mset "size" (.int sz t2) m0)))))))))))))))) ((oe, instObj 478 od) :: (od, dO) :: (ax, instObj 718 ay) :: (ay, d2) :: (rr, listOf vr2.toArray rn2) :: (kz.x.L + 1 + 1, c9) :: (kz.x.L + 1, c2) :: (D, listOf ys.toArray n) :: (PK ++ T))
noncomputable def sgc_s_18 : SegCx := kapSg SS_s_18
set_option maxHeartbeats 4000000 in
theorem s_18_k : SS_s_18 sgc_s_18 := by
  intro p x rest B k T c1 c2 o sz t1 t2 D n ys xs d sr nu t3 t4 t5 nr f t6 ox bl mx ot t7 ax ay rr dm vr rn9 c9 PK rw mk fl pl rg v9 oe od dO d2 vr2 rn2 fx pc9 od9 st9 du t9 RX hi hl hc9 hO hi2 hlx hM2 hall
  have e1 : caseScope = caseScope := rfl
  conv at e1 => rhs; whnf
  have e2 : caseSt 18 = caseSt 18 := rfl
  conv at e2 => rhs; whnf
  (try dsimp only at e1)
  (try dsimp only at e2)
  refine segLR_lit e1 e2 ?_
  clear e1 e2
  unfold SegLR
  intro h tk HW HF HN hret
  have HX := HW.X
  have HT := HW.T
  have HB := HW.B
  have hdp := HW.d
  have hun := HW.u
  obtain ⟨oh1, oh2, oh3, oh4, oh5, ot1, ot2, ot3, ot4, ot5, ou1, ou4, ov2, ov3, ov5, rfl⟩ := hO
  obtain ⟨h1, h2, h3, h4, h5, h6, h7, h8, h9, t1, t2, t3, t4, t5, t6, t7, t8, t9, u6, u7, u8, rfl⟩ := hM2
  refine frLet HF ?_
  intro mk HF9
  clear HF
  refine ledLet (by with_reducible assumption) ?_
  intro nk HN9
  k_steps
  all_goals (rw [take11 hl]; exact hret _ _ (by k_asm) (by k_extra "Z0"))
theorem s_18 {w : World} {mean : ExcName → Option Value} {mg mb : Str → Option Value} {L p x : Nat} {rest : Led} {B : Nat} {k : Int} {T : Led} {c1 c2 : Obj} {o : Str} {sz : Int} {t1 t2 : Tok} {D n : Nat} {ys : List Value} {xs : List Int} {d sr nu : Int} {t3 t4 t5 : Tok} {nr : Bool} {f : Int} {t6 : Tok} {ox bl mx : Nat} {ot : Int} {t7 : Tok} {ax ay rr : Nat} {dm : Obj} {vr : List Value} {rn9 : Nat} {c9 : Obj} {PK : Led} {rw mk fl pl : Nat} {rg : Bool} {v9 : Value} {oe od : Nat} {dO d2 : Obj} {vr2 : List Value} {rn2 fx : Nat} {pc9 od9 st9 : Int} {du : Int} {t9 : Tok} {RX : List Int} (hi : IntsAre ys xs) (hl : xs.length = 11) (hc9 : c9.data = .cell (some (.ref ax))) (hO : IsOut (Str.ofString "exit") du dO) (hi2 : IntsAre vr2 (RX.set 9 du)) (hlx : (RX.set 9 du).length = 16) (hM2 : IsMach rw mk rr fx pl pc9 od9 st9 true d2) (hall : ∀ i : Nat, i < 11 → (RX.set 9 du).getD (hostR (0 + (i : Int))).toNat 0 = xs.getD i 0) : SegR w mean mg mb 18 L (mset "due" (.int du t9) (mset "end" (.ref oe) (mset "spot" v9 (mset "regs" (.ref rr) (mset "behind" (.ref bl) (mset "maker" (.ref mx) (mset "other" (.int ot t7) (mset "order" (.ref ox) (mset "far" (.int f t6) (mset "is_near" (.bool nr) (mset "dst" (.int d t3) (mset "src" (.int sr t4) (mset "number" (.int nu t5) (mset "held" (.ref D) (mset "op" (.str o t1) (mset "size" (.int sz t2) m0)))))))))))))))) ((oe, instObj 478 od) :: (od, dO) :: (ax, instObj 718 ay) :: (ay, d2) :: (rr, listOf vr2.toArray rn2) :: (L + 1 + 1, c9) :: (L + 1, c2) :: (D, listOf ys.toArray n) :: (PK ++ T)) :=
  segR_of fun z1 z2 z3 z4 z5 z6 z7 z8 z9 za zb => @sg_all SS_s_18 s_18_k (sgAt w mean mg mb L z1 z2 z3 z4 z5 z6 z7 z8 z9 za zb) p x rest B k T c1 c2 o sz t1 t2 D n ys xs d sr nu t3 t4 t5 nr f t6 ox bl mx ot t7 ax ay rr dm vr rn9 c9 PK rw mk fl pl rg v9 oe od dO d2 vr2 rn2 fx pc9 od9 st9 du t9 RX hi hl hc9 hO hi2 hlx hM2 hall


example : True := by
  k_with "off H13_18" => skip
  trivial
end
section
set_option maxHeartbeats 1000000
example : True := by
  k_with "nolean" => fail_if_success k_extra "off H14"
  trivial
def RIx : Nat → List (Option Nat)
  | 0 => List.replicate 16 none
  | i + 1 => (RIx i).set (hostR (0 + (i : Int))).toNat (some i)
theorem rix_len : ∀ i, (RIx i).length = 16
  | 0 => rfl
  | i + 1 => by
    unfold RIx
    rw [List.length_set]; exact rix_len i
theorem regs_ix {xs : List Int} (j k : Nat) : ∀ i, (RIx i)[j]? = some (some k) → (RegsAt xs i)[j]? = some (xs.getD k 0)
  | 0, h => by
    have : (List.replicate 16 (none : Option Nat))[j]? = some (some k) := h
    rw [List.getElem?_replicate] at this
    split at this <;> cases this
  | i + 1, h => by
    unfold RegsAt
    have h2 : ((RIx i).set (hostR (0 + (i : Int))).toNat (some i))[j]? = some (some k) := h
    rw [List.getElem?_set] at h2 ⊢
    by_cases e : (hostR (0 + (i : Int))).toNat = j
    · rw [if_pos e] at h2 ⊢
      have hl : (RIx i).length = (RegsAt xs i).length := by rw [regsAt_len]; exact rix_len i
      rw [hl] at h2
      split at h2
      · rename_i hlt
        rw [if_pos hlt]
        cases h2
        rw [Int.zero_add]; rfl
      · cases h2
    · rw [if_neg e] at h2 ⊢
      exact regs_ix j k i h2
theorem regs_getD {xs : List Int} {j k : Nat} (h : (RIx 11)[j]? = some (some k)) : (RegsAt xs 11).getD j 0 = xs.getD k 0 := by
  rw [List.getD_eq_getElem?_getD, regs_ix j k 11 h]; rfl
theorem regs_k : ∀ i : Nat, i < 11 → (RIx 11)[(hostR (i : Int)).toNat]? = some (some i) ∧ (hostR (i : Int)).toNat ≠ 9 := by decide +kernel
theorem regs_nat {xs : List Int} (i : Nat) (h : i < 11) : (RegsAt xs 11).getD (hostR (i : Int)).toNat 0 = xs.getD i 0 := regs_getD (regs_k i h).1
theorem regs_all {xs : List Int} {du : Int} (i : Nat) (h : i < 11) : ((RegsAt xs 11).set 9 du).getD (hostR (0 + (i : Int))).toNat 0 = xs.getD i 0 := by
  rw [Int.zero_add, List.getD_eq_getElem?_getD, List.getElem?_set, if_neg (regs_k i h).2.symm, ← List.getD_eq_getElem?_getD]
  exact regs_nat i h
theorem regs_one {xs : List Int} {d : Int} (h : 0 ≤ d ∧ d < 11) : (RegsAt xs 11).getD (hostR d).toNat 0 = xs.getD d.toNat 0 := by
  have := regs_nat (xs := xs) d.toNat (by omega)
  rw [Int.toNat_of_nonneg h.1] at this
  exact this
theorem regs_nine {xs : List Int} {du : Int} : ((RegsAt xs 11).set 9 du).getD (9 : Int).toNat 0 = du := rfl
theorem regs_len2 {xs : List Int} {du : Int} : ((RegsAt xs 11).set 9 du).length = 16 := by rw [List.length_set]; exact regsAt_len 11
theorem other_bnd {rg : Bool} {xs : List Int} {sr nu ot : Int} (h : OtherO rg xs sr nu ot) (hb : ∀ r ∈ xs, 0 ≤ r ∧ r < 2 ^ 64) (hn : -2147483648 ≤ nu ∧ nu < 2147483648) : -(2^31) ≤ ot ∧ ot < 2^64 := by
  rcases h with ⟨_, rfl⟩ | ⟨_, rfl⟩
  · have := getD_bnd (i := sr.toNat) hb
    omega
  · omega
theorem due_eq {rg : Bool} {o : Str} {xs : List Int} {sz d sr nu n ot du : Int} (hd : 0 ≤ d ∧ d < 11) (hs : 0 ≤ sr ∧ sr < 11) (h : OtherO rg xs sr nu ot) (hdu : du = if saysZ sz o (xs.getD d.toNat 0) ot = true then n else 1) : dueOf rg o sz d sr nu n (RegsAt xs 11) = du := by
  subst hdu
  unfold dueOf
  rw [regs_one hd]
  rcases h with ⟨rfl, rfl⟩ | ⟨rfl, rfl⟩
  · rw [if_pos rfl, regs_one hs]
  · rw [if_neg (show ¬ (false = true) by decide)]
theorem s_0_e {L p x : Nat} {rest : Led} {B : Nat} {k : Int} {c1 c2 : Obj} {g : Heap} {P : (Str → Option Value) → Led → Heap → Nat → Prop}
   (kk9 : ∀ (o : Str) (sz : Int) (t1 t2 : Tok) (T' : Led), (o ∈ ops) → ((sz = 64 ∨ sz = 32)) → (PenT p x rest B (k + 2) T') → let m8 : Str → Option Value := (mset "op" (.str o t1) (mset "size" (.int sz t2) m0)); let n8 : Led := (L + 1 + 1, c1) :: (L + 1, c2) :: T'; ∀ (h' : Heap) (tk' : Nat), Fr g L h' m8 → News g L h' n8 → P m8 n8 h' tk') : ∀ m' ns' h' tk', (R_0 L p x rest B k c1 c2 m' ns') → Fr g L h' m' → News g L h' ns' → P m' ns' h' tk' := by
  rintro m' ns' h' tk' ⟨o, sz, t1, t2, T', rfl, rfl, f09, f19, f29⟩ F N
  exact kk9 o sz t1 t2 T' f09 f19 f29 _ _ F N
theorem s_1_e {L p x : Nat} {rest : Led} {B : Nat} {k : Int} {c1 c2 : Obj} {o : Str} {sz : Int} {t1 t2 : Tok} {g : Heap} {P : (Str → Option Value) → Led → Heap → Nat → Prop}
   (kk9 : ∀ (D : Nat) (ys : List Value) (xs : List Int) (n : Nat) (T' : Led), (IntsAre ys xs) → (xs.length = 11) → ((∀ r ∈ xs, 0 ≤ r ∧ r < 2 ^ 64)) → ((∀ T' k', PenT p x rest B k' T' → ∀ q ∈ T', q.1 ≠ D)) → ((D ≠ p ∧ D ≠ x)) → (D ≠ L + 1 + 1) → (D ≠ L + 1) → (PenT p x rest B (k + 11) T') → let m8 : Str → Option Value := (mset "held" (.ref D) (mset "op" (.str o t1) (mset "size" (.int sz t2) m0))); let n8 : Led := (D, listOf ys.toArray n) :: (L + 1 + 1, c1) :: (L + 1, c2) :: T'; ∀ (h' : Heap) (tk' : Nat), Fr g L h' m8 → News g L h' n8 → P m8 n8 h' tk') : ∀ m' ns' h' tk', (R_1 L p x rest B k c1 c2 o sz t1 t2 m' ns') → Fr g L h' m' → News g L h' ns' → P m' ns' h' tk' := by
  rintro m' ns' h' tk' ⟨D, ys, xs, n, T', rfl, rfl, f09, f19, f29, f39, f49, f59, f69, f79⟩ F N
  exact kk9 D ys xs n T' f09 f19 f29 f39 f49 f59 f69 f79 _ _ F N
theorem s_2_e {L p x : Nat} {rest : Led} {B : Nat} {k : Int} {c1 c2 : Obj} {o : Str} {sz : Int} {t1 t2 : Tok} {D n : Nat} {ys : List Value} {g : Heap} {P : (Str → Option Value) → Led → Heap → Nat → Prop}
   (kk9 : ∀ (d sr nu : Int) (t3 t4 t5 : Tok) (T' : Led), ((0 ≤ d ∧ d < 11)) → ((0 ≤ sr ∧ sr < 11)) → ((-2147483648 ≤ nu ∧ nu < 2147483648)) → (PenT p x rest B (k + 3) T') → let m8 : Str → Option Value := (mset "dst" (.int d t3) (mset "src" (.int sr t4) (mset "number" (.int nu t5) (mset "held" (.ref D) (mset "op" (.str o t1) (mset "size" (.int sz t2) m0)))))); let n8 : Led := (D, listOf ys.toArray n) :: (L + 1 + 1, c1) :: (L + 1, c2) :: T'; ∀ (h' : Heap) (tk' : Nat), Fr g L h' m8 → News g L h' n8 → P m8 n8 h' tk') : ∀ m' ns' h' tk', (R_2 L p x rest B k c1 c2 o sz t1 t2 D n ys m' ns') → Fr g L h' m' → News g L h' ns' → P m' ns' h' tk' := by
  rintro m' ns' h' tk' ⟨d, sr, nu, t3, t4, t5, T', rfl, rfl, f09, f19, f29, f39⟩ F N
  exact kk9 d sr nu t3 t4 t5 T' f09 f19 f29 f39 _ _ F N
theorem s_3_e {L p x : Nat} {rest : Led} {B : Nat} {k : Int} {c1 c2 : Obj} {o : Str} {sz : Int} {t1 t2 : Tok} {D n : Nat} {ys : List Value} {d sr nu : Int} {t3 t4 t5 : Tok} {g : Heap} {P : (Str → Option Value) → Led → Heap → Nat → Prop}
   (kk9 : ∀ (nr : Bool) (T' : Led), (PenT p x rest B (k + 1) T') → let m8 : Str → Option Value := (mset "is_near" (.bool nr) (mset "dst" (.int d t3) (mset "src" (.int sr t4) (mset "number" (.int nu t5) (mset "held" (.ref D) (mset "op" (.str o t1) (mset "size" (.int sz t2) m0))))))); let n8 : Led := (D, listOf ys.toArray n) :: (L + 1 + 1, c1) :: (L + 1, c2) :: T'; ∀ (h' : Heap) (tk' : Nat), Fr g L h' m8 → News g L h' n8 → P m8 n8 h' tk') : ∀ m' ns' h' tk', (R_3 L p x rest B k c1 c2 o sz t1 t2 D n ys d sr nu t3 t4 t5 m' ns') → Fr g L h' m' → News g L h' ns' → P m' ns' h' tk' := by
  rintro m' ns' h' tk' ⟨nr, T', rfl, rfl, f09⟩ F N
  exact kk9 nr T' f09 _ _ F N
theorem s_4_e {L p x : Nat} {rest : Led} {B : Nat} {k : Int} {c1 c2 : Obj} {o : Str} {sz : Int} {t1 t2 : Tok} {D : Nat} {d sr nu : Int} {t3 t4 t5 : Tok} {nr : Bool} {g : Heap} {P : (Str → Option Value) → Led → Heap → Nat → Prop}
   (kk9 : ∀ (ys : List Value) (xs : List Int) (n : Nat) (T' : Led), (IntsAre ys xs) → (xs.length = 11) → ((∀ r ∈ xs, 0 ≤ r ∧ r < 2 ^ 64)) → (PenT p x rest B (k + 1) T') → let m8 : Str → Option Value := (mset "is_near" (.bool nr) (mset "dst" (.int d t3) (mset "src" (.int sr t4) (mset "number" (.int nu t5) (mset "held" (.ref D) (mset "op" (.str o t1) (mset "size" (.int sz t2) m0))))))); let n8 : Led := (D, listOf ys.toArray n) :: (L + 1 + 1, c1) :: (L + 1, c2) :: T'; ∀ (h' : Heap) (tk' : Nat), Fr g L h' m8 → News g L h' n8 → P m8 n8 h' tk') : ∀ m' ns' h' tk', (R_4 L p x rest B k c1 c2 o sz t1 t2 D d sr nu t3 t4 t5 nr m' ns') → Fr g L h' m' → News g L h' ns' → P m' ns' h' tk' := by
  rintro m' ns' h' tk' ⟨ys, xs, n, T', rfl, rfl, f09, f19, f29, f39⟩ F N
  exact kk9 ys xs n T' f09 f19 f29 f39 _ _ F N
theorem s_5_e {L p x : Nat} {rest : Led} {B : Nat} {k : Int} {c1 c2 : Obj} {o : Str} {sz : Int} {t1 t2 : Tok} {D n : Nat} {ys : List Value} {d sr nu : Int} {t3 t4 t5 : Tok} {nr : Bool} {g : Heap} {P : (Str → Option Value) → Led → Heap → Nat → Prop}
   (kk9 : ∀ (f : Int) (t6 : Tok) (T' : Led), ((0 ≤ f ∧ f < 2)) → (PenT p x rest B (k + 1) T') → let m8 : Str → Option Value := (mset "far" (.int f t6) (mset "is_near" (.bool nr) (mset "dst" (.int d t3) (mset "src" (.int sr t4) (mset "number" (.int nu t5) (mset "held" (.ref D) (mset "op" (.str o t1) (mset "size" (.int sz t2) m0)))))))); let n8 : Led := (D, listOf ys.toArray n) :: (L + 1 + 1, c1) :: (L + 1, c2) :: T'; ∀ (h' : Heap) (tk' : Nat), Fr g L h' m8 → News g L h' n8 → P m8 n8 h' tk') : ∀ m' ns' h' tk', (R_5 L p x rest B k c1 c2 o sz t1 t2 D n ys d sr nu t3 t4 t5 nr m' ns') → Fr g L h' m' → News g L h' ns' → P m' ns' h' tk' := by
  rintro m' ns' h' tk' ⟨f, t6, T', rfl, rfl, f09, f19⟩ F N
  exact kk9 f t6 T' f09 f19 _ _ F N
theorem s_6_e {L p x : Nat} {rest : Led} {B : Nat} {k : Int} {c1 c2 : Obj} {o : Str} {sz : Int} {t1 t2 : Tok} {D n : Nat} {ys : List Value} {d sr nu : Int} {t3 t4 t5 : Tok} {nr : Bool} {f : Int} {t6 : Tok} {g : Heap} {P : (Str → Option Value) → Led → Heap → Nat → Prop}
   (kk9 : ∀ (rg : Bool) (c so im : Int) (ox dx : Nat) (od : Obj) (T' : Led), (KindO rg o sz sr nu c so im) → (IsOrd c d so f im 0 od) → (PenT p x rest B (k + 1) T') → let m8 : Str → Option Value := (mset "order" (.ref ox) (mset "far" (.int f t6) (mset "is_near" (.bool nr) (mset "dst" (.int d t3) (mset "src" (.int sr t4) (mset "number" (.int nu t5) (mset "held" (.ref D) (mset "op" (.str o t1) (mset "size" (.int sz t2) m0))))))))); let n8 : Led := (ox, instObj 133 dx) :: (dx, od) :: (D, listOf ys.toArray n) :: (L + 1 + 1, c1) :: (L + 1, c2) :: T'; ∀ (h' : Heap) (tk' : Nat), Fr g L h' m8 → News g L h' n8 → P m8 n8 h' tk') : ∀ m' ns' h' tk', (R_6 L p x rest B k c1 c2 o sz t1 t2 D n ys d sr nu t3 t4 t5 nr f t6 m' ns') → Fr g L h' m' → News g L h' ns' → P m' ns' h' tk' := by
  rintro m' ns' h' tk' ⟨rg, c, so, im, ox, dx, od, T', rfl, rfl, f09, f19, f29⟩ F N
  exact kk9 rg c so im ox dx od T' f09 f19 f29 _ _ F N
theorem s_7_e {L : Nat} {T : Led} {c1 c2 : Obj} {o : Str} {sz : Int} {t1 t2 : Tok} {D n : Nat} {ys : List Value} {xs : List Int} {d sr nu : Int} {t3 t4 t5 : Tok} {nr : Bool} {f : Int} {t6 : Tok} {rg : Bool} {ox dx : Nat} {od : Obj} {g : Heap} {P : (Str → Option Value) → Led → Heap → Nat → Prop}
   (kk9 : ∀ (ot : Int) (t7 : Tok), (OtherO rg xs sr nu ot) → let m8 : Str → Option Value := (mset "other" (.int ot t7) (mset "order" (.ref ox) (mset "far" (.int f t6) (mset "is_near" (.bool nr) (mset "dst" (.int d t3) (mset "src" (.int sr t4) (mset "number" (.int nu t5) (mset "held" (.ref D) (mset "op" (.str o t1) (mset "size" (.int sz t2) m0)))))))))); let n8 : Led := (ox, instObj 133 dx) :: (dx, od) :: (D, listOf ys.toArray n) :: (L + 1 + 1, c1) :: (L + 1, c2) :: T; ∀ (h' : Heap) (tk' : Nat), Fr g L h' m8 → News g L h' n8 → P m8 n8 h' tk') : ∀ m' ns' h' tk', (R_7 L T c1 c2 o sz t1 t2 D n ys xs d sr nu t3 t4 t5 nr f t6 rg ox dx od m' ns') → Fr g L h' m' → News g L h' ns' → P m' ns' h' tk' := by
  rintro m' ns' h' tk' ⟨ot, t7, rfl, rfl, f09⟩ F N
  exact kk9 ot t7 f09 _ _ F N
theorem s_8_e {L : Nat} {T : Led} {c1 c2 : Obj} {o : Str} {sz : Int} {t1 t2 : Tok} {D n : Nat} {ys : List Value} {d sr nu : Int} {t3 t4 t5 : Tok} {nr : Bool} {f : Int} {t6 : Tok} {ox dx : Nat} {od : Obj} {ot : Int} {t7 : Tok} {g : Heap} {P : (Str → Option Value) → Led → Heap → Nat → Prop}
   (kk9 : ∀ (mx md rl rn : Nat) (k1 k2 : Int) (q1 q2 q3 : Tok), (mx ≠ rl) → (md ≠ rl) → (AllLt rl ((ox, instObj 133 dx) :: (dx, od) :: (D, listOf ys.toArray n) :: (L + 1 + 1, c1) :: (L + 1, c2) :: T)) → let m8 : Str → Option Value := (mset "maker" (.ref mx) (mset "other" (.int ot t7) (mset "order" (.ref ox) (mset "far" (.int f t6) (mset "is_near" (.bool nr) (mset "dst" (.int d t3) (mset "src" (.int sr t4) (mset "number" (.int nu t5) (mset "held" (.ref D) (mset "op" (.str o t1) (mset "size" (.int sz t2) m0))))))))))); let n8 : Led := (mx, instObj 375 md) :: (md, dictOf [⟨k1, .str (Str.ofString "rows") q1, .ref rl⟩, ⟨k2, .str (Str.ofString "next_label") q2, .int 0 q3⟩] 2) :: (rl, listOf #[] rn) :: (ox, instObj 133 dx) :: (dx, od) :: (D, listOf ys.toArray n) :: (L + 1 + 1, c1) :: (L + 1, c2) :: T; ∀ (h' : Heap) (tk' : Nat), Fr g L h' m8 → News g L h' n8 → P m8 n8 h' tk') : ∀ m' ns' h' tk', (R_8 L T c1 c2 o sz t1 t2 D n ys d sr nu t3 t4 t5 nr f t6 ox dx od ot t7 m' ns') → Fr g L h' m' → News g L h' ns' → P m' ns' h' tk' := by
  rintro m' ns' h' tk' ⟨mx, md, rl, rn, k1, k2, q1, q2, q3, rfl, rfl, f09, f19, f29⟩ F N
  exact kk9 mx md rl rn k1 k2 q1 q2 q3 f09 f19 f29 _ _ F N
theorem s_9_e {L : Nat} {T : Led} {c1 c2 : Obj} {o : Str} {sz : Int} {t1 t2 : Tok} {D n : Nat} {ys : List Value} {d sr nu : Int} {t3 t4 t5 : Tok} {nr : Bool} {f : Int} {t6 : Tok} {rg : Bool} {ox : Nat} {ot : Int} {t7 : Tok} {mx md rl : Nat} {k1 k2 : Int} {q1 q2 q3 : Tok} {g : Heap} {P : (Str → Option Value) → Led → Heap → Nat → Prop}
   (kk9 : ∀ (r0 r1 rn : Nat) (T0 T1 : Led) (nm : Str) (vs : Array Value) (b1 b2 b3 : Tok), (RowO rg o sz d sr nu nm vs) → (IsRw nm vs r0 T0) → (IsRw (Str.ofString "jcc") #[.str (condT o) b1, .str (Str.ofString "order") b2, .int (1 + f) b3] r1 T1) → let m8 : Str → Option Value := (mset "maker" (.ref mx) (mset "other" (.int ot t7) (mset "order" (.ref ox) (mset "far" (.int f t6) (mset "is_near" (.bool nr) (mset "dst" (.int d t3) (mset "src" (.int sr t4) (mset "number" (.int nu t5) (mset "held" (.ref D) (mset "op" (.str o t1) (mset "size" (.int sz t2) m0))))))))))); let n8 : Led := (mx, instObj 375 md) :: (md, dictOf [⟨k1, .str (Str.ofString "rows") q1, .ref rl⟩, ⟨k2, .str (Str.ofString "next_label") q2, .int 0 q3⟩] 2) :: (rl, listOf #[.ref r0, .ref r1] rn) :: (T1 ++ (T0 ++ ((D, listOf ys.toArray n) :: (L + 1 + 1, c1) :: (L + 1, c2) :: T))); ∀ (h' : Heap) (tk' : Nat), Fr g L h' m8 → News g L h' n8 → P m8 n8 h' tk') : ∀ m' ns' h' tk', (R_9 L T c1 c2 o sz t1 t2 D n ys d sr nu t3 t4 t5 nr f t6 rg ox ot t7 mx md rl k1 k2 q1 q2 q3 m' ns') → Fr g L h' m' → News g L h' ns' → P m' ns' h' tk' := by
  rintro m' ns' h' tk' ⟨r0, r1, rn, T0, T1, nm, vs, b1, b2, b3, rfl, rfl, f09, f19, f29⟩ F N
  exact kk9 r0 r1 rn T0 T1 nm vs b1 b2 b3 f09 f19 f29 _ _ F N
theorem s_10_e {L : Nat} {T : Led} {c1 c2 : Obj} {o : Str} {sz : Int} {t1 t2 : Tok} {D n : Nat} {ys : List Value} {d sr nu : Int} {t3 t4 t5 : Tok} {nr : Bool} {f : Int} {t6 : Tok} {ox : Nat} {ot : Int} {t7 : Tok} {mx md rl rn : Nat} {k1 k2 : Int} {q1 q2 q3 : Tok} {r0 r1 : Nat} {nm : Str} {vs : Array Value} {g : Heap} {P : (Str → Option Value) → Led → Heap → Nat → Prop}
   (kk9 : ∀ (bl bn r2 r3 r4 r5 r6 r7 : Nat) (RL : Led), (Rows2 nm vs o (1 + f) r0 r1 RL) → (Rows6 r2 r3 r4 r5 r6 r7 RL) → (∀ q ∈ RL ++ T, q.1 ≠ L + 1 + 1) → let m8 : Str → Option Value := (mset "behind" (.ref bl) (mset "maker" (.ref mx) (mset "other" (.int ot t7) (mset "order" (.ref ox) (mset "far" (.int f t6) (mset "is_near" (.bool nr) (mset "dst" (.int d t3) (mset "src" (.int sr t4) (mset "number" (.int nu t5) (mset "held" (.ref D) (mset "op" (.str o t1) (mset "size" (.int sz t2) m0)))))))))))); let n8 : Led := (bl, listOf #[.ref r2, .ref r3, .ref r4, .ref r5, .ref r6, .ref r7] bn) :: (mx, instObj 375 md) :: (md, dictOf [⟨k1, .str (Str.ofString "rows") q1, .ref rl⟩, ⟨k2, .str (Str.ofString "next_label") q2, .int 0 q3⟩] 2) :: (rl, listOf #[.ref r0, .ref r1] rn) :: (D, listOf ys.toArray n) :: (L + 1 + 1, c1) :: (L + 1, c2) :: (RL ++ T); ∀ (h' : Heap) (tk' : Nat), Fr g L h' m8 → News g L h' n8 → P m8 n8 h' tk') : ∀ m' ns' h' tk', (R_10 L T c1 c2 o sz t1 t2 D n ys d sr nu t3 t4 t5 nr f t6 ox ot t7 mx md rl rn k1 k2 q1 q2 q3 r0 r1 nm vs m' ns') → Fr g L h' m' → News g L h' ns' → P m' ns' h' tk' := by
  rintro m' ns' h' tk' ⟨bl, bn, r2, r3, r4, r5, r6, r7, RL, rfl, rfl, f09, f19, f29⟩ F N
  exact kk9 bl bn r2 r3 r4 r5 r6 r7 RL f09 f19 f29 _ _ F N
theorem s_11_e {L : Nat} {T : Led} {c1 c2 : Obj} {o : Str} {sz : Int} {t1 t2 : Tok} {D n : Nat} {ys : List Value} {d sr nu : Int} {t3 t4 t5 : Tok} {nr : Bool} {f : Int} {t6 : Tok} {ox : Nat} {ot : Int} {t7 : Tok} {mx md rl rn : Nat} {k1 k2 : Int} {q1 q2 q3 : Tok} {r0 r1 r2 r3 r4 r5 r6 r7 bl bn : Nat} {RL : Led} {g : Heap} {P : (Str → Option Value) → Led → Heap → Nat → Prop}
   (kk9 :  let m8 : Str → Option Value := (mset "behind" (.ref bl) (mset "maker" (.ref mx) (mset "other" (.int ot t7) (mset "order" (.ref ox) (mset "far" (.int f t6) (mset "is_near" (.bool nr) (mset "dst" (.int d t3) (mset "src" (.int sr t4) (mset "number" (.int nu t5) (mset "held" (.ref D) (mset "op" (.str o t1) (mset "size" (.int sz t2) m0)))))))))))); let n8 : Led := (bl, listOf #[.ref r2, .ref r3, .ref r4, .ref r5, .ref r6, .ref r7] bn) :: (mx, instObj 375 md) :: (md, dictOf [⟨k1, .str (Str.ofString "rows") q1, .ref rl⟩, ⟨k2, .str (Str.ofString "next_label") q2, .int 0 q3⟩] 2) :: (rl, listOf #[.ref r0, .ref r1] rn) :: (D, listOf ys.toArray n) :: (L + 1 + 1, c1) :: (L + 1, c2) :: (RL ++ T); ∀ (h' : Heap) (tk' : Nat), Fr g L h' m8 → News g L h' n8 → P m8 n8 h' tk') : ∀ m' ns' h' tk', (m' = (mset "behind" (.ref bl) (mset "maker" (.ref mx) (mset "other" (.int ot t7) (mset "order" (.ref ox) (mset "far" (.int f t6) (mset "is_near" (.bool nr) (mset "dst" (.int d t3) (mset "src" (.int sr t4) (mset "number" (.int nu t5) (mset "held" (.ref D) (mset "op" (.str o t1) (mset "size" (.int sz t2) m0)))))))))))) ∧ ns' = (bl, listOf #[.ref r2, .ref r3, .ref r4, .ref r5, .ref r6, .ref r7] bn) :: (mx, instObj 375 md) :: (md, dictOf [⟨k1, .str (Str.ofString "rows") q1, .ref rl⟩, ⟨k2, .str (Str.ofString "next_label") q2, .int 0 q3⟩] 2) :: (rl, listOf #[.ref r0, .ref r1] rn) :: (D, listOf ys.toArray n) :: (L + 1 + 1, c1) :: (L + 1, c2) :: (RL ++ T)) → Fr g L h' m' → News g L h' ns' → P m' ns' h' tk' := by
  rintro m' ns' h' tk' ⟨rfl, rfl⟩ F N
  exact kk9  _ _ F N
theorem s_12_e {w : World} {mean : ExcName → Option Value} {mg mb : Str → Option Value} {L : Nat} {T : Led} {c2 : Obj} {o : Str} {sz : Int} {t1 t2 : Tok} {D n : Nat} {ys : List Value} {d sr nu : Int} {t3 t4 t5 : Tok} {nr : Bool} {f : Int} {t6 : Tok} {ox : Nat} {ot : Int} {t7 : Tok} {mx : Nat} {bl : Nat} {rg : Bool} {g : Heap} {P : (Str → Option Value) → Led → Heap → Nat → Prop}
   (kk9 : ∀ (ax ay rr : Nat) (dm : Obj) (vr : List Value) (rn9 : Nat) (c9 : Obj) (PK : Led) (rw mk fl pl : Nat), (c9.data = .cell (some (.ref ax))) → (IsMach rw mk rr fl pl 0 0 0 false dm) → (IntsAre vr [5, 5, 5, 5, 1879048192, 5, 5, 5, 5, 5, 5, 5, 5, 5, 5, 5]) → (RunC w mean mg mb ax ay rr dm rg o sz d sr nu (1 + f) rw mk pl PK) → ((ay < ax ∧ ax < rr ∧ L + 1 + 1 < ay ∧ D < ay)) → ((∀ q ∈ PK ++ T, q.1 ≠ ay)) → ((∀ q ∈ PK ++ T, q.1 ≠ rr)) → let m8 : Str → Option Value := (mset "behind" (.ref bl) (mset "maker" (.ref mx) (mset "other" (.int ot t7) (mset "order" (.ref ox) (mset "far" (.int f t6) (mset "is_near" (.bool nr) (mset "dst" (.int d t3) (mset "src" (.int sr t4) (mset "number" (.int nu t5) (mset "held" (.ref D) (mset "op" (.str o t1) (mset "size" (.int sz t2) m0)))))))))))); let n8 : Led := (ax, instObj 718 ay) :: (ay, dm) :: (rr, listOf vr.toArray rn9) :: (L + 1 + 1, c9) :: (L + 1, c2) :: (D, listOf ys.toArray n) :: (PK ++ T); ∀ (h' : Heap) (tk' : Nat), Fr g L h' m8 → News g L h' n8 → P m8 n8 h' tk') : ∀ m' ns' h' tk', (R_12 w mean mg mb L T c2 o sz t1 t2 D n ys d sr nu t3 t4 t5 nr f t6 ox ot t7 mx bl rg m' ns') → Fr g L h' m' → News g L h' ns' → P m' ns' h' tk' := by
  rintro m' ns' h' tk' ⟨ax, ay, rr, dm, vr, rn9, c9, PK, rw, mk, fl, pl, rfl, rfl, f09, f19, f29, f39, f49, f59, f69⟩ F N
  exact kk9 ax ay rr dm vr rn9 c9 PK rw mk fl pl f09 f19 f29 f39 f49 f59 f69 _ _ F N
theorem s_13_e {L : Nat} {T : Led} {c2 : Obj} {o : Str} {sz : Int} {t1 t2 : Tok} {D n : Nat} {ys : List Value} {d sr nu : Int} {t3 t4 t5 : Tok} {nr : Bool} {f : Int} {t6 : Tok} {ox bl mx : Nat} {ot : Int} {t7 : Tok} {ax ay rr : Nat} {dm : Obj} {vr : List Value} {rn9 : Nat} {c9 : Obj} {PK : Led} {g : Heap} {P : (Str → Option Value) → Led → Heap → Nat → Prop}
   (kk9 :  let m8 : Str → Option Value := (mset "regs" (.ref rr) (mset "behind" (.ref bl) (mset "maker" (.ref mx) (mset "other" (.int ot t7) (mset "order" (.ref ox) (mset "far" (.int f t6) (mset "is_near" (.bool nr) (mset "dst" (.int d t3) (mset "src" (.int sr t4) (mset "number" (.int nu t5) (mset "held" (.ref D) (mset "op" (.str o t1) (mset "size" (.int sz t2) m0))))))))))))); let n8 : Led := (ax, instObj 718 ay) :: (ay, dm) :: (rr, listOf vr.toArray rn9) :: (L + 1 + 1, c9) :: (L + 1, c2) :: (D, listOf ys.toArray n) :: (PK ++ T); ∀ (h' : Heap) (tk' : Nat), Fr g L h' m8 → News g L h' n8 → P m8 n8 h' tk') : ∀ m' ns' h' tk', (m' = (mset "regs" (.ref rr) (mset "behind" (.ref bl) (mset "maker" (.ref mx) (mset "other" (.int ot t7) (mset "order" (.ref ox) (mset "far" (.int f t6) (mset "is_near" (.bool nr) (mset "dst" (.int d t3) (mset "src" (.int sr t4) (mset "number" (.int nu t5) (mset "held" (.ref D) (mset "op" (.str o t1) (mset "size" (.int sz t2) m0))))))))))))) ∧ ns' = (ax, instObj 718 ay) :: (ay, dm) :: (rr, listOf vr.toArray rn9) :: (L + 1 + 1, c9) :: (L + 1, c2) :: (D, listOf ys.toArray n) :: (PK ++ T)) → Fr g L h' m' → News g L h' ns' → P m' ns' h' tk' := by
  rintro m' ns' h' tk' ⟨rfl, rfl⟩ F N
  exact kk9  _ _ F N
theorem s_14_e {L : Nat} {T : Led} {c2 : Obj} {o : Str} {sz : Int} {t1 t2 : Tok} {D n : Nat} {ys : List Value} {xs : List Int} {d sr nu : Int} {t3 t4 t5 : Tok} {nr : Bool} {f : Int} {t6 : Tok} {ox bl mx : Nat} {ot : Int} {t7 : Tok} {ax ay rr : Nat} {dm : Obj} {c9 : Obj} {PK : Led} {g : Heap} {P : (Str → Option Value) → Led → Heap → Nat → Prop}
   (kk9 : ∀ (v9 : Value) (vr : List Value) (rn9 : Nat), (IntsAre vr (RegsAt xs 11)) → let m8 : Str → Option Value := (mset "spot" v9 (mset "regs" (.ref rr) (mset "behind" (.ref bl) (mset "maker" (.ref mx) (mset "other" (.int ot t7) (mset "order" (.ref ox) (mset "far" (.int f t6) (mset "is_near" (.bool nr) (mset "dst" (.int d t3) (mset "src" (.int sr t4) (mset "number" (.int nu t5) (mset "held" (.ref D) (mset "op" (.str o t1) (mset "size" (.int sz t2) m0)))))))))))))); let n8 : Led := (ax, instObj 718 ay) :: (ay, dm) :: (rr, listOf vr.toArray rn9) :: (L + 1 + 1, c9) :: (L + 1, c2) :: (D, listOf ys.toArray n) :: (PK ++ T); ∀ (h' : Heap) (tk' : Nat), Fr g L h' m8 → News g L h' n8 → P m8 n8 h' tk') : ∀ m' ns' h' tk', (R_14 L T c2 o sz t1 t2 D n ys xs d sr nu t3 t4 t5 nr f t6 ox bl mx ot t7 ax ay rr dm c9 PK m' ns') → Fr g L h' m' → News g L h' ns' → P m' ns' h' tk' := by
  rintro m' ns' h' tk' ⟨v9, vr, rn9, rfl, rfl, f09⟩ F N
  exact kk9 v9 vr rn9 f09 _ _ F N
theorem s_15_e {L : Nat} {T : Led} {c2 : Obj} {o : Str} {sz : Int} {t1 t2 : Tok} {D n : Nat} {ys : List Value} {xs : List Int} {d sr nu : Int} {t3 t4 t5 : Tok} {nr : Bool} {f : Int} {t6 : Tok} {ox bl mx : Nat} {ot : Int} {t7 : Tok} {ax ay rr : Nat} {c9 : Obj} {PK : Led} {rw mk pl : Nat} {rg : Bool} {v9 : Value} {g : Heap} {P : (Str → Option Value) → Led → Heap → Nat → Prop}
   (kk9 : ∀ (oe od : Nat) (dO d2 : Obj) (vr2 : List Value) (rn2 fx : Nat) (pc9 od9 st9 : Int), (IsOut (Str.ofString "exit") (dueOf rg o sz d sr nu (1 + f) (RegsAt xs 11)) dO) → (IntsAre vr2 ((RegsAt xs 11).set 9 (dueOf rg o sz d sr nu (1 + f) (RegsAt xs 11)))) → (IsMach rw mk rr fx pl pc9 od9 st9 true d2) → let m8 : Str → Option Value := (mset "end" (.ref oe) (mset "spot" v9 (mset "regs" (.ref rr) (mset "behind" (.ref bl) (mset "maker" (.ref mx) (mset "other" (.int ot t7) (mset "order" (.ref ox) (mset "far" (.int f t6) (mset "is_near" (.bool nr) (mset "dst" (.int d t3) (mset "src" (.int sr t4) (mset "number" (.int nu t5) (mset "held" (.ref D) (mset "op" (.str o t1) (mset "size" (.int sz t2) m0))))))))))))))); let n8 : Led := (oe, instObj 478 od) :: (od, dO) :: (ax, instObj 718 ay) :: (ay, d2) :: (rr, listOf vr2.toArray rn2) :: (L + 1 + 1, c9) :: (L + 1, c2) :: (D, listOf ys.toArray n) :: (PK ++ T); ∀ (h' : Heap) (tk' : Nat), Fr g L h' m8 → News g L h' n8 → P m8 n8 h' tk') : ∀ m' ns' h' tk', (R_15 L T c2 o sz t1 t2 D n ys xs d sr nu t3 t4 t5 nr f t6 ox bl mx ot t7 ax ay rr c9 PK rw mk pl rg v9 m' ns') → Fr g L h' m' → News g L h' ns' → P m' ns' h' tk' := by
  rintro m' ns' h' tk' ⟨oe, od, dO, d2, vr2, rn2, fx, pc9, od9, st9, rfl, rfl, f09, f19, f29⟩ F N
  exact kk9 oe od dO d2 vr2 rn2 fx pc9 od9 st9 f09 f19 f29 _ _ F N
theorem s_16_e {L : Nat} {T : Led} {c2 : Obj} {o : Str} {sz : Int} {t1 t2 : Tok} {D n : Nat} {ys : List Value} {xs : List Int} {d sr nu : Int} {t3 t4 t5 : Tok} {nr : Bool} {f : Int} {t6 : Tok} {ox bl mx : Nat} {ot : Int} {t7 : Tok} {ax ay rr : Nat} {c9 : Obj} {PK : Led} {v9 : Value} {oe od : Nat} {dO d2 : Obj} {vr2 : List Value} {rn2 : Nat} {g : Heap} {P : (Str → Option Value) → Led → Heap → Nat → Prop}
   (kk9 : ∀ (du : Int) (t9 : Tok), (du = if saysZ sz o (xs.getD d.toNat 0) ot = true then 1 + f else 1) → let m8 : Str → Option Value := (mset "due" (.int du t9) (mset "end" (.ref oe) (mset "spot" v9 (mset "regs" (.ref rr) (mset "behind" (.ref bl) (mset "maker" (.ref mx) (mset "other" (.int ot t7) (mset "order" (.ref ox) (mset "far" (.int f t6) (mset "is_near" (.bool nr) (mset "dst" (.int d t3) (mset "src" (.int sr t4) (mset "number" (.int nu t5) (mset "held" (.ref D) (mset "op" (.str o t1) (mset "size" (.int sz t2) m0)))))))))))))))); let n8 : Led := (oe, instObj 478 od) :: (od, dO) :: (ax, instObj 718 ay) :: (ay, d2) :: (rr, listOf vr2.toArray rn2) :: (L + 1 + 1, c9) :: (L + 1, c2) :: (D, listOf ys.toArray n) :: (PK ++ T); ∀ (h' : Heap) (tk' : Nat), Fr g L h' m8 → News g L h' n8 → P m8 n8 h' tk') : ∀ m' ns' h' tk', (R_16 L T c2 o sz t1 t2 D n ys xs d sr nu t3 t4 t5 nr f t6 ox bl mx ot t7 ax ay rr c9 PK v9 oe od dO d2 vr2 rn2 m' ns') → Fr g L h' m' → News g L h' ns' → P m' ns' h' tk' := by
  rintro m' ns' h' tk' ⟨du, t9, rfl, rfl, f09⟩ F N
  exact kk9 du t9 f09 _ _ F N
theorem s_17_e {L : Nat} {T : Led} {c2 : Obj} {o : Str} {sz : Int} {t1 t2 : Tok} {D n : Nat} {ys : List Value} {d sr nu : Int} {t3 t4 t5 : Tok} {nr : Bool} {f : Int} {t6 : Tok} {ox bl mx : Nat} {ot : Int} {t7 : Tok} {ax ay rr : Nat} {c9 : Obj} {PK : Led} {v9 : Value} {oe od : Nat} {dO d2 : Obj} {vr2 : List Value} {rn2 : Nat} {du : Int} {t9 : Tok} {g : Heap} {P : (Str → Option Value) → Led → Heap → Nat → Prop}
   (kk9 :  let m8 : Str → Option Value := (mset "due" (.int du t9) (mset "end" (.ref oe) (mset "spot" v9 (mset "regs" (.ref rr) (mset "behind" (.ref bl) (mset "maker" (.ref mx) (mset "other" (.int ot t7) (mset "order" (.ref ox) (mset "far" (.int f t6) (mset "is_near" (.bool nr) (mset "dst" (.int d t3) (mset "src" (.int sr t4) (mset "number" (.int nu t5) (mset "held" (.ref D) (mset "op" (.str o t1) (mset "size" (.int sz t2) m0)))))))))))))))); let n8 : Led := (oe, instObj 478 od) :: (od, dO) :: (ax, instObj 718 ay) :: (ay, d2) :: (rr, listOf vr2.toArray rn2) :: (L + 1 + 1, c9) :: (L + 1, c2) :: (D, listOf ys.toArray n) :: (PK ++ T); ∀ (h' : Heap) (tk' : Nat), Fr g L h' m8 → News g L h' n8 → P m8 n8 h' tk') : ∀ m' ns' h' tk', (m' = (mset "due" (.int du t9) (mset "end" (.ref oe) (mset "spot" v9 (mset "regs" (.ref rr) (mset "behind" (.ref bl) (mset "maker" (.ref mx) (mset "other" (.int ot t7) (mset "order" (.ref ox) (mset "far" (.int f t6) (mset "is_near" (.bool nr) (mset "dst" (.int d t3) (mset "src" (.int sr t4) (mset "number" (.int nu t5) (mset "held" (.ref D) (mset "op" (.str o t1) (mset "size" (.int sz t2) m0)))))))))))))))) ∧ ns' = (oe, instObj 478 od) :: (od, dO) :: (ax, instObj 718 ay) :: (ay, d2) :: (rr, listOf vr2.toArray rn2) :: (L + 1 + 1, c9) :: (L + 1, c2) :: (D, listOf ys.toArray n) :: (PK ++ T)) → Fr g L h' m' → News g L h' ns' → P m' ns' h' tk' := by
  rintro m' ns' h' tk' ⟨rfl, rfl⟩ F N
  exact kk9  _ _ F N
theorem case_body {w : World} {mean : ExcName → Option Value} {mg mb : Str → Option Value} {L p x : Nat} {rest : Led} {B : Nat} {k : Int} {T : Led} {c1 c2 : Obj} (hc1 : c1.data = .cell none) (hc2 : c2.data = .cell (some (.ref p))) (hT : PenT p x rest B k T) (hBL : B ≤ L) (hk : k ≤ 800)
    (dp un : Nat) (gd : Option (List Code)) (outer : List Env) (A₀ : Around) (base g : Heap) (s : Shared) (Q : Flow → Shared → Prop) (E : Value → Shared → Prop)
    (HB : Below A₀ base outer g) (HF : Fr g L s.heap m0) (HX : (hd.heap_39 w.params).In g) (HN : News g L s.heap ((L + 1 + 1, c1) :: (L + 1, c2) :: T)) (HT : Top hd.view_39 loo mean mg mb g) (hdp : dp + 140 < recursionLimit) (hun : un + 8 * 140 < cLine)
    (hret : ∀ T' m' h' tk', PenT p x rest B (k + 30) T' → Fr g L h' m' → News g L h' T' → Q (.ret (.bool true)) { s with heap := h', toks := tk' }) :
    wpAny (model PySem.Challenge.rw_ok0177_01.row.prog w) (ktrTop dp un gd (Str.ofString "_law_case_holds") caseScope L 766 (.ref 765) (cellsFrom (L + 1) caseScope.names []) outer) (execs [caseSt 0, caseSt 1, caseSt 2, caseSt 3, caseSt 4, caseSt 5, caseSt 6, caseSt 7, caseSt 8, caseSt 9, caseSt 10, caseSt 11, caseSt 12, caseSt 13, caseSt 14, caseSt 15, caseSt 16, caseSt 17, caseSt 18] (envOfC (Str.ofString "_law_case_holds") caseScope L 766 (.ref 765))) Q E s := by
  refine s_0 hc1 hc2 hT hBL (by omega) dp un gd outer A₀ base g _ Q E _ HB HF HX HN HT hdp hun (s_0_e ?_)
  intro o sz t1 t2 T1 ho hz hT1 m8 n8 h' tk' F N
  refine s_1 hc1 hc2 hT1 hBL (by omega) dp un gd outer A₀ base g _ Q E _ HB F HX N HT hdp hun (s_1_e ?_)
  intro D ys xs n T2 hi hl hb hDT hDp hD1 hD2 hT2 m8 n8 h' tk' F N
  refine s_2 hc1 hc2 hT2 hBL hi hl hb hDT hDp hD1 hD2 (by omega) dp un gd outer A₀ base g _ Q E _ HB F HX N HT hdp hun (s_2_e ?_)
  intro d sr nu t3 t4 t5 T3 hd hs hn hT3 m8 n8 h' tk' F N
  refine s_3 hc1 hc2 hT3 hBL hi hl hb hDT hDp hD1 hD2 (by omega) dp un gd outer A₀ base g _ Q E _ HB F HX N HT hdp hun (s_3_e ?_)
  intro nr T4 hT4 m8 n8 h' tk' F N
  refine s_4 hc1 hc2 hT4 hBL hi hl hb hDT hDp hD1 hD2 hd hs hn (by omega) dp un gd outer A₀ base g _ Q E _ HB F HX N HT hdp hun (s_4_e ?_)
  intro ys xs n T5 hi hl hb hT5 m8 n8 h' tk' F N
  refine s_5 hc1 hc2 hT5 hBL hi hl hb hDT hDp hD1 hD2 (by omega) dp un gd outer A₀ base g _ Q E _ HB F HX N HT hdp hun (s_5_e ?_)
  intro f t6 T6 hf hT6 m8 n8 h' tk' F N
  refine s_6 hc1 hc2 hT6 hBL hi hl hb hDT hDp hD1 hD2 ho hz hd hs hn hf (by omega) dp un gd outer A₀ base g _ Q E _ HB F HX N HT hdp hun (s_6_e ?_)
  intro rg c so im ox dx od T7 hK hO hT7 m8 n8 h' tk' F N
  refine s_7 hc1 hc2 hT7 hBL hi hl hb hDT hDp hD1 hD2 ho hz hd hs hn hf hK hO dp un gd outer A₀ base g _ Q E _ HB F HX N HT hdp hun (s_7_e ?_)
  intro ot t7 hot m8 n8 h' tk' F N
  refine s_8 (rg := rg) (c := c) (so := so) (im := im) hc1 hc2 hT7 hBL hi hl hb hDT hDp hD1 hD2 dp un gd outer A₀ base g _ Q E _ HB F HX N HT hdp hun (s_8_e ?_)
  intro mx md rl rn k1 k2 q1 q2 q3 hm1 hm2 hal m8 n8 h' tk' F N
  refine s_9 hc1 hc2 hT7 hBL hi hl hb hDT hDp hD1 hD2 ho hz hd hs hn hf hK hO hm1 hm2 hal dp un gd outer A₀ base g _ Q E _ HB F HX N HT hdp hun (s_9_e ?_)
  intro r0 r1 rn T0 T1 nm vs b1 b2 b3 hRO hr0 hr1 m8 n8 h' tk' F N
  have hnm := rowO_nm hRO
  have hnj := hnm.2.2.2.2.2.2.2.2.2.2.1
  refine s_10 (p := p) (x := x) (rest := rest) (B := B) (k := k) (xs := xs) hr0 hr1 hc1 (pen_ne hT7 (by omega)) dp un gd outer A₀ base g _ Q E _ HB F HX N HT hdp hun (s_10_e ?_)
  intro bl bn r2 r3 r4 r5 r6 r7 RL hR2 hR6 hRT m8 n8 h' tk' F N
  refine s_11 (p := p) (x := x) (rest := rest) (B := B) (k := k) (xs := xs) hR2 hf hnj hnm.2.2.2.2.2.2.2.2.2.1 hnm.2.2.2.2.2.2.2.2.2.2.2 dp un gd outer A₀ base g _ Q E _ HB F HX N HT hdp hun (s_11_e ?_)
  intro  m8 n8 h' tk' F N
  refine s_12 (p := p) (x := x) (rest := rest) (B := B) (k := k) (xs := xs) hR2 hR6 hRO ho hz hd hs hn hf hc1 hD1 hRT dp un gd outer A₀ base g _ Q E _ HB F HX N HT hdp hun (s_12_e ?_)
  intro ax ay rr dm vr rn9 c9 PK rw mk fl pl hc9 hM hiR hrun hor hna hnr m8 n8 h' tk' F N
  refine s_13 (p := p) (x := x) (rest := rest) (B := B) (k := k) (c1 := c1) (xs := xs) hM hc9 dp un gd outer A₀ base g _ Q E _ HB F HX N HT hdp hun (s_13_e ?_)
  intro  m8 n8 h' tk' F N
  refine s_14 (p := p) (x := x) (rest := rest) (B := B) (k := k) (c1 := c1) (rw := rw) (mk := mk) (fl := fl) (pl := pl) hi hl hb hD1 hD2 hor hna hnr hiR dp un gd outer A₀ base g _ Q E _ HB F HX N HT hdp hun (s_14_e ?_)
  intro v9 vr rn9 hiR m8 n8 h' tk' F N
  refine s_15 (p := p) (x := x) (rest := rest) (B := B) (k := k) (c1 := c1) hM hc9 hor hna hnr hrun hiR hD1 dp un gd outer A₀ base g _ Q E _ HB F HX N HT hdp hun (s_15_e ?_)
  intro oe oo dO d2 vr2 rn2 fx pc9 od9 st9 hO2 hi2 hM2 m8 n8 h' tk' F N
  refine s_16 (p := p) (x := x) (rest := rest) (B := B) (k := k) (c1 := c1) (dm := dm) (vr := vr) (rn9 := rn9) (rw := rw) (mk := mk) (fl := fl) (pl := pl) (rg := rg) (fx := fx) (pc9 := pc9) (od9 := od9) (st9 := st9) hi hl hb ho hz hd hf (other_bnd hot hb hn) dp un gd outer A₀ base g _ Q E _ HB F HX N HT hdp hun (s_16_e ?_)
  intro du t9 hdu m8 n8 h' tk' F N
  rw [due_eq hd hs hot hdu] at hO2 hi2
  refine s_17 (p := p) (x := x) (rest := rest) (B := B) (k := k) (c1 := c1) (xs := xs) (dm := dm) (vr := vr) (rn9 := rn9) (fl := fl) (rg := rg) hc9 hO2 hi2 regs_len2 hM2 regs_nine dp un gd outer A₀ base g _ Q E _ HB F HX N HT hdp hun (s_17_e ?_)
  intro  m8 n8 h' tk' F N
  refine s_18 (p := p) (x := x) (rest := rest) (B := B) (k := k) (c1 := c1) (dm := dm) (vr := vr) (rn9 := rn9) (fl := fl) (rg := rg) hi hl hc9 hO2 hi2 regs_len2 hM2 regs_all dp un gd outer A₀ base g _ Q E _ HB F HX N HT hdp hun ?_
  intro h' tk' F N
  exact hret _ _ _ _ (pen_up hT7 (by omega)) F (fun q hq => N q (by (repeat (first | exact List.mem_append_right _ hq | refine List.Mem.tail _ ?_))))

example : True := by
  k_with "off H14" => skip
  trivial
end
section
set_option maxHeartbeats 1000000
example : True := by
  k_with "nolean" => fail_if_success k_extra "off H15"
  trivial
set_option maxHeartbeats 4000000 in
theorem c_case {w : World} {mean : ExcName → Option Value} {mg mb : Str → Option Value} {p x : Nat} {rest : Led} {B : Nat} {k : Int} {T : Led} (hT : PenT p x rest B k T) (hk : k ≤ 800) :
   Ct w mean mg mb 160 766 (T) True [.ref p] (fun v ns => ∃ (T2 : Led), v = .bool true ∧ ns = T2 ∧ PenT p x rest B (k + 30) T2) := by
  unfold Ct
  k_fill
  intro dp un gd cn cs fa ccd cl outer A₀ base h₀ L m s Q E HB HF HX HN HT hkind hp hdp hun hret
  refine wpAny_call ?_
  k_dflt cell_enter
  k_dflt (refine' case_body (p := p) (x := x) (rest := rest) (B := B) (k := k) (T := T) ?c1 ?c2 hT ?bl hk _ _ _ _ _ _ _ _ _ _ ?kB ?kF ?kX ?kN ?kT ?kd ?ku ?ret; (case kB => assumption); (case kX => assumption); (case kN => assumption); (case kF => assumption); (case kT => assumption); (case c1 => assumption); (case c2 => assumption); (case bl => exact pen_le hT (allLt_of (by with_reducible assumption))); (case kd => ktr_room); (case ku => ktr_units))
  intro T' m' h' tk' hT' F N
  k_steps
  all_goals exact hret _ _ _ _ ⟨_, rfl, rfl, hT'⟩ (by k_asm) (by k_asm)
example : True := by
  k_with "off H15" => skip
  trivial
end
section
set_option maxHeartbeats 1000000
example : True := by
  k_with "nolean" => fail_if_success k_extra "off H16"
  trivial
theorem news_of3 {h₀ h : Heap} {L : Addr} {all : Led} {a b c : Addr × Obj} (N : News h₀ L h all) (h1 : a ∈ all) (h2 : b ∈ all) (h3 : c ∈ all) : News h₀ L h [a, b, c] := news_sub N (sub_cons h1 (sub_cons h2 (sub_cons h3 sub_nil)))
theorem c_caseL {w : World} {mean : ExcName → Option Value} {mg mb : Str → Option Value} {p x I n nx : Nat} {it : Obj} {a b : Int} {ta tb : Tok} {ys : List Value} {xs : List Int} (ha : 0 ≤ a ∧ a ≤ 100) (hI : IntsAre ys xs) (hl : xs.length ≤ 40) (hpx : p ≠ x) (h1 : I ≠ p) (h2 : I ≠ x) :
    Ct w mean mg mb 160 766 [(p, listOf #[.ref x, .int a ta, .int b tb] n), (x, listOf ys.toArray nx), (I, it)] True [.ref p]
      (fun v ns => ∃ (a' b' : Int) (ta tb : Tok) (n nx : Nat) (ys : List Value) (xs : List Int), v = .bool true ∧ ns = [(p, listOf #[.ref x, .int a' ta, .int b' tb] n), (x, listOf ys.toArray nx), (I, it)] ∧ (0 ≤ a' ∧ a' ≤ a + 30) ∧ IntsAre ys xs ∧ xs.length ≤ 40) := by
  have hT : PenT p x [(I, it)] (max p (max x I) + 1) a [(p, listOf #[.ref x, .int a ta, .int b tb] n), (x, listOf ys.toArray nx), (I, it)] := by
    refine ⟨a, b, n, ys, xs, nx, ta, tb, rfl, ha.1, Int.le_refl _, hI, hl, hpx, ?_, ?_, fun D => ?_⟩
    · intro q hq
      rw [List.mem_singleton.mp hq]; exact h1
    · intro q hq
      rw [List.mem_singleton.mp hq]; exact h2
    · exact ⟨fun h => Nat.succ_le_of_lt (Nat.max_lt.mpr ⟨h.1, Nat.max_lt.mpr ⟨h.2.1, h.2.2.1⟩⟩), fun h => have h2 := Nat.max_lt.mp (Nat.lt_of_succ_le h); ⟨h2.1, (Nat.max_lt.mp h2.2).1, (Nat.max_lt.mp h2.2).2, trivial⟩⟩
  intro dp un gd cn cs fa ccd cl outer A₀ base h₀ L m s Q E HB HF HX HN HT hkind hp hdp hun hret
  refine c_case hT (by omega) dp un gd cn cs fa ccd cl outer A₀ base h₀ L m s Q E HB HF HX HN HT hkind hp hdp hun ?_
  rintro v ns h' tk ⟨T2, rfl, rfl, a', b', n', ys', xs', nx', ta', tb', rfl, g1, g2, g3, g4, g5, g6, g7, g8⟩ F N
  exact hret _ _ _ _ ⟨a', b', ta', tb', n', nx', ys', xs', rfl, rfl, ⟨g1, g2⟩, g3, g4⟩ F N

example : True := by
  k_with "off H16" => skip
  trivial
end
end
section
set_option maxHeartbeats 1000000
local macro_rules | `(tactic| walk_at $s:str) => do
  let z := Lean.Syntax.mkStrLit ("." ++ s.getString)
  `(tactic| k_extra $z)
local macro_rules | `(tactic| ktr_room) => `(tactic| k_extra "T:ktr_room")
local macro_rules | `(tactic| ktr_units) => `(tactic| k_extra "T:ktr_units")
local macro_rules | `(tactic| k_room) => `(tactic| k_extra "T:k_room")
local macro_rules | `(tactic| k_all) => `(tactic| k_extra "T:k_all")
local macro_rules | `(tactic| cell_enter) => `(tactic| k_extra "T:cell_enter")
local macro_rules | `(tactic| k_enter) => `(tactic| k_extra "T:k_enter")
local macro_rules | `(tactic| k_steps) => `(tactic| k_extra "T:k_steps")
local macro_rules | `(tactic| k_fmods) => `(tactic| k_extra "T:k_fmods")
local macro_rules | `(tactic| k_lt $h) => `(tactic| (replace $h := allLt_of $h; (try simp only [AllLt, and_true] at $h:ident); (repeat (have h9 := And.left $h; replace $h := And.right $h))))
example : True := by
  k_with_none
  k_with "T:ktr_room" => ((try simp only [depth_under_make, depth_under_kw, depth_in1, depth_deeper, depth_caller]); (try dsimp only [ktrTop]); (try simp only [recursionLimit]); omega)
  k_with "T:ktr_units" => ((try simp only [units_under_make, units_in1, units_deeper, Around.mark_units, units_caller]); (try dsimp only [ktrTop]); (have hcL9 := cLine_is); omega)
  k_with "T:k_room" => ktr_room
  k_with "T:k_all" => first | assumption | exact allNe_of (by assumption)
  k_with "T:cell_enter" => first | (refine' code_def ?k1EY ?k2EY ?k3EY ?k4EY ?k5EY ?kAEY ?kFEY ?kKEY ?k6EY ?k7EY ?k8EY ?k9EY ?kBEY ?_ ?c2EY ?c3EY ?c4EY ?c5EY; (case kAEY => exact rfl); (case kFEY => exact rfl); (case kKEY => assumption); (case k1EY => k_asm); (case k2EY => k_asm); (case k3EY => k_asm); (case k4EY => k_asm); (case k5EY => k_asm); (case k6EY => k_is); (case k7EY => k_is); (case k8EY => ktr_room); (case k9EY => first | exact BindsTo.of_eq rfl | exact binds_K (by k_in) rfl (by k_is) rfl rfl rfl); (case c5EY => decide); (case kBEY => exact locs rfl); (case c2EY => exact rfl); (case c3EY => exact rfl); (case c4EY => exact rfl); k_whole; intro g'Z L'Z h'Z FG'Z F'Z N'Z B'Z X'Z T'Z; (try dsimp only); (try k_fold)) | (refine' code_defC ?k1EY ?k2EY ?k3EY ?k4EY ?k5EY ?kAEY ?kFEY ?kKEY ?k6EY ?k7EY ?k8EY ?k9EY ?kBEY ?kDEY ?_ ?c2EY ?c3EY ?c4EY; (case kAEY => exact rfl); (case kFEY => exact rfl); (case kKEY => assumption); (case k1EY => k_asm); (case k2EY => k_asm); (case k3EY => k_asm); (case k4EY => k_asm); (case k5EY => k_asm); (case k6EY => k_is); (case k7EY => k_is); (case k8EY => ktr_room); (case k9EY => first | exact BindsTo.of_eq rfl | exact binds_K (by k_in) rfl (by k_is) rfl rfl rfl); (case kBEY => exact rfl); (case kDEY => decide +kernel); (case c2EY => exact rfl); (case c3EY => exact rfl); (case c4EY => exact rfl); k_whole; intro g'Z L'Z h'Z tk'Z cells'Z FG'Z F'Z N'Z Y'Z B'Z X'Z T'Z l1Z; (try k_lt l1Z); k_cells Y'Z; (try simp only [List.cons_append, List.nil_append] at N'Z); (try dsimp only); (try k_fold))
  k_with "T:k_enter" => cell_enter
  k_with "T:k_steps" => repeat' (first | (k_unfold; (try dsimp only)) | (k_end; kc_close) | (walk1 <;> (try dsimp only)) | (dsimp only; walk1) | (leave1; (try dsimp only)) | fail "no step")
  k_with ".newTuple" => (k_here; k_dflt (refine' kup_newTuple ?FFb ?NFb ?_ ?zFb; (case FFb => k_asm); (case NFb => k_asm); (case zFb => kmk_size)); intro D'Z h'Z F'Z N'Z l1Z; (try k_lt l1Z); (try k_sweep))
  k_with "T:k_fmods" => skip
  k_with ".UnrEnd" => (k_here; k_dflt (first | (refine' unrEnd_pre [] ?FFd ?NFd ?ofFd ?_; (case FFd => k_asm); (case NFd => k_asm); (case ofFd => (simp only [List.nil_append, List.cons_append]; k_all))) | (refine' unrEnd_pre [_] ?FFd ?NFd ?ofFd ?_; (case FFd => k_asm); (case NFd => k_asm); (case ofFd => (simp only [List.nil_append, List.cons_append]; k_all))) | (refine' unrEnd_pre [_, _] ?FFd ?NFd ?ofFd ?_; (case FFd => k_asm); (case NFd => k_asm); (case ofFd => (simp only [List.nil_append, List.cons_append]; k_all))) | (refine' unrEnd_pre [_, _, _] ?FFd ?NFd ?ofFd ?_; (case FFd => k_asm); (case NFd => k_asm); (case ofFd => (simp only [List.nil_append, List.cons_append]; k_all))) | (refine' unrEnd_pre [_, _, _, _] ?FFd ?NFd ?ofFd ?_; (case FFd => k_asm); (case NFd => k_asm); (case ofFd => (simp only [List.nil_append, List.cons_append]; k_all))) | (refine' unrEnd_pre [_, _, _, _, _] ?FFd ?NFd ?ofFd ?_; (case FFd => k_asm); (case NFd => k_asm); (case ofFd => (simp only [List.nil_append, List.cons_append]; k_all))) | (refine' unrEnd_pre [_, _, _, _, _, _] ?FFd ?NFd ?ofFd ?_; (case FFd => k_asm); (case NFd => k_asm); (case ofFd => (simp only [List.nil_append, List.cons_append]; k_all)))); (try simp only [List.nil_append, List.cons_append]))
  k_with ".CompEnd" => (k_here; k_dflt (refine' compEnd_all ?FFe ?NFe ?ofFe ?_; (case FFe => k_asm); (case NFe => k_asm); (case ofFe => assumption)))
  k_with ".ite" => (k_closed; k_dflt (first | refine ite_pos (by decide +kernel) ?_ | refine ite_neg (by decide +kernel) ?_))
  k_with ".call ref" => (k_here; (with_reducible show wpAny _ _ (call (Value.ref 766) [_]) _ _ _); k_dflt (refine' ct_use (c_caseL ?haFg ?hIFg ?hlFg ?hpxFg ?h1Fg ?h2Fg) ?kBFg ?kFFg ?kXFg ?kNFg ?kTFg ?kkFg trivial ?kdFg ?kuFg ?_; (case kBFg => k_asm); (case kFFg => k_asm); (case kXFg => k_asm); (case kNFg => exact news_of3 (by k_asm) (by k_mem) (by k_mem) (by k_mem)); (case kTFg => k_asm); (case kkFg => first | exact rfl | assumption); (case haFg => omega); (case hIFg => assumption); (case hlFg => first | assumption | (simp only [List.length_map, List.length_take]; omega)); (case hpxFg => omega); (case h1Fg => omega); (case h2Fg => omega); (case kdFg => first | ktr_room | decide); (case kuFg => first | ktr_units | decide); (intro v9Z ns9Z h9Z tk9Z hR9Z F9Z N9Z; obtain ⟨a9, b9, ta9, tb9, n9, nx9, ys9, xs9, hv9, hn9, ha9, hI9, hl9⟩ := hR9Z; subst hv9 hn9; (try dsimp only); (try k_fold))))
  trivial
set_option maxHeartbeats 8000000 in
theorem fin : PySem.Challenge.rw_ok0177_01.Holds := hd (by (k_go0; (all_goals try k_fold); k_steps; (all_goals (try k_data)); all_goals w_report))
end
end Mine
set_option maxHeartbeats 8000000 in
theorem PySem.Challenge.cw_ok0177_01_holds : PySem.Challenge.rw_ok0177_01.Holds := by
  exact Mine.fin
