import PyProof.Rows.All
import Wide.All
import OpenK.AllK
import Wide.FinOn
import Lean
import PySem.Challenge.RW_nn0332_01
open PySem PySem.W PyProof.Rows PySem.Calls
set_option Elab.async false
set_option maxRecDepth 100000
set_option maxHeartbeats 0
namespace Mine
theorem nq : PySem.W.builtinNamed = PySem.W.builtinNamed := rfl
name_quick tw8642067239939848140 for PySem.W.builtinNamed by Mine.nq
name_quick tw13145125596335152023 for PySem.W.builtinNamed by Mine.nq
name_quick tw16494616584097029746 for PySem.W.builtinNamed by Mine.nq
name_quick tw15560500314895047343 for PySem.W.builtinNamed by Mine.nq
name_quick tw13925586954763233925 for PySem.W.builtinNamed by Mine.nq
name_quick tw3093977132361051618 for PySem.W.builtinNamed by Mine.nq
name_quick tw16644606511662114574 for PySem.W.builtinNamed by Mine.nq
name_quick tw4011157648589011858 for PySem.W.builtinNamed by Mine.nq
name_quick tw17057272898397164401 for PySem.W.builtinNamed by Mine.nq
name_quick tw607167704815816724 for PySem.W.builtinNamed by Mine.nq
name_quick tw11398097091735476289 for PySem.W.builtinNamed by Mine.nq
name_quick tw3424931102881643321 for PySem.W.builtinNamed by Mine.nq
name_quick tw6434138532213402376 for PySem.W.builtinNamed by Mine.nq
name_quick tw17325535178939296128 for PySem.W.builtinNamed by Mine.nq
name_quick tw8424611434330503625 for PySem.W.builtinNamed by Mine.nq
name_quick tw11838138170533393997 for PySem.W.builtinNamed by Mine.nq
name_quick tw15900120412870309639 for PySem.W.builtinNamed by Mine.nq
name_quick tw9467589175468403638 for PySem.W.builtinNamed by Mine.nq
name_quick tw16326889199254633757 for PySem.W.builtinNamed by Mine.nq
name_quick tw5189142188285759775 for PySem.W.builtinNamed by Mine.nq
name_quick tw7250012664060256230 for PySem.W.builtinNamed by Mine.nq
name_quick tw10938465397075749097 for PySem.W.builtinNamed by Mine.nq
name_quick tw1379578315556383370 for PySem.W.builtinNamed by Mine.nq
name_quick tw11939915149646268982 for PySem.W.builtinNamed by Mine.nq
name_quick tw2571919107429820419 for PySem.W.builtinNamed by Mine.nq
name_quick tw9951705424602377420 for PySem.W.builtinNamed by Mine.nq
name_quick tw716658179208862652 for PySem.W.builtinNamed by Mine.nq
name_quick tw1218959903707654005 for PySem.W.builtinNamed by Mine.nq
name_quick tw16846860572762119324 for PySem.W.builtinNamed by Mine.nq
name_quick tw16406328271908756883 for PySem.W.builtinNamed by Mine.nq
name_quick tw11994158751524154303 for PySem.W.builtinNamed by Mine.nq
name_quick tw13759679279233594173 for PySem.W.builtinNamed by Mine.nq
name_quick tw9575731206691268911 for PySem.W.builtinNamed by Mine.nq
name_quick tw8620020772036689432 for PySem.W.builtinNamed by Mine.nq
name_quick tw17532440430192770315 for PySem.W.builtinNamed by Mine.nq
name_quick tw3118938333895590913 for PySem.W.builtinNamed by Mine.nq
name_quick tw13725850141900786883 for PySem.W.builtinNamed by Mine.nq
name_quick tw10030586065758793078 for PySem.W.builtinNamed by Mine.nq
name_quick tw7365555872484859036 for PySem.W.builtinNamed by Mine.nq
name_quick tw13016732220969518872 for PySem.W.builtinNamed by Mine.nq
name_quick tw10996506086634736982 for PySem.W.builtinNamed by Mine.nq
name_quick tw6380047634161181297 for PySem.W.builtinNamed by Mine.nq
name_quick tw14714103240675001986 for PySem.W.builtinNamed by Mine.nq
name_quick tw6448080314894763839 for PySem.W.builtinNamed by Mine.nq
name_quick tw6059929106960060952 for PySem.W.builtinNamed by Mine.nq
name_quick tw4434333111790514575 for PySem.W.builtinNamed by Mine.nq
name_quick tw6722154040420286063 for PySem.W.builtinNamed by Mine.nq
name_quick tw5976474108018559520 for PySem.W.builtinNamed by Mine.nq
name_quick tw14778209649434054790 for PySem.W.builtinNamed by Mine.nq
name_quick tw4410370849190367991 for PySem.W.builtinNamed by Mine.nq
name_quick tw13180171748994924942 for PySem.W.builtinNamed by Mine.nq
name_quick tw1355338860687761863 for PySem.W.builtinNamed by Mine.nq
name_quick tw392140993173905013 for PySem.W.builtinNamed by Mine.nq
name_quick tw5396446701170858492 for PySem.W.builtinNamed by Mine.nq
name_quick tw11036193050239951465 for PySem.W.builtinNamed by Mine.nq
name_quick tw16413264400604254196 for PySem.W.builtinNamed by Mine.nq
name_quick tw16339471991904476338 for PySem.W.builtinNamed by Mine.nq
name_quick tw10758392820592806131 for PySem.W.builtinNamed by Mine.nq
name_quick tw17891298701740220588 for PySem.W.builtinNamed by Mine.nq
name_quick tw17475289236778735526 for PySem.W.builtinNamed by Mine.nq
name_quick tw17863021456227041891 for PySem.W.builtinNamed by Mine.nq
name_quick tw4109823476700235019 for PySem.W.builtinNamed by Mine.nq
name_quick tw12224578244612797663 for PySem.W.builtinNamed by Mine.nq
name_quick tw17280976486791472633 for PySem.W.builtinNamed by Mine.nq
name_quick tw17476080006546285661 for PySem.W.builtinNamed by Mine.nq
name_quick tw2948108419219029167 for PySem.W.builtinNamed by Mine.nq
name_quick tw13678640442995254988 for PySem.W.builtinNamed by Mine.nq
name_quick tw4275521005467322725 for PySem.W.builtinNamed by Mine.nq
name_quick tw2736616831223182526 for PySem.W.builtinNamed by Mine.nq
name_quick tw3267979357774110234 for PySem.W.builtinNamed by Mine.nq
name_quick tw18260038339965228139 for PySem.W.builtinNamed by Mine.nq
name_quick tw13607416678640721797 for PySem.W.builtinNamed by Mine.nq
name_quick tw4797165386629745026 for PySem.W.builtinNamed by Mine.nq
name_quick tw1537898542681612871 for PySem.W.builtinNamed by Mine.nq
name_quick tw8789221427942488352 for PySem.W.builtinNamed by Mine.nq
name_quick tw9759809726879904816 for PySem.W.builtinNamed by Mine.nq
name_quick tw18340240734955500558 for PySem.W.builtinNamed by Mine.nq
name_quick tw1139862187096482527 for PySem.W.builtinNamed by Mine.nq
name_quick tw4224760802259116069 for PySem.W.builtinNamed by Mine.nq
name_quick tw10887116778572429059 for PySem.W.builtinNamed by Mine.nq
name_quick tw5152784196030571298 for PySem.W.builtinNamed by Mine.nq
name_quick tw14386061602966655976 for PySem.W.builtinNamed by Mine.nq
name_quick tw15894407043143930727 for PySem.W.builtinNamed by Mine.nq
name_quick tw3131671291697673992 for PySem.W.builtinNamed by Mine.nq
name_quick tw4549333791460862111 for PySem.W.builtinNamed by Mine.nq
name_quick tw17988542015724977305 for PySem.W.builtinNamed by Mine.nq
name_quick tw17719373434677690450 for PySem.W.builtinNamed by Mine.nq
name_quick tw4407734736301137906 for PySem.W.builtinNamed by Mine.nq
name_quick tw11519604305632133818 for PySem.W.builtinNamed by Mine.nq
name_quick tw503676674663206642 for PySem.W.builtinNamed by Mine.nq
name_quick tw15323854079317868165 for PySem.W.builtinNamed by Mine.nq
name_quick tw15902184279288820625 for PySem.W.builtinNamed by Mine.nq
name_quick tw10500077913531017323 for PySem.W.builtinNamed by Mine.nq
name_quick tw6952355047532471503 for PySem.W.builtinNamed by Mine.nq
name_quick tw8537084889766193716 for PySem.W.builtinNamed by Mine.nq
name_quick tw1184552218554016812 for PySem.W.builtinNamed by Mine.nq
name_quick tw11495947367809530248 for PySem.W.builtinNamed by Mine.nq
name_quick tw1291980286583624508 for PySem.W.builtinNamed by Mine.nq
name_quick tw8119918657739134586 for PySem.W.builtinNamed by Mine.nq
name_quick tw3952652319720093869 for PySem.W.builtinNamed by Mine.nq
name_quick tw10424941004445345732 for PySem.W.builtinNamed by Mine.nq
name_quick tw17341736924252097559 for PySem.W.builtinNamed by Mine.nq
name_quick tw8459811325457737761 for PySem.W.builtinNamed by Mine.nq
name_quick tw6929956602132211858 for PySem.W.builtinNamed by Mine.nq
name_quick tw219737044198020058 for PySem.W.builtinNamed by Mine.nq
name_quick tw17842620306162639686 for PySem.W.builtinNamed by Mine.nq
name_quick tw16049961110935095269 for PySem.W.builtinNamed by Mine.nq
name_quick tw1414301608579184545 for PySem.W.builtinNamed by Mine.nq
name_quick tw5925582254088234700 for PySem.W.builtinNamed by Mine.nq
name_quick tw3325841961599345399 for PySem.W.builtinNamed by Mine.nq
name_quick tw17001327861769816259 for PySem.W.builtinNamed by Mine.nq
name_quick tw7504490480230193789 for PySem.W.builtinNamed by Mine.nq
name_quick tw16916688483869632129 for PySem.W.builtinNamed by Mine.nq
name_quick tw3766158894648301139 for PySem.W.builtinNamed by Mine.nq
name_quick tw5721027456603625697 for PySem.W.builtinNamed by Mine.nq
name_quick tw11270796479367742343 for PySem.W.builtinNamed by Mine.nq
name_quick tw2504098582860672743 for PySem.W.builtinNamed by Mine.nq
name_quick tw14305139224198610471 for PySem.W.builtinNamed by Mine.nq
name_quick tw13036272033356848781 for PySem.W.builtinNamed by Mine.nq
name_quick tw14971970265804392439 for PySem.W.builtinNamed by Mine.nq
name_quick tw325292655437039998 for PySem.W.builtinNamed by Mine.nq
name_quick tw3953757239420563355 for PySem.W.builtinNamed by Mine.nq
name_quick tw2378363196638174374 for PySem.W.builtinNamed by Mine.nq
name_quick tw17429684086410527887 for PySem.W.builtinNamed by Mine.nq
name_quick tw17434858337260393937 for PySem.W.builtinNamed by Mine.nq
name_quick tw7392212959928792091 for PySem.W.builtinNamed by Mine.nq
name_quick tw17899373020297197333 for PySem.W.builtinNamed by Mine.nq
name_quick tw16180483070735683940 for PySem.W.builtinNamed by Mine.nq
name_quick tw3927467737984386915 for PySem.W.builtinNamed by Mine.nq
name_quick tw6179359751918216688 for PySem.W.builtinNamed by Mine.nq
name_quick tw7499937903120025604 for PySem.W.builtinNamed by Mine.nq
name_quick tw11317593695737139937 for PySem.W.builtinNamed by Mine.nq
name_quick tw15069429657496048653 for PySem.W.builtinNamed by Mine.nq
name_quick tw2401699919119007470 for PySem.W.builtinNamed by Mine.nq
name_quick tw18101931140130867144 for PySem.W.builtinNamed by Mine.nq
name_quick tw2611137233208623240 for PySem.W.builtinNamed by Mine.nq
name_quick tw13512673800721320934 for PySem.W.builtinNamed by Mine.nq
name_quick tw12945968074294007009 for PySem.W.builtinNamed by Mine.nq
name_quick tw9529234661008812162 for PySem.W.builtinNamed by Mine.nq
name_quick tw8708707556590381134 for PySem.W.builtinNamed by Mine.nq
name_quick tw9206804518496725263 for PySem.W.builtinNamed by Mine.nq
name_quick tw16817318245366136608 for PySem.W.builtinNamed by Mine.nq
name_quick tw13987355940573415152 for PySem.W.builtinNamed by Mine.nq
name_quick tw18163708392712065173 for PySem.W.builtinNamed by Mine.nq
name_quick tw9948023125614773506 for PySem.W.builtinNamed by Mine.nq
name_quick tw16349804527192203551 for PySem.W.builtinNamed by Mine.nq
name_quick tw5529568453561195837 for PySem.W.builtinNamed by Mine.nq
name_quick tw795377275742717654 for PySem.W.builtinNamed by Mine.nq
name_quick tw3355348695024010778 for PySem.W.builtinNamed by Mine.nq
name_quick tw16366562015402752707 for PySem.W.builtinNamed by Mine.nq
name_quick tw16241802466949684156 for PySem.W.builtinNamed by Mine.nq
name_quick tw15041003319150489328 for PySem.W.builtinNamed by Mine.nq
name_quick tw13951257522405164796 for PySem.W.builtinNamed by Mine.nq
name_quick tw12809422525583811893 for PySem.W.builtinNamed by Mine.nq
name_quick tw1333364371103165705 for PySem.W.builtinNamed by Mine.nq
name_quick tw17183712847048597117 for PySem.W.builtinNamed by Mine.nq
name_quick tw5758256569797452207 for PySem.W.builtinNamed by Mine.nq
name_quick tw13169248704851481478 for PySem.W.builtinNamed by Mine.nq
name_quick tw3577408171920636059 for PySem.W.builtinNamed by Mine.nq
name_quick tw13833065179229638619 for PySem.W.builtinNamed by Mine.nq
name_quick tw10308316962582663543 for PySem.W.builtinNamed by Mine.nq
name_quick tw12329403913580668285 for PySem.W.builtinNamed by Mine.nq
name_quick tw9413167413068371254 for PySem.W.builtinNamed by Mine.nq
name_quick tw1962928258387122110 for PySem.W.builtinNamed by Mine.nq
name_quick tw16439824349840649037 for PySem.W.builtinNamed by Mine.nq
name_quick tw470574548607681690 for PySem.W.builtinNamed by Mine.nq
name_quick tw1419416864934026935 for PySem.W.builtinNamed by Mine.nq
name_quick tw11740888236361828772 for PySem.W.builtinNamed by Mine.nq
name_quick tw16039550372008468697 for PySem.W.builtinNamed by Mine.nq
name_quick tw17814930658547583709 for PySem.W.builtinNamed by Mine.nq
name_quick tw8603108125212654177 for PySem.W.builtinNamed by Mine.nq
name_quick tw15542503528162795033 for PySem.W.builtinNamed by Mine.nq
name_quick tw12734952128020822468 for PySem.W.builtinNamed by Mine.nq
name_quick tw3209381107111851631 for PySem.W.builtinNamed by Mine.nq
name_quick tw2958062672499776758 for PySem.W.builtinNamed by Mine.nq
name_quick tw9821368406582625841 for PySem.W.builtinNamed by Mine.nq
name_quick tw9137105182441381901 for PySem.W.builtinNamed by Mine.nq
name_quick tw15376083050721069600 for PySem.W.builtinNamed by Mine.nq
name_quick tw17532718790514356516 for PySem.W.builtinNamed by Mine.nq
name_quick tw7783732958741208154 for PySem.W.builtinNamed by Mine.nq
name_quick tw2627984346626558326 for PySem.W.builtinNamed by Mine.nq
name_quick tw3764465048917985505 for PySem.W.builtinNamed by Mine.nq
name_quick tw11462045893675790159 for PySem.W.builtinNamed by Mine.nq
name_quick tw1702518465993881591 for PySem.W.builtinNamed by Mine.nq
name_quick tw5032809538720368765 for PySem.W.builtinNamed by Mine.nq
name_quick tw5357591511691535388 for PySem.W.builtinNamed by Mine.nq
name_quick tw7987952416473584550 for PySem.W.builtinNamed by Mine.nq
name_quick tw5345256250457102556 for PySem.W.builtinNamed by Mine.nq
name_quick tw13314330512976039754 for PySem.W.builtinNamed by Mine.nq
name_quick tw10227693086864044499 for PySem.W.builtinNamed by Mine.nq
name_quick tw6817277305950994716 for PySem.W.builtinNamed by Mine.nq
name_quick tw9281714027785469542 for PySem.W.builtinNamed by Mine.nq
name_quick tw16437185098154296904 for PySem.W.builtinNamed by Mine.nq
name_quick tw8881496252177385917 for PySem.W.builtinNamed by Mine.nq
name_quick tw10487160056961263569 for PySem.W.builtinNamed by Mine.nq
name_quick tw13335737130258781183 for PySem.W.builtinNamed by Mine.nq
name_quick tw17000458434675057986 for PySem.W.builtinNamed by Mine.nq
name_quick tw17517737089405305841 for PySem.W.builtinNamed by Mine.nq
name_quick tw2711585505577850959 for PySem.W.builtinNamed by Mine.nq
name_quick tw14323765505736481980 for PySem.W.builtinNamed by Mine.nq
name_quick tw15980859228951719591 for PySem.W.builtinNamed by Mine.nq
name_quick tw11625766737575182897 for PySem.W.builtinNamed by Mine.nq
name_quick tw441327347791068078 for PySem.W.builtinNamed by Mine.nq
name_quick tw9800571698397750058 for PySem.W.builtinNamed by Mine.nq
name_quick tw11707433790658880453 for PySem.W.builtinNamed by Mine.nq
name_quick tw13640514254501968386 for PySem.W.builtinNamed by Mine.nq
name_quick tw8579058602437062094 for PySem.W.builtinNamed by Mine.nq
name_quick tw4594285193202448953 for PySem.W.builtinNamed by Mine.nq
name_quick tw3362959441861295915 for PySem.W.builtinNamed by Mine.nq
name_quick tw14896874001708588922 for PySem.W.builtinNamed by Mine.nq
name_quick tw3972328310683599613 for PySem.W.builtinNamed by Mine.nq
name_quick tw17554001833073541016 for PySem.W.builtinNamed by Mine.nq
name_quick tw667198328695590252 for PySem.W.builtinNamed by Mine.nq
name_quick tw17943406268862710625 for PySem.W.builtinNamed by Mine.nq
name_quick tw6019396324639902685 for PySem.W.builtinNamed by Mine.nq
name_quick tw12095823642532355627 for PySem.W.builtinNamed by Mine.nq
name_quick tw14537914154153760125 for PySem.W.builtinNamed by Mine.nq
name_quick tw6144853644547557980 for PySem.W.builtinNamed by Mine.nq
name_quick tw2354101950205528012 for PySem.W.builtinNamed by Mine.nq
name_quick tw14981143343336467331 for PySem.W.builtinNamed by Mine.nq
name_quick tw8656719876789144132 for PySem.W.builtinNamed by Mine.nq
name_quick tw14108194823987119177 for PySem.W.builtinNamed by Mine.nq
name_quick tw14311459727803291754 for PySem.W.builtinNamed by Mine.nq
name_quick tw725871291056497461 for PySem.W.builtinNamed by Mine.nq
name_quick tw136631920214876835 for PySem.W.builtinNamed by Mine.nq
name_quick tw912392155897948271 for PySem.W.builtinNamed by Mine.nq
name_quick tw13252181687094117063 for PySem.W.builtinNamed by Mine.nq
name_quick tw196644378293983589 for PySem.W.builtinNamed by Mine.nq
name_quick tw15112985482279097393 for PySem.W.builtinNamed by Mine.nq
name_quick tw7299303143086499733 for PySem.W.builtinNamed by Mine.nq
name_quick tw3865406201487662470 for PySem.W.builtinNamed by Mine.nq
name_quick tw7581352650102555174 for PySem.W.builtinNamed by Mine.nq
name_quick tw13981391230805400906 for PySem.W.builtinNamed by Mine.nq
name_quick tw8017206721242287953 for PySem.W.builtinNamed by Mine.nq
name_quick tw3470799630455053000 for PySem.W.builtinNamed by Mine.nq
name_quick tw2759451637364818457 for PySem.W.builtinNamed by Mine.nq
name_quick tw15195428891847259777 for PySem.W.builtinNamed by Mine.nq
name_quick tw608726401823008365 for PySem.W.builtinNamed by Mine.nq
name_quick tw4936483359421988267 for PySem.W.builtinNamed by Mine.nq
name_quick tw13002492023102617099 for PySem.W.builtinNamed by Mine.nq
name_quick tw1749818173716722547 for PySem.W.builtinNamed by Mine.nq
name_quick tw3891137856419664920 for PySem.W.builtinNamed by Mine.nq
name_quick tw7496433998918960881 for PySem.W.builtinNamed by Mine.nq
name_quick tw2283851925072248500 for PySem.W.builtinNamed by Mine.nq
name_quick tw13915792640404377917 for PySem.W.builtinNamed by Mine.nq
name_quick tw12726346659333912481 for PySem.W.builtinNamed by Mine.nq
name_quick tw3740020263889925745 for PySem.W.builtinNamed by Mine.nq
name_quick tw2599325451414397859 for PySem.W.builtinNamed by Mine.nq
name_quick tw10057510723706494237 for PySem.W.builtinNamed by Mine.nq
name_quick tw6363645014702824404 for PySem.W.builtinNamed by Mine.nq
name_quick tw1156252341971683116 for PySem.W.builtinNamed by Mine.nq
name_quick tw4613930686462287906 for PySem.W.builtinNamed by Mine.nq
name_quick tw3436264866546951355 for PySem.W.builtinNamed by Mine.nq
name_quick tw4075660801711882420 for PySem.W.builtinNamed by Mine.nq
name_quick tw14544052848187043789 for PySem.W.builtinNamed by Mine.nq
name_quick tw5565278806992967083 for PySem.W.builtinNamed by Mine.nq
name_quick tw6127375697748050860 for PySem.W.builtinNamed by Mine.nq
name_quick tw12177649209318274912 for PySem.W.builtinNamed by Mine.nq
name_quick tw17803129079492736432 for PySem.W.builtinNamed by Mine.nq
name_quick tw17520869792638436183 for PySem.W.builtinNamed by Mine.nq
name_quick tw12750523984047038209 for PySem.W.builtinNamed by Mine.nq
name_quick tw13471461260053382970 for PySem.W.builtinNamed by Mine.nq
name_quick tw10073347824450446311 for PySem.W.builtinNamed by Mine.nq
name_quick tw1258299570235058372 for PySem.W.builtinNamed by Mine.nq
name_quick tw13912434898499826684 for PySem.W.builtinNamed by Mine.nq
name_quick tw7009043117176579089 for PySem.W.builtinNamed by Mine.nq
name_quick tw14613446494489578570 for PySem.W.builtinNamed by Mine.nq
name_quick tw17274371674624000324 for PySem.W.builtinNamed by Mine.nq
name_quick tw1503297043503765363 for PySem.W.builtinNamed by Mine.nq
name_quick tw43969757491396457 for PySem.W.builtinNamed by Mine.nq
name_quick tw535072334866317008 for PySem.W.builtinNamed by Mine.nq
name_quick tw11445135464325071761 for PySem.W.builtinNamed by Mine.nq
name_quick tw5268983451555188008 for PySem.W.builtinNamed by Mine.nq
name_quick tw11985326045990495214 for PySem.W.builtinNamed by Mine.nq
name_quick tw14952990662201256454 for PySem.W.builtinNamed by Mine.nq
name_quick tw16176465441171805009 for PySem.W.builtinNamed by Mine.nq
name_quick tw14821650378409806113 for PySem.W.builtinNamed by Mine.nq
name_quick tw3152983702415266003 for PySem.W.builtinNamed by Mine.nq
name_quick tw2422670821966735624 for PySem.W.builtinNamed by Mine.nq
name_quick tw7286323032743288035 for PySem.W.builtinNamed by Mine.nq
name_quick tw6214688769961185500 for PySem.W.builtinNamed by Mine.nq
name_quick tw282004115355043989 for PySem.W.builtinNamed by Mine.nq
name_quick tw2862820112641550484 for PySem.W.builtinNamed by Mine.nq
name_quick tw1886563365779066154 for PySem.W.builtinNamed by Mine.nq
name_quick tw7232422423428716515 for PySem.W.builtinNamed by Mine.nq
name_quick tw932993149863042379 for PySem.W.builtinNamed by Mine.nq
name_quick tw1829445100760108279 for PySem.W.builtinNamed by Mine.nq
name_quick tw12450158673883907302 for PySem.W.builtinNamed by Mine.nq
name_quick tw17024950926791866790 for PySem.W.builtinNamed by Mine.nq
name_quick tw4858009861420398278 for PySem.W.builtinNamed by Mine.nq
name_quick tw16648231224745350325 for PySem.W.builtinNamed by Mine.nq
name_quick tw17730448691065144110 for PySem.W.builtinNamed by Mine.nq
name_quick tw16593013826814733010 for PySem.W.builtinNamed by Mine.nq
name_quick tw12268644228514654432 for PySem.W.builtinNamed by Mine.nq
name_quick tw2334299552400917057 for PySem.W.builtinNamed by Mine.nq
name_quick tw4071324889030633612 for PySem.W.builtinNamed by Mine.nq
name_quick tw13580328829973926956 for PySem.W.builtinNamed by Mine.nq
name_quick tw10015664371746657536 for PySem.W.builtinNamed by Mine.nq
name_quick tw6213141578215901147 for PySem.W.builtinNamed by Mine.nq
name_quick tw10528696920762540405 for PySem.W.builtinNamed by Mine.nq
name_quick tw12635297910168745909 for PySem.W.builtinNamed by Mine.nq
name_quick tw900395245841561262 for PySem.W.builtinNamed by Mine.nq
name_quick tw16752143609539240740 for PySem.W.builtinNamed by Mine.nq
name_quick tw9979284746773624096 for PySem.W.builtinNamed by Mine.nq
name_quick tw8595292554425487202 for PySem.W.builtinNamed by Mine.nq
name_quick tw18350330562280901221 for PySem.W.builtinNamed by Mine.nq
name_quick tw973662469405803806 for PySem.W.builtinNamed by Mine.nq
name_quick tw16869277618539721502 for PySem.W.builtinNamed by Mine.nq
name_quick tw17244072584429378644 for PySem.W.builtinNamed by Mine.nq
name_quick tw682011567655089306 for PySem.W.builtinNamed by Mine.nq
name_quick tw16741492637210864865 for PySem.W.builtinNamed by Mine.nq
name_quick tw9763268239775435451 for PySem.W.builtinNamed by Mine.nq
name_quick tw5450187663091677483 for PySem.W.builtinNamed by Mine.nq
name_quick tw15480198773659482676 for PySem.W.builtinNamed by Mine.nq
name_quick tw4800724452203346748 for PySem.W.builtinNamed by Mine.nq
name_quick tw13317431791736044220 for PySem.W.builtinNamed by Mine.nq
name_quick tw13900631225919944168 for PySem.W.builtinNamed by Mine.nq
name_quick tw17537794083376710389 for PySem.W.builtinNamed by Mine.nq
name_quick tw17071476683966804577 for PySem.W.builtinNamed by Mine.nq
name_quick tw11108263761283441063 for PySem.W.builtinNamed by Mine.nq
name_quick tw3264259588550801142 for PySem.W.builtinNamed by Mine.nq
name_quick tw2894108277570489172 for PySem.W.builtinNamed by Mine.nq
name_quick tw12731603968600162155 for PySem.W.builtinNamed by Mine.nq
name_quick tw3820604794100220378 for PySem.W.builtinNamed by Mine.nq
name_quick tw11892598404827812706 for PySem.W.builtinNamed by Mine.nq
name_quick tw5882768191206486792 for PySem.W.builtinNamed by Mine.nq
name_quick tw6654550962395885724 for PySem.W.builtinNamed by Mine.nq
name_quick tw18416463498863911781 for PySem.W.builtinNamed by Mine.nq
name_quick tw8860024209350480642 for PySem.W.builtinNamed by Mine.nq
name_quick tw14043711374191979534 for PySem.W.builtinNamed by Mine.nq
name_quick tw11518781747449614426 for PySem.W.builtinNamed by Mine.nq
name_quick tw2905824091091238844 for PySem.W.builtinNamed by Mine.nq
name_quick tw12022618010286034681 for PySem.W.builtinNamed by Mine.nq
name_quick tw15034313371233782410 for PySem.W.builtinNamed by Mine.nq
name_quick tw11863081143760314161 for PySem.W.builtinNamed by Mine.nq
name_quick tw1735497430108182060 for PySem.W.builtinNamed by Mine.nq
name_quick tw8727135674562949291 for PySem.W.builtinNamed by Mine.nq
name_quick tw16643706677886111943 for PySem.W.builtinNamed by Mine.nq
name_quick tw13721567128424951087 for PySem.W.builtinNamed by Mine.nq
name_quick tw17164873540382356111 for PySem.W.builtinNamed by Mine.nq
name_quick tw5200128776193632040 for PySem.W.builtinNamed by Mine.nq
name_quick tw5854881644878751223 for PySem.W.builtinNamed by Mine.nq
name_quick tw6789855027759293466 for PySem.W.builtinNamed by Mine.nq
name_quick tw12182807814244774211 for PySem.W.builtinNamed by Mine.nq
name_quick tw5732905514179830355 for PySem.W.builtinNamed by Mine.nq
name_quick tw9577309144901391297 for PySem.W.builtinNamed by Mine.nq
name_quick tw15736541856241217950 for PySem.W.builtinNamed by Mine.nq
name_quick tw3560238982266916124 for PySem.W.builtinNamed by Mine.nq
name_quick tw6679490504615227074 for PySem.W.builtinNamed by Mine.nq
name_quick tw18056578402003937789 for PySem.W.builtinNamed by Mine.nq
name_quick tw8488268690174267210 for PySem.W.builtinNamed by Mine.nq
name_quick tw6792406925840432001 for PySem.W.builtinNamed by Mine.nq
name_quick tw10042830170769951172 for PySem.W.builtinNamed by Mine.nq
name_quick tw7503421922109321716 for PySem.W.builtinNamed by Mine.nq
name_quick tw11817470609975844035 for PySem.W.builtinNamed by Mine.nq
name_quick tw6580340599500149305 for PySem.W.builtinNamed by Mine.nq
name_quick tw8376441433122354887 for PySem.W.builtinNamed by Mine.nq
name_quick tw14530364306720264245 for PySem.W.builtinNamed by Mine.nq
name_quick tw1041845030581493396 for PySem.W.builtinNamed by Mine.nq
name_quick tw9787463984185863102 for PySem.W.builtinNamed by Mine.nq
name_quick tw5076957145309523181 for PySem.W.builtinNamed by Mine.nq
name_quick tw14097648870716263351 for PySem.W.builtinNamed by Mine.nq
name_quick tw4879560196417449868 for PySem.W.builtinNamed by Mine.nq
name_quick tw17913803186225011329 for PySem.W.builtinNamed by Mine.nq
name_quick tw11186114360453789277 for PySem.W.builtinNamed by Mine.nq
name_quick tw1574873078441994576 for PySem.W.builtinNamed by Mine.nq
name_quick tw951843321253372498 for PySem.W.builtinNamed by Mine.nq
name_quick tw11310463157757771331 for PySem.W.builtinNamed by Mine.nq
name_quick tw17828083071136270317 for PySem.W.builtinNamed by Mine.nq
name_quick tw563124612126607214 for PySem.W.builtinNamed by Mine.nq
name_quick tw13892231520521813962 for PySem.W.builtinNamed by Mine.nq
name_quick tw7081425507203772304 for PySem.W.builtinNamed by Mine.nq
name_quick tw13581749221687468397 for PySem.W.builtinNamed by Mine.nq
name_quick tw10508251915553800215 for PySem.W.builtinNamed by Mine.nq
name_quick tw1772237422875290029 for PySem.W.builtinNamed by Mine.nq
name_quick tw189603312586018693 for PySem.W.builtinNamed by Mine.nq
name_quick tw5068434257544371817 for PySem.W.builtinNamed by Mine.nq
name_quick tw12635813782599140982 for PySem.W.builtinNamed by Mine.nq
name_quick tw6662432510661729299 for PySem.W.builtinNamed by Mine.nq
name_quick tw14553827428707814869 for PySem.W.builtinNamed by Mine.nq
name_quick tw15215539614974913122 for PySem.W.builtinNamed by Mine.nq
name_quick tw4748654258956052638 for PySem.W.builtinNamed by Mine.nq
name_quick tw5697894365363955025 for PySem.W.builtinNamed by Mine.nq
name_quick tw11767421526060770920 for PySem.W.builtinNamed by Mine.nq
name_quick tw16296994325663420285 for PySem.W.builtinNamed by Mine.nq
name_quick tw4278798014809849964 for PySem.W.builtinNamed by Mine.nq
name_quick tw2193789692954389824 for PySem.W.builtinNamed by Mine.nq
name_quick tw12945451867199242903 for PySem.W.builtinNamed by Mine.nq
name_quick tw6891000109920058784 for PySem.W.builtinNamed by Mine.nq
name_quick tw15348344930456518619 for PySem.W.builtinNamed by Mine.nq
name_quick tw16018607276475445134 for PySem.W.builtinNamed by Mine.nq
name_quick tw757081541053455785 for PySem.W.builtinNamed by Mine.nq
name_quick tw13526986893379352335 for PySem.W.builtinNamed by Mine.nq
name_quick tw15490439104401381959 for PySem.W.builtinNamed by Mine.nq
name_quick tw17552769576498331613 for PySem.W.builtinNamed by Mine.nq
name_quick tw3315324234476444515 for PySem.W.builtinNamed by Mine.nq
name_quick tw4921902886906138986 for PySem.W.builtinNamed by Mine.nq
name_quick tw11964429278604863157 for PySem.W.builtinNamed by Mine.nq
name_quick tw618205885557783147 for PySem.W.builtinNamed by Mine.nq
name_quick tw4681523508651956083 for PySem.W.builtinNamed by Mine.nq
name_quick tw17300597898927385350 for PySem.W.builtinNamed by Mine.nq
name_quick tw9626621113073979434 for PySem.W.builtinNamed by Mine.nq
name_quick tw7892128664451923741 for PySem.W.builtinNamed by Mine.nq
name_quick tw9315938663221665524 for PySem.W.builtinNamed by Mine.nq
name_quick tw4966893808263662355 for PySem.W.builtinNamed by Mine.nq
name_quick tw7276740287692124622 for PySem.W.builtinNamed by Mine.nq
name_quick tw8430678208038309684 for PySem.W.builtinNamed by Mine.nq
name_quick tw764782834095389478 for PySem.W.builtinNamed by Mine.nq
name_quick tw17888162413812561239 for PySem.W.builtinNamed by Mine.nq
name_quick tw3094477031063562474 for PySem.W.builtinNamed by Mine.nq
name_quick tw3976722010076183465 for PySem.W.builtinNamed by Mine.nq
name_quick tw8902219603052485911 for PySem.W.builtinNamed by Mine.nq
name_quick tw16643379632663270332 for PySem.W.builtinNamed by Mine.nq
name_quick tw6380782515089751550 for PySem.W.builtinNamed by Mine.nq
name_quick tw10819683100428557426 for PySem.W.builtinNamed by Mine.nq
name_quick tw11166942722945506595 for PySem.W.builtinNamed by Mine.nq
name_quick tw13789449189825218787 for PySem.W.builtinNamed by Mine.nq
name_quick tw18188234029961486008 for PySem.W.builtinNamed by Mine.nq
name_quick tw15560853006256673968 for PySem.W.builtinNamed by Mine.nq
name_quick tw8796240567053077481 for PySem.W.builtinNamed by Mine.nq
name_quick tw16328912562034613984 for PySem.W.builtinNamed by Mine.nq
name_quick tw15450981722951097364 for PySem.W.builtinNamed by Mine.nq
name_quick tw17804436615005485693 for PySem.W.builtinNamed by Mine.nq
name_quick tw12359285113459375979 for PySem.W.builtinNamed by Mine.nq
name_quick tw13871001218405608335 for PySem.W.builtinNamed by Mine.nq
name_quick tw1092655722715705105 for PySem.W.builtinNamed by Mine.nq
name_quick tw17954736447514056666 for PySem.W.builtinNamed by Mine.nq
name_quick tw13141144453892091621 for PySem.W.builtinNamed by Mine.nq
name_quick tw4552823106982906706 for PySem.W.builtinNamed by Mine.nq
name_quick tw15168306246750427876 for PySem.W.builtinNamed by Mine.nq
name_quick tw14979626087600564940 for PySem.W.builtinNamed by Mine.nq
name_quick tw3856783459128436802 for PySem.W.builtinNamed by Mine.nq
name_quick tw16432479971616331241 for PySem.W.builtinNamed by Mine.nq
name_quick tw774047393022817027 for PySem.W.builtinNamed by Mine.nq
name_quick tw8610040677353227653 for PySem.W.builtinNamed by Mine.nq
name_quick tw15773981995205291829 for PySem.W.builtinNamed by Mine.nq
name_quick tw14285029430470858289 for PySem.W.builtinNamed by Mine.nq
name_quick tw10811333479730019678 for PySem.W.builtinNamed by Mine.nq
name_quick tw17352973434858128600 for PySem.W.builtinNamed by Mine.nq
name_quick tw8989982439271903415 for PySem.W.builtinNamed by Mine.nq
name_quick tw18220123701641295943 for PySem.W.builtinNamed by Mine.nq
name_quick tw7323676302269181137 for PySem.W.builtinNamed by Mine.nq
name_quick tw1638017585896720355 for PySem.W.builtinNamed by Mine.nq
name_quick tw6148621092414575339 for PySem.W.builtinNamed by Mine.nq
name_quick tw1204117194425446250 for PySem.W.builtinNamed by Mine.nq
name_quick tw15278061642289888581 for PySem.W.builtinNamed by Mine.nq
name_quick tw17954471519018878134 for PySem.W.builtinNamed by Mine.nq
name_quick tw15199281503961881116 for PySem.W.builtinNamed by Mine.nq
name_quick tw7397068168572129948 for PySem.W.builtinNamed by Mine.nq
name_quick tw6714822604882049554 for PySem.W.builtinNamed by Mine.nq
name_quick tw1402947280878808549 for PySem.W.builtinNamed by Mine.nq
name_quick tw11161088081135249708 for PySem.W.builtinNamed by Mine.nq
name_quick tw8032284361305108907 for PySem.W.builtinNamed by Mine.nq
name_quick tw14210447440969649564 for PySem.W.builtinNamed by Mine.nq
name_quick tw1401972060568974870 for PySem.W.builtinNamed by Mine.nq
name_quick tw11825729669827539873 for PySem.W.builtinNamed by Mine.nq
name_quick tw11566699232636054958 for PySem.W.builtinNamed by Mine.nq
name_quick tw16947794391021106201 for PySem.W.builtinNamed by Mine.nq
name_quick tw16966814322356759819 for PySem.W.builtinNamed by Mine.nq
name_quick tw17774800907425398282 for PySem.W.builtinNamed by Mine.nq
name_quick tw1869930749605803152 for PySem.W.builtinNamed by Mine.nq
name_quick tw6711915476519705758 for PySem.W.builtinNamed by Mine.nq
name_quick tw18263319221461684349 for PySem.W.builtinNamed by Mine.nq
name_quick tw3636048126100218174 for PySem.W.builtinNamed by Mine.nq
name_quick tw17026713947507217902 for PySem.W.builtinNamed by Mine.nq
name_quick tw9219426015542480343 for PySem.W.builtinNamed by Mine.nq
name_quick tw17975652961387846372 for PySem.W.builtinNamed by Mine.nq
name_quick tw7269565832213808900 for PySem.W.builtinNamed by Mine.nq
name_quick tw4172830789200971933 for PySem.W.builtinNamed by Mine.nq
name_quick tw4558998842232669794 for PySem.W.builtinNamed by Mine.nq
name_quick tw12832477231654346042 for PySem.W.builtinNamed by Mine.nq
name_quick tw16865151637890581275 for PySem.W.builtinNamed by Mine.nq
name_quick tw12172078356533094185 for PySem.W.builtinNamed by Mine.nq
name_quick tw7275051467321613617 for PySem.W.builtinNamed by Mine.nq
name_quick tw13559156169165276386 for PySem.W.builtinNamed by Mine.nq
name_quick tw10029231156530900338 for PySem.W.builtinNamed by Mine.nq
name_quick tw14420389602138693270 for PySem.W.builtinNamed by Mine.nq
name_quick tw9537544019596298400 for PySem.W.builtinNamed by Mine.nq
name_quick tw8075568018651887793 for PySem.W.builtinNamed by Mine.nq
name_quick tw13358618909089187005 for PySem.W.builtinNamed by Mine.nq
name_quick tw17672482021469178181 for PySem.W.builtinNamed by Mine.nq
name_quick tw7469732015759309437 for PySem.W.builtinNamed by Mine.nq
name_quick tw12821735335276811757 for PySem.W.builtinNamed by Mine.nq
name_quick tw9673203406766833760 for PySem.W.builtinNamed by Mine.nq
name_quick tw17015423121036801654 for PySem.W.builtinNamed by Mine.nq
name_quick tw7035115661146626270 for PySem.W.builtinNamed by Mine.nq
name_quick tw12659028871203227004 for PySem.W.builtinNamed by Mine.nq
name_quick tw730852154087939565 for PySem.W.builtinNamed by Mine.nq
name_quick tw6434265647005701932 for PySem.W.builtinNamed by Mine.nq
name_quick tw505943868828395459 for PySem.W.builtinNamed by Mine.nq
name_quick tw5862295025349918931 for PySem.W.builtinNamed by Mine.nq
name_quick tw12679591844961189642 for PySem.W.builtinNamed by Mine.nq
name_quick tw7492464533870168345 for PySem.W.builtinNamed by Mine.nq
name_quick tw5349121933718820234 for PySem.W.builtinNamed by Mine.nq
name_quick tw8753696776887207221 for PySem.W.builtinNamed by Mine.nq
name_quick tw11788150170368784547 for PySem.W.builtinNamed by Mine.nq
name_quick tw9082586571710850966 for PySem.W.builtinNamed by Mine.nq
name_quick tw8732485361984058174 for PySem.W.builtinNamed by Mine.nq
name_quick tw9501820088010722379 for PySem.W.builtinNamed by Mine.nq
name_quick tw7871376797262421127 for PySem.W.builtinNamed by Mine.nq
name_quick tw16942194440817826258 for PySem.W.builtinNamed by Mine.nq
name_quick tw4525517667737911620 for PySem.W.builtinNamed by Mine.nq
name_quick tw16979880578912567463 for PySem.W.builtinNamed by Mine.nq
name_quick tw15202239659555905331 for PySem.W.builtinNamed by Mine.nq
name_quick tw11682084944484805031 for PySem.W.builtinNamed by Mine.nq
name_quick tw1706496860858754268 for PySem.W.builtinNamed by Mine.nq
name_quick tw4527066259768149269 for PySem.W.builtinNamed by Mine.nq
name_quick tw14023627001141898710 for PySem.W.builtinNamed by Mine.nq
name_quick tw10010936943081839664 for PySem.W.builtinNamed by Mine.nq
name_quick tw12371321757623732685 for PySem.W.builtinNamed by Mine.nq
name_quick tw5952267759425050802 for PySem.W.builtinNamed by Mine.nq
name_quick tw14073706353221006472 for PySem.W.builtinNamed by Mine.nq
name_quick tw2447775223705975068 for PySem.W.builtinNamed by Mine.nq
name_quick tw15742981410569661332 for PySem.W.builtinNamed by Mine.nq
name_quick tw15880737140895825463 for PySem.W.builtinNamed by Mine.nq
name_quick tw4636218855388986860 for PySem.W.builtinNamed by Mine.nq
name_quick tw10833955939284561965 for PySem.W.builtinNamed by Mine.nq
name_quick tw1107438419126420414 for PySem.W.builtinNamed by Mine.nq
name_quick tw704327219915372674 for PySem.W.builtinNamed by Mine.nq
name_quick tw6125931036764729998 for PySem.W.builtinNamed by Mine.nq
name_quick tw9151444980202551346 for PySem.W.builtinNamed by Mine.nq
name_quick tw9794667896261083176 for PySem.W.builtinNamed by Mine.nq
name_quick tw721709456127091705 for PySem.W.builtinNamed by Mine.nq
name_quick tw18410474027866654770 for PySem.W.builtinNamed by Mine.nq
name_quick tw13215998728584607739 for PySem.W.builtinNamed by Mine.nq
name_quick tw183835017167291270 for PySem.W.builtinNamed by Mine.nq
name_quick tw16417370028952169744 for PySem.W.builtinNamed by Mine.nq
name_quick tw6135381517318000843 for PySem.W.builtinNamed by Mine.nq
name_quick tw9564595351457756722 for PySem.W.builtinNamed by Mine.nq
name_quick tw11420187438672877268 for PySem.W.builtinNamed by Mine.nq
name_quick tw15263041282635125899 for PySem.W.builtinNamed by Mine.nq
name_quick tw14884601019740666482 for PySem.W.builtinNamed by Mine.nq
name_quick tw11935384120112590319 for PySem.W.builtinNamed by Mine.nq
name_quick tw9236875199018929784 for PySem.W.builtinNamed by Mine.nq
name_quick tw9011979029575296479 for PySem.W.builtinNamed by Mine.nq
name_quick tw17394056326795013819 for PySem.W.builtinNamed by Mine.nq
name_quick tw9940486926017733643 for PySem.W.builtinNamed by Mine.nq
name_quick tw16874561944515371726 for PySem.W.builtinNamed by Mine.nq
name_quick tw1617757218408452269 for PySem.W.builtinNamed by Mine.nq
name_quick tw12660628722211587041 for PySem.W.builtinNamed by Mine.nq
name_quick tw5149714755402479525 for PySem.W.builtinNamed by Mine.nq
name_quick tw17765544955259793912 for PySem.W.builtinNamed by Mine.nq
name_quick tw15562837088269578035 for PySem.W.builtinNamed by Mine.nq
name_quick tw12290603225136948437 for PySem.W.builtinNamed by Mine.nq
name_quick tw5518745428033880147 for PySem.W.builtinNamed by Mine.nq
name_quick tw7198390536060210744 for PySem.W.builtinNamed by Mine.nq
name_quick tw14223099787259518943 for PySem.W.builtinNamed by Mine.nq
name_quick tw6012508502120743258 for PySem.W.builtinNamed by Mine.nq
name_quick tw11543547407058413889 for PySem.W.builtinNamed by Mine.nq
name_quick tw13642483538084851733 for PySem.W.builtinNamed by Mine.nq
name_quick tw3698559305507148144 for PySem.W.builtinNamed by Mine.nq
name_quick tw10470071008263537045 for PySem.W.builtinNamed by Mine.nq
name_quick tw2719445374943340272 for PySem.W.builtinNamed by Mine.nq
name_quick tw9908251947323293946 for PySem.W.builtinNamed by Mine.nq
name_quick tw14333388528381170442 for PySem.W.builtinNamed by Mine.nq
name_quick tw3105397867545767578 for PySem.W.builtinNamed by Mine.nq
name_quick tw14186486079044719983 for PySem.W.builtinNamed by Mine.nq
name_quick tw12813236842856870187 for PySem.W.builtinNamed by Mine.nq
name_quick tw10181792811725400092 for PySem.W.builtinNamed by Mine.nq
name_quick tw12392613427281201732 for PySem.W.builtinNamed by Mine.nq
name_quick tw16873187988247708562 for PySem.W.builtinNamed by Mine.nq
name_quick tw1320183511955256522 for PySem.W.builtinNamed by Mine.nq
name_quick tw12981051755390344553 for PySem.W.builtinNamed by Mine.nq
name_quick tw12233582284571471492 for PySem.W.builtinNamed by Mine.nq
name_quick tw5978237884098788730 for PySem.W.builtinNamed by Mine.nq
name_quick tw18273839248471157720 for PySem.W.builtinNamed by Mine.nq
name_quick tw14209830616999942402 for PySem.W.builtinNamed by Mine.nq
name_quick tw6993175162768986339 for PySem.W.builtinNamed by Mine.nq
name_quick tw12835720964997663042 for PySem.W.builtinNamed by Mine.nq
name_quick tw9265879793445154701 for PySem.W.builtinNamed by Mine.nq
name_quick tw15066959818950650227 for PySem.W.builtinNamed by Mine.nq
name_quick tw7650934615059315214 for PySem.W.builtinNamed by Mine.nq
name_quick tw1258717718454355964 for PySem.W.builtinNamed by Mine.nq
name_quick tw12393455550290869266 for PySem.W.builtinNamed by Mine.nq
name_quick tw4658958612460137192 for PySem.W.builtinNamed by Mine.nq
name_quick tw15468230090516036684 for PySem.W.builtinNamed by Mine.nq
name_quick tw15823609455315575823 for PySem.W.builtinNamed by Mine.nq
name_quick tw17018628822417861297 for PySem.W.builtinNamed by Mine.nq
name_quick tw12177639751122801600 for PySem.W.builtinNamed by Mine.nq
name_quick tw10670733350059645105 for PySem.W.builtinNamed by Mine.nq
name_quick tw16792545251062261874 for PySem.W.builtinNamed by Mine.nq
name_quick tw4575980220486274672 for PySem.W.builtinNamed by Mine.nq
name_quick tw3327986453032591115 for PySem.W.builtinNamed by Mine.nq
name_quick tw18126140380344562322 for PySem.W.builtinNamed by Mine.nq
name_quick tw11716543307763669751 for PySem.W.builtinNamed by Mine.nq
name_quick tw16292439048969090190 for PySem.W.builtinNamed by Mine.nq
name_quick tw17184956476505193735 for PySem.W.builtinNamed by Mine.nq
name_quick tw8999186272805695465 for PySem.W.builtinNamed by Mine.nq
name_quick tw17846936440860909165 for PySem.W.builtinNamed by Mine.nq
name_quick tw15475462885187679331 for PySem.W.builtinNamed by Mine.nq
name_quick tw2478078296215019888 for PySem.W.builtinNamed by Mine.nq
name_quick tw18211773271919218964 for PySem.W.builtinNamed by Mine.nq
name_quick tw558745408833754511 for PySem.W.builtinNamed by Mine.nq
name_quick tw11277716924127702174 for PySem.W.builtinNamed by Mine.nq
name_quick tw17000155066101142889 for PySem.W.builtinNamed by Mine.nq
name_quick tw7140130562030077042 for PySem.W.builtinNamed by Mine.nq
name_quick tw2315820567201803617 for PySem.W.builtinNamed by Mine.nq
name_quick tw4292500188555128830 for PySem.W.builtinNamed by Mine.nq
name_quick tw16758808235637498351 for PySem.W.builtinNamed by Mine.nq
name_quick tw16942504070071679284 for PySem.W.builtinNamed by Mine.nq
name_quick tw8206430501311747189 for PySem.W.builtinNamed by Mine.nq
name_quick tw15207642765257501584 for PySem.W.builtinNamed by Mine.nq
name_quick tw6245536207120538393 for PySem.W.builtinNamed by Mine.nq
name_quick tw15919542637913265678 for PySem.W.builtinNamed by Mine.nq
name_quick tw2922074901204462755 for PySem.W.builtinNamed by Mine.nq
name_quick tw11306939235166856333 for PySem.W.builtinNamed by Mine.nq
name_quick tw11328821685186248670 for PySem.W.builtinNamed by Mine.nq
name_quick tw6587116730350146372 for PySem.W.builtinNamed by Mine.nq
name_quick tw3282434896037501709 for PySem.W.builtinNamed by Mine.nq
name_quick tw17679261114430710190 for PySem.W.builtinNamed by Mine.nq
name_quick tw16145008321745377990 for PySem.W.builtinNamed by Mine.nq
name_quick tw7585139358526817783 for PySem.W.builtinNamed by Mine.nq
name_quick tw1189734492583310 for PySem.W.builtinNamed by Mine.nq
name_quick tw8987815912523675519 for PySem.W.builtinNamed by Mine.nq
name_quick tw5770868932273138760 for PySem.W.builtinNamed by Mine.nq
name_quick tw1377046205977697930 for PySem.W.builtinNamed by Mine.nq
name_quick tw6834602518627153040 for PySem.W.builtinNamed by Mine.nq
name_quick tw17279654841073493023 for PySem.W.builtinNamed by Mine.nq
name_quick tw9931943479562821362 for PySem.W.builtinNamed by Mine.nq
name_quick tw878741703135273975 for PySem.W.builtinNamed by Mine.nq
name_quick tw10317580896714288900 for PySem.W.builtinNamed by Mine.nq
name_quick tw3386650904741475044 for PySem.W.builtinNamed by Mine.nq
name_quick tw6090905460779295987 for PySem.W.builtinNamed by Mine.nq
name_quick tw16548257151911338427 for PySem.W.builtinNamed by Mine.nq
name_quick tw14214133299417103183 for PySem.W.builtinNamed by Mine.nq
name_quick tw10205541121877940668 for PySem.W.builtinNamed by Mine.nq
name_quick tw6004533443673955352 for PySem.W.builtinNamed by Mine.nq
name_quick tw2664551874359636763 for PySem.W.builtinNamed by Mine.nq
name_quick tw17111948838632640456 for PySem.W.builtinNamed by Mine.nq
name_quick tw15157221202141545114 for PySem.W.builtinNamed by Mine.nq
name_quick tw6589095468515690095 for PySem.W.builtinNamed by Mine.nq
name_quick tw6123655918767846522 for PySem.W.builtinNamed by Mine.nq
name_quick tw383695940523520267 for PySem.W.builtinNamed by Mine.nq
name_quick tw15711091083748647006 for PySem.W.builtinNamed by Mine.nq
name_quick tw2660918139993853925 for PySem.W.builtinNamed by Mine.nq
name_quick tw8224813933742928703 for PySem.W.builtinNamed by Mine.nq
name_quick tw10007627690174824804 for PySem.W.builtinNamed by Mine.nq
name_quick tw12825359941727978080 for PySem.W.builtinNamed by Mine.nq
name_quick tw7998005718110087594 for PySem.W.builtinNamed by Mine.nq
name_quick tw2370070277545300124 for PySem.W.builtinNamed by Mine.nq
name_quick tw1763209079605825380 for PySem.W.builtinNamed by Mine.nq
name_quick tw9285146279643344392 for PySem.W.builtinNamed by Mine.nq
name_quick tw460243522976405022 for PySem.W.builtinNamed by Mine.nq
name_quick tw16413963553889246368 for PySem.W.builtinNamed by Mine.nq
name_quick tw2670528217467546775 for PySem.W.builtinNamed by Mine.nq
name_quick tw1055568401681811165 for PySem.W.builtinNamed by Mine.nq
name_quick tw17993156020533580102 for PySem.W.builtinNamed by Mine.nq
name_quick tw17503288770812694035 for PySem.W.builtinNamed by Mine.nq
name_quick tw17497748084772794779 for PySem.W.builtinNamed by Mine.nq
name_quick tw4319705520415482375 for PySem.W.builtinNamed by Mine.nq
name_quick tw12647630874787467225 for PySem.W.builtinNamed by Mine.nq
name_quick tw12237943961548833269 for PySem.W.builtinNamed by Mine.nq
name_quick tw10942035263794033107 for PySem.W.builtinNamed by Mine.nq
name_quick tw12898947447245864913 for PySem.W.builtinNamed by Mine.nq
name_quick tw9676229304581654039 for PySem.W.builtinNamed by Mine.nq
name_quick tw11588390666370768167 for PySem.W.builtinNamed by Mine.nq
name_quick tw11853533878840232495 for PySem.W.builtinNamed by Mine.nq
name_quick tw3619232141914619222 for PySem.W.builtinNamed by Mine.nq
name_quick tw18123110421147349612 for PySem.W.builtinNamed by Mine.nq
name_quick tw6683783046931543321 for PySem.W.builtinNamed by Mine.nq
name_quick tw10379131730601215995 for PySem.W.builtinNamed by Mine.nq
name_quick tw2968979199505139716 for PySem.W.builtinNamed by Mine.nq
name_quick tw8704618095886561957 for PySem.W.builtinNamed by Mine.nq
name_quick tw8400853705098224536 for PySem.W.builtinNamed by Mine.nq
name_quick tw15766043655864335149 for PySem.W.builtinNamed by Mine.nq
name_quick tw1370275717833778536 for PySem.W.builtinNamed by Mine.nq
name_quick tw2718901123391026995 for PySem.W.builtinNamed by Mine.nq
name_quick tw7802139600951554647 for PySem.W.builtinNamed by Mine.nq
name_quick tw15007238320947547705 for PySem.W.builtinNamed by Mine.nq
name_quick tw18345786424863182364 for PySem.W.builtinNamed by Mine.nq
name_quick tw1085346719588807367 for PySem.W.builtinNamed by Mine.nq
name_quick tw7098571738820278039 for PySem.W.builtinNamed by Mine.nq
name_quick tw14112274594779413971 for PySem.W.builtinNamed by Mine.nq
name_quick tw16349216596472256690 for PySem.W.builtinNamed by Mine.nq
name_quick tw389472881494512206 for PySem.W.builtinNamed by Mine.nq
name_quick tw11790162104776037713 for PySem.W.builtinNamed by Mine.nq
name_quick tw5823794197072137003 for PySem.W.builtinNamed by Mine.nq
name_quick tw347637069881736656 for PySem.W.builtinNamed by Mine.nq
name_quick tw4302124980754421698 for PySem.W.builtinNamed by Mine.nq
name_quick tw11013792430000457035 for PySem.W.builtinNamed by Mine.nq
name_quick tw10314498396905981064 for PySem.W.builtinNamed by Mine.nq
name_quick tw18350638575300117064 for PySem.W.builtinNamed by Mine.nq
name_quick tw14326252917377295143 for PySem.W.builtinNamed by Mine.nq
name_quick tw17344680358763864322 for PySem.W.builtinNamed by Mine.nq
name_quick tw17100903815162463580 for PySem.W.builtinNamed by Mine.nq
name_quick tw7581816359482902497 for PySem.W.builtinNamed by Mine.nq
name_quick tw13251646731365433171 for PySem.W.builtinNamed by Mine.nq
name_quick tw10706342367453228570 for PySem.W.builtinNamed by Mine.nq
name_quick tw9594665118957945026 for PySem.W.builtinNamed by Mine.nq
name_quick tw4980102563643897964 for PySem.W.builtinNamed by Mine.nq
name_quick tw1631149150583789468 for PySem.W.builtinNamed by Mine.nq
name_quick tw7299951869573292228 for PySem.W.builtinNamed by Mine.nq
name_quick tw4679858250743294509 for PySem.W.builtinNamed by Mine.nq
name_quick tw13505292571300825877 for PySem.W.builtinNamed by Mine.nq
name_quick tw4405960384096086239 for PySem.W.builtinNamed by Mine.nq
name_quick tw17139780236743587250 for PySem.W.builtinNamed by Mine.nq
name_quick tw9396933662098498411 for PySem.W.builtinNamed by Mine.nq
name_quick tw5248340912204065574 for PySem.W.builtinNamed by Mine.nq
name_quick tw12850107946570832962 for PySem.W.builtinNamed by Mine.nq
name_quick tw6607189417530752870 for PySem.W.builtinNamed by Mine.nq
name_quick tw15663404670287596823 for PySem.W.builtinNamed by Mine.nq
name_quick tw7745614565497352828 for PySem.W.builtinNamed by Mine.nq
name_quick tw9674257727999782656 for PySem.W.builtinNamed by Mine.nq
name_quick tw117213463901210413 for PySem.W.builtinNamed by Mine.nq
name_quick tw10830438313532662564 for PySem.W.builtinNamed by Mine.nq
name_quick tw7483462131439158144 for PySem.W.builtinNamed by Mine.nq
name_quick tw5135500740108067664 for PySem.W.builtinNamed by Mine.nq
name_quick tw8450942572126056277 for PySem.W.builtinNamed by Mine.nq
name_quick tw10045867985992453528 for PySem.W.builtinNamed by Mine.nq
open_top hd for PySem.Challenge.rw_nn0332_01

set_option compiler.extract_closed false
set_option genInjectivity false
set_option genSizeOfSpec false
section
section
/-- the written part stands here, and the top's facts -/
structure Gd (w : World) (g : Heap) : Prop where
  K : (Mine.hd.heap_39 w.params).In g
  T : ∃ p loose mg mb, TopRead p loose mg mb g

theorem Gd.keeps {w : World} {g h : Heap} (G : Gd w g) (k : g.StaysIn h) : Gd w h :=
  ⟨G.K.keeps k, let ⟨p, l, a, b, T⟩ := G.T; ⟨p, l, a, b, T.keeps k⟩⟩

def KeepsBut (h h' : Heap) (mu : List Addr) : Prop := ∀ b o, h.get? b = some o → b ∉ mu → h'.get? b = some o
theorem KeepsBut.all {h h' : Heap} (k : KeepsBut h h' []) : h.StaysIn h' := fun b o e => k b o e (by simp)
theorem KeepsBut.of {h h' : Heap} (k : h.StaysIn h') {mu : List Addr} : KeepsBut h h' mu := fun b o e _ => k b o e

/-- a call of the def at f ends, keeps all but `mu`, and Post holds -/
def Spec (prog : Program) (w : World) (f : Addr) (args : List Value) (k : Nat) (s : Shared) (mu : List Addr) (Post : Value → Heap → Prop) : Prop :=
  ∀ (A : Around) (g : Heap) (R : Result → Shared → Prop), A.handled = none → A.depth + k < recursionLimit → A.units + 8 * k < cLine → Gd w g → g.StaysIn s.heap → (∀ a ∈ mu, g.get? a = none) →
    (∀ r h' tk', KeepsBut s.heap h' mu → Post r h' → R (.ok (.ret r)) { s with heap := h', toks := tk' }) → codeAny (model prog w) A (.call (.ref f) ⟨args, []⟩) R s

/-- a body's end -/
def Fin (s : Shared) (g : Heap) (L : Addr) (Post : Value → Heap → Prop) (fl : Flow) (s' : Shared) : Prop :=
  ∃ h' tk' m', s' = { s with heap := h', toks := tk' } ∧ Fr g L h' m' ∧ Post (match fl with | .ret v => v | _ => .none) h'

section
variable {prog : Program} {w : World} {f : Addr} {args : List Value} {k : Nat} {s : Shared} {mu : List Addr} {Post : Value → Heap → Prop}

theorem Spec.mono {k' : Nat} {Post' : Value → Heap → Prop} (sp : Spec prog w f args k s mu Post) (hk : k ≤ k') (hp : ∀ v h', KeepsBut s.heap h' mu → Post v h' → Post' v h') : Spec prog w f args k' s mu Post' :=
  fun A g R hh hd hu G hs hm q => sp A g R hh (by omega) (by omega) G hs hm fun r h' tk' kb p => q r h' tk' kb (hp r h' kb p)

theorem spec_def {name qual : Str} {params : Arguments} {body : List Stmt} {scope : Scope} {dV kV doc pm cdv ct oc : Value} {an od : Option Addr} {osl : Array (Option Value)} {binds : List (Str × Value)}
    (ho : (Mine.hd.heap_39 w.params).lookup f = some ⟨oc, od, .func (fnOf name qual params body scope dV kV doc pm an cdv ct), osl⟩) (hcd : codeIn (Mine.hd.heap_39 w.params) cdv qual = true)
    (hbind : (Mine.hd.heap_39 w.params).In s.heap → BindsTo s (fnOf name qual params body scope dV kV doc pm an cdv ct) ⟨args, []⟩ binds) (hloc : (binds.all fun x => decide (scope.names.lookup x.1 = some .local)) = true)
    (hmut : ∀ a ∈ mu, a < s.heap.objs.size)
    (h : ∀ (A : Around) g L h₁, A.handled = none → A.depth + k < recursionLimit → A.units + 8 * k < cLine → Gd w g → Fr g L h₁ (fun y => binds.reverse.lookup y) →
      KeepsBut s.heap g mu → (∀ a ∈ mu, a ≠ L ∧ g.get? a = none ∧ ∀ o, s.heap.get? a = some o → h₁.get? a = some o) →
      wpAny (model prog w) A (execs body (envOf qual scope L f cdv)) (Fin s g L Post) (fun _ _ => False) { s with heap := h₁, toks := s.toks + binds.length })
    (hco : scope.isCoroutine = false := by rfl) (hgen : scope.isGenerator = false := by rfl) (hk : scope.kind = .function := by rfl) (hcell : ∀ x ∈ scope.names, x.2 ≠ .cell := by decide) :
    Spec prog w f args (k + 1) s mu Post := by
  intro A g R hh hd hu G hst hm hq
  have nm : ∀ b o, g.get? b = some o → b ∉ mu := fun b o e q => by rw [hm b q] at e; cases e
  have st : g.StaysIn (hideAll s.heap mu) := fun b o e => hideAll_get _ (hst b o e) (nm b o e)
  have GS : Gd w s.heap := G.keeps hst
  obtain ⟨p, loose, mg, mb, T⟩ := GS.T
  refine codeAny_call_def (fd := fnOf name qual params body scope dV kV doc pm an cdv ct) (body := body) (binds := binds) (by omega) (GS.K _ _ ho) rfl T.nolimit (codeRec_of GS.K hcd) rfl (hbind GS.K) hcell (locs hloc) (fun h₁ hns hk₁ => ?_) hco hgen hk
  have F₁ : Fr (hideAll s.heap mu) s.heap.objs.size h₁ (fun y => binds.reverse.lookup y) := ⟨hns, fun b o e => hk₁ b o (of_hideAll _ e), Nat.le_of_eq (hideAll_size _ _)⟩
  refine wpAny_mono (h (A.deeper (envOf qual scope s.heap.objs.size f cdv)) (hideAll s.heap mu) s.heap.objs.size h₁ hh (by show A.depth + 1 + k < _; omega) (by show A.units + 3 + 8 * k < _; omega) (G.keeps st) F₁
    (fun b o e n => hideAll_get _ e n) (fun a ha => ⟨Nat.ne_of_lt (hmut a ha), hideAll_none _ ha, fun o e => hk₁ _ _ e⟩)) (fun fl s' hl => ?_) fun _ _ x => x.elim
  obtain ⟨h', tk', m', rfl, F', P⟩ := hl
  cases fl <;> exact hq _ h' tk' (fun b o e n => F'.keep b o (hideAll_get _ e n)) P
end

end
section
/-- the state: the same world, heap h, tk tokens handed out -/
abbrev At (s : Shared) (h : Heap) (tk : Nat) : Shared := { s with heap := h, toks := tk }
/-- a frame's names -/
def lk (l : List (Str × Value)) : Str → Option Value := fun y => l.lookup y
theorem lk_cons (x : Str) (v : Value) (l : List (Str × Value)) : (fun y => if y = x then some v else lk l y) = lk ((x, v) :: l) := by
  funext y
  show _ = List.lookup y ((x, v) :: l)
  rw [List.lookup_cons]
  by_cases h : y = x
  · rw [if_pos h, beq_iff_eq.mpr h]
  · rw [if_neg h, beq_eq_false_iff_ne.mpr h]; rfl

theorem dlt {a k m : Nat} (h : a + k < recursionLimit) (e : m ≤ k := by first | decide | omega) : a + m < recursionLimit := Nat.lt_of_le_of_lt (Nat.add_le_add_left e a) h
theorem ult {a k m : Nat} (h : a + 8 * k < cLine) (e : m ≤ k := by first | decide | omega) : a + 8 * m < cLine := Nat.lt_of_le_of_lt (Nat.add_le_add_left (Nat.mul_le_mul_left 8 e) a) h
def EV (name : Str) (scope : Scope) (L : Addr) (fn fr : Option Addr) (cd : Value) (cl : List (Str × Addr)) : Env :=
  { scope := scope, locals := L, globals := mainGlobals, cells := cl, qual := name, func := fn, code := cd, frame := fr, builtins := builtinsNs }

def Kont (M : Model) (A : Around) (env : Env) (rest : List Stmt) (Q : Flow → Shared → Prop) (E : Value → Shared → Prop) (fl : Flow) (s' : Shared) : Prop :=
  match fl with | .next => wpAny M A (execs rest env) Q E s' | f => Q f s'

/-- a tuple: no one turns it -/
def isT (o : Obj) : Bool := match o.data with | .seq _ _ => o.cls == .type "tuple" | _ => false
/-- the addresses of the objects of a bag that may be turned -/
def muts : List (Addr × Obj) → List Addr
  | [] => []
  | p :: r => if isT p.2 then muts r else p.1 :: muts r
theorem muts_mem {b : List (Addr × Obj)} {a : Addr} : a ∈ muts b ↔ ∃ p ∈ b, isT p.2 = false ∧ p.1 = a := by
  induction b with
  | nil => simp [muts]
  | cons p r ih =>
    unfold muts
    cases h : isT p.2 with
    | true => simp [ih, h]
    | false =>
      simp only [Bool.false_eq_true, if_false, List.mem_cons, ih]
      constructor
      · rintro (rfl | ⟨q, hq, e⟩)
        · exact ⟨p, .inl rfl, h, rfl⟩
        · exact ⟨q, .inr hq, e⟩
      · rintro ⟨q, (rfl | hq), e⟩
        · exact .inl e.2.symm
        · exact .inr ⟨q, hq, e⟩
/-- a frame: the names known of it, and objects known beside it: the call's own, and tuples -/
structure Fm (g : Heap) (L : Addr) (h : Heap) (l : List (Str × Value)) (bag : List (Addr × Obj)) : Prop where
  fr : ∃ m, Fr g L h m ∧ ∀ x v, lk l x = some v → m x = some v
  bg : ∀ p ∈ bag, h.get? p.1 = some p.2 ∧ (isT p.2 = false → p.1 ≠ L ∧ g.get? p.1 = none)
  nd : (muts bag).Nodup

/-- one taken out of the bag -/
inductive Pick (p : Addr × Obj) : List (Addr × Obj) → List (Addr × Obj) → Prop
  | here {r} : Pick p (p :: r) r
  | there {q r r'} : Pick p r r' → Pick p (q :: r) (q :: r')
/-- some taken out of the bag, in any order -/
inductive Sel : List (Addr × Obj) → List (Addr × Obj) → Prop
  | refl {b} : Sel b b
  | nil {b} : Sel [] b
  | cons {p s b r} : Pick p b r → Sel s r → Sel (p :: s) b
  | drop {q s r} : Sel s r → Sel s (q :: r)
theorem muts_cons {p : Addr × Obj} {r : List (Addr × Obj)} : (muts (p :: r)).Nodup ↔ (muts r).Nodup ∧ (isT p.2 = false → ∀ q ∈ r, isT q.2 = false → q.1 ≠ p.1) := by
  rw [muts]
  cases h : isT p.2 with
  | true => simp
  | false =>
    simp only [Bool.false_eq_true, if_false, List.nodup_cons]
    constructor
    · rintro ⟨a, b⟩
      exact ⟨b, fun _ q hq e w => a (muts_mem.mpr ⟨q, hq, e, w⟩)⟩
    · rintro ⟨a, b⟩
      refine ⟨fun hm => ?_, a⟩
      obtain ⟨q, hq, e, w⟩ := muts_mem.mp hm
      exact b trivial q hq e w
theorem Pick.out {p : Addr × Obj} {b r : List (Addr × Obj)} (P : Pick p b r) : p ∈ b ∧ (∀ q ∈ r, q ∈ b) ∧ ((muts b).Nodup → (isT p.2 = false → ∀ q ∈ r, isT q.2 = false → q.1 ≠ p.1) ∧ (muts r).Nodup) := by
  induction P with
  | here => exact ⟨.head _, fun q hq => .tail _ hq, fun n => ⟨(muts_cons.mp n).2, (muts_cons.mp n).1⟩⟩
  | there P ih =>
    obtain ⟨a, b, c⟩ := ih
    refine ⟨.tail _ a, fun q hq => ?_, fun n => ?_⟩
    · cases hq with
      | head => exact .head _
      | tail _ hq => exact .tail _ (b q hq)
    · obtain ⟨n1, n2⟩ := muts_cons.mp n
      obtain ⟨c1, c2⟩ := c n1
      refine ⟨fun hp q hq => ?_, muts_cons.mpr ⟨c2, fun hq x hx => n2 hq x (b x hx)⟩⟩
      cases hq with
      | head => exact fun hq e => n2 hq _ a hp e.symm
      | tail _ hq => exact c1 hp q hq
theorem Sel.out {s b : List (Addr × Obj)} (S : Sel s b) : (∀ q ∈ s, q ∈ b) ∧ ((muts b).Nodup → (muts s).Nodup) := by
  induction S with
  | refl => exact ⟨fun _ h => h, fun n => n⟩
  | nil => exact ⟨fun _ h => (nomatch h), fun _ => .nil⟩
  | drop _ ih => exact ⟨fun q hq => .tail _ (ih.1 q hq), fun n => ih.2 (muts_cons.mp n).1⟩
  | cons P _ ih =>
    obtain ⟨a, b, c⟩ := P.out
    refine ⟨fun q hq => ?_, fun n => muts_cons.mpr ⟨ih.2 (c n).2, fun hp q hq => (c n).1 hp q (ih.1 q hq)⟩⟩
    cases hq with
    | head => exact a
    | tail _ hq => exact b q (ih.1 q hq)

/-- these names are known -/
inductive Lks (l : List (Str × Value)) : List (Str × Value) → Prop
  | nil : Lks l []
  | cons {x v r} : lk l x = some v → Lks l r → Lks l ((x, v) :: r)
theorem Lks.all {l r : List (Str × Value)} (S : Lks l r) : ∀ p ∈ r, lk l p.1 = some p.2 := by
  induction S with
  | nil => exact fun _ h => (nomatch h)
  | cons e _ ih =>
      intro p hp
      cases hp with
      | head => exact e
      | tail _ hp => exact ih p hp

section
variable {g h h' : Heap} {L : Addr} {l : List (Str × Value)} {bag bag' : List (Addr × Obj)}
theorem lk_here {x : Str} {v : Value} {l : List (Str × Value)} : lk ((x, v) :: l) x = some v := by simp [lk]
theorem lk_there {x y : Str} {v u : Value} {l : List (Str × Value)} (hn : (x == y) = false) (q : lk l x = some v) : lk ((y, u) :: l) x = some v := by
  show List.lookup x ((y, u) :: l) = _
  rw [List.lookup_cons, hn]; exact q
theorem lk_mem {x : Str} {v : Value} : ∀ {l : List (Str × Value)}, lk l x = some v → (x, v) ∈ l
  | (y, u) :: r, e => by
    have e : List.lookup x ((y, u) :: r) = some v := e
    rw [List.lookup_cons] at e
    cases hb : (x == y) with
    | true => rw [hb] at e; cases e; rw [beq_iff_eq.mp hb]; exact .head _
    | false => rw [hb] at e; exact .tail _ (lk_mem (l := r) e)
theorem Fm.keep (F : Fm g L h l bag) : g.StaysIn h := let ⟨_, F, _⟩ := F.fr; F.keep
theorem KeepsBut.stay {s₀ : Heap} (kb : KeepsBut s₀ g []) (F : Fm g L h l bag) : s₀.StaysIn h := fun b o e => F.keep b o (kb.all b o e)
theorem Fm.here (F : Fm g L h l bag) : ∃ o, h.get? L = some o := let ⟨_, F, _⟩ := F.fr; let ⟨o, _, _, e, _⟩ := F.ns; ⟨o, e⟩
theorem Fm.new (F : Fm g L h l bag) {a : Addr} (e : h.get? a = none) : a ≠ L := fun q => by
  obtain ⟨o, ho⟩ := F.here; rw [q, ho] at e; cases e
theorem Fm.lt (F : Fm g L h l bag) : g.objs.size ≤ L := let ⟨_, F, _⟩ := F.fr; F.above
theorem Fm.fresh (F : Fm g L h l bag) {a : Addr} (e : h.get? a = none) : g.get? a = none := by
  cases q : g.get? a with
  | none => rfl
  | some o => rw [F.keep a o q] at e; cases e
theorem Fm.old (F : Fm g L h l bag) : g.get? L = none := by
  cases q : g.get? L with
  | none => rfl
  | some o => exact absurd (Heap.lt_size q) (Nat.not_lt.mpr F.lt)
theorem Fm.grow (F : Fm g L h l bag) (k : h.StaysIn h') : Fm g L h' l bag :=
  ⟨let ⟨m, F, e⟩ := F.fr; ⟨m, F.keeps k, e⟩, fun p hp => ⟨k _ _ (F.bg p hp).1, (F.bg p hp).2⟩, F.nd⟩
theorem Fm.has (F : Fm g L h l bag) {a : Addr} {o : Obj} (hm : (a, o) ∈ bag) : h.get? a = some o := (F.bg _ hm).1
theorem Fm.ne (F : Fm g L h l bag) {a b : Addr} {o : Obj} (hm : (a, o) ∈ bag) (e : h.get? b = none) : b ≠ a := fun q => by rw [q, F.has hm] at e; cases e
theorem Fm.add (F : Fm g L h l bag) {a : Addr} {o : Obj} (e : h.get? a = some o) (n : isT o = false → a ≠ L ∧ g.get? a = none ∧ ∀ q ∈ bag, isT q.2 = false → q.1 ≠ a) : Fm g L h l ((a, o) :: bag) :=
  ⟨F.fr, fun p hp => by rcases List.mem_cons.mp hp with rfl | hp; exact ⟨e, fun z => ⟨(n z).1, (n z).2.1⟩⟩; exact F.bg p hp, muts_cons.mpr ⟨F.nd, fun z => (n z).2.2⟩⟩
/-- a tuple, wherever it was made -/
theorem Fm.addT (F : Fm g L h l bag) {a : Addr} {o : Obj} (e : h.get? a = some o) (t : isT o = true) : Fm g L h l ((a, o) :: bag) := F.add e fun z => by rw [t] at z; cases z
theorem Fm.tail {p : Addr × Obj} (F : Fm g L h l (p :: bag)) : Fm g L h l bag := ⟨F.fr, fun q hq => F.bg q (.tail _ hq), (muts_cons.mp F.nd).1⟩
/-- a new object -/
theorem Fm.more (F : Fm g L h l bag) {a : Addr} {o : Obj} (k : h.StaysIn h') (e0 : h.get? a = none) (e : h'.get? a = some o) : Fm g L h' l ((a, o) :: bag) :=
  (F.grow k).add e fun _ => ⟨F.new e0, F.fresh e0, fun _ hq _ w => F.ne hq e0 w.symm⟩
theorem Fm.push (F : Fm g L h l bag) (o : Obj) (hf : o.isFreed = false := by rfl) : Fm g L (h.push o) l ((h.objs.size, o) :: bag) :=
  F.more (fun _ _ e => Heap.get?_push_of_some _ e) (Heap.get?_none_of_le (Nat.le_refl _)) (Heap.get?_push_size _ hf)
theorem Fm.sub (F : Fm g L h l bag) (l' : List (Str × Value)) (bag' : List (Addr × Obj)) (hl : Lks l l') (hb : Sel bag' bag) : Fm g L h l' bag' :=
  ⟨let ⟨m, F, e⟩ := F.fr; ⟨m, F, fun _ _ q => e _ _ (hl.all _ (lk_mem q))⟩, fun p hp => F.bg p (hb.out.1 p hp), hb.out.2 F.nd⟩
theorem Fm.subb (F : Fm g L h l bag) (bag' : List (Addr × Obj)) (hb : Sel bag' bag) : Fm g L h l bag' := ⟨F.fr, fun p hp => F.bg p (hb.out.1 p hp), hb.out.2 F.nd⟩
/-- what a change of `mu` alone leaves -/
theorem Fm.but (F : Fm g L h l bag) {mu : List Addr} (kb : KeepsBut h h' mu) (hm : ∀ a ∈ mu, g.get? a = none ∧ a ≠ L) (hb : ∀ p ∈ bag, p.1 ∉ mu) : Fm g L h' l bag := by
  obtain ⟨m, F', e⟩ := F.fr
  refine ⟨⟨m, ?_, e⟩, fun p hp => ⟨kb _ _ (F.bg p hp).1 (hb p hp), (F.bg p hp).2⟩, F.nd⟩
  obtain ⟨o, es, ep, ho, r⟩ := F'.ns
  exact ⟨⟨o, es, ep, kb L o ho fun q => (hm L q).2 rfl, r⟩, fun b o e => kb b o (F'.keep b o e) fun q => (by rw [(hm b q).1] at e; cases e), F'.above⟩
/-- one object of the bag turned -/
theorem Fm.set (F : Fm g L h l bag) {a : Addr} {o o' : Obj} (P : Pick (a, o) bag bag') (kb : KeepsBut h h' [a]) (e : h'.get? a = some o') (z : isT o = false) : Fm g L h' l ((a, o') :: bag') := by
  obtain ⟨p1, p2, p3⟩ := P.out
  have F1 : Fm g L h l bag' := ⟨F.fr, fun p hp => F.bg p (p2 p hp), (p3 F.nd).2⟩
  have f := F.bg _ p1
  have off : ∀ p ∈ bag', p.1 ≠ a := fun p hp q => by
    cases hT : isT p.2 with
    | false => exact (p3 F.nd).1 z p hp hT q
    | true =>
      have := (F1.bg p hp).1
      rw [q, f.1] at this
      have := Option.some.inj this
      dsimp only at this
      rw [this, hT] at z; cases z
  exact (F1.but kb (fun b hb => by rw [List.mem_singleton.mp hb]; exact ⟨(f.2 z).2, (f.2 z).1⟩) fun p hp q => off p hp (List.mem_singleton.mp q)).add e fun _ => ⟨(f.2 z).1, (f.2 z).2, fun q hq _ => off q hq⟩
theorem KeepsBut.same {a : Addr} (hs : Heap.SameBut a h h') : KeepsBut h h' [a] := fun b o e q => (hs.2 b fun w => q (by rw [w]; exact .head _)).trans e
end

def nth {α : Type} : List α → Nat → Option α
  | [], _ => none
  | a :: _, 0 => some a
  | _ :: r, n + 1 => nth r n
theorem seqIndex_of {k : Int} {n : Nat} (h0 : 0 ≤ k) (h1 : k.toNat < n) : seqIndex? k n = some k.toNat := by
  unfold seqIndex?
  have e : (if k < 0 then k + (n : Int) else k) = k := if_neg (by omega)
  simp only [e]
  rw [if_pos (by simp; omega)]
theorem nth_get {α : Type} {x : α} : ∀ (l : List α) (n : Nat), nth l n = some x → l[n]? = some x
  | _ :: _, 0, e => by simpa [nth] using e
  | _ :: r, n + 1, e => by simpa using nth_get r n e

section
variable {M : Model} {prog : Program} {w : World} {A : Around} {E : Value → Shared → Prop} {s : Shared} {h g : Heap} {tk : Nat} {L : Addr} {fn fr : Option Addr} {l : List (Str × Value)} {bag bag' : List (Addr × Obj)} {name : Str} {scope : Scope} {cd : Value} {cl : List (Str × Addr)} {env : Env}

-- ends and statements
theorem k_ret {rest : List Stmt} {Q : Flow → Shared → Prop} {v : Value} {s' : Shared} (q : Q (.ret v) s') : Kont M A env rest Q E (.ret v) s' := q
theorem k_next {rest : List Stmt} {Q : Flow → Shared → Prop} {s' : Shared} (q : wpAny M A (execs rest env) Q E s') : Kont M A env rest Q E .next s' := q
theorem k_cont {rest : List Stmt} {Q : Flow → Shared → Prop} {s' : Shared} (q : Q .cont s') : Kont M A env rest Q E .cont s' := q
theorem k_brk {rest : List Stmt} {Q : Flow → Shared → Prop} {s' : Shared} (q : Q .brk s') : Kont M A env rest Q E .brk s' := q
theorem s_nil {Q : Flow → Shared → Prop} {s : Shared} (q : Q .next s) : wpAny M A (execs [] env) Q E s := wpAny_execs_nil q
theorem s_cons {st : Stmt} {rest : List Stmt} {Q : Flow → Shared → Prop} {s : Shared} (q : wpAny M A (exec st env) (Kont M A env rest Q E) E s) : wpAny M A (execs (st :: rest) env) Q E s := wpAny_execs_cons q
theorem s_ret {e : Expr} {pos : Pos} {rest : List Stmt} {Q : Flow → Shared → Prop} {s : Shared} (q : wpAny M A (eval e env) (fun v s' => Q (.ret v) s') E s) : wpAny M A (execs (.Return (some e) pos :: rest) env) Q E s :=
  wpAny_execs_cons (wpAny_Return_some q)
theorem s_assign {x : Str} {p pos : Pos} {e : Expr} {rest : List Stmt} {Q : Flow → Shared → Prop} {s : Shared}
    (q : wpAny M A (eval e env) (fun v s₁ => wpAny M A (storeName env x v) (fun _ s₂ => wpAny M A (execs rest env) Q E s₂) E s₁) E s)
    (hs : swapsWith e (some (.Name x p)) pos.line env = pure false := by kernel_rfl!) : wpAny M A (execs (.Assign [.Name x p] e pos :: rest) env) Q E s :=
  wpAny_execs_cons (wpAny_Assign_Name q hs)
theorem s_aug {x : Str} {p pos : Pos} {op : Operator} {e : Expr} {rest : List Stmt} {Q : Flow → Shared → Prop} {s : Shared}
    (q : wpAny M A (loadName env x) (fun old s₁ => wpAny M A (eval e env) (fun v s₂ => wpAny M A (inplaceOp op old v)
      (fun r s₃ => wpAny M A (storeName env x r) (fun _ s₄ => wpAny M A (execs rest env) Q E s₄) E s₃) E s₂) E s₁) E s) : wpAny M A (execs (.AugAssign (.Name x p) op e pos :: rest) env) Q E s :=
  wpAny_execs_cons (wpAny_AugAssign_Name q)
theorem s_if {test : Expr} {body orelse : List Stmt} {pos : Pos} {rest : List Stmt} {Q : Flow → Shared → Prop} {s : Shared}
    (q : wpAny M A (isTrue test env (eval test env)) (fun b s₂ => if b = true then wpAny M A (execs body env) (Kont M A env rest Q E) E s₂ else wpAny M A (execs orelse env) (Kont M A env rest Q E) E s₂) E s) :
    wpAny M A (execs (.If test body orelse pos :: rest) env) Q E s := wpAny_execs_cons (wpAny_If q)
theorem i_true {P R : Prop} (q : P) : if true = true then P else R := by rw [if_pos rfl]; exact q
theorem i_false {P R : Prop} (q : R) : if false = true then P else R := by rw [if_neg (by decide)]; exact q
theorem i_notf {P R : Prop} (q : P) : if (!false) = true then P else R := q
theorem i_nott {P R : Prop} (q : R) : if (!true) = true then P else R := q
theorem i_dec {c : Prop} [Decidable c] {P R : Prop} (hT : c → P) (hF : ¬ c → R) : if decide c = true then P else R := split_dec hT hF
theorem i_ndec {c : Prop} [Decidable c] {P R : Prop} (hT : ¬ c → P) (hF : c → R) : if (!decide c) = true then P else R := by
  by_cases h : c
  · rw [if_neg (by simp [h])]; exact hF h
  · rw [if_pos (by simp [h])]; exact hT h
theorem i_bool {b : Bool} {P R : Prop} (hT : b = true → P) (hF : b = false → R) : if b = true then P else R := split_bool hT hF
theorem i_pos {c : Prop} [Decidable c] {P R : Prop} (hc : c) (q : P) : if decide c = true then P else R := by rw [if_pos (decide_eq_true hc)]; exact q
theorem i_neg {c : Prop} [Decidable c] {P R : Prop} (hc : ¬ c) (q : R) : if decide c = true then P else R := by rw [if_neg (by simpa using hc)]; exact q

-- names
theorem e_loc {x : Str} {pos : Pos} {v : Value} {Q : Value → Shared → Prop} (hx : scope.names.lookup x = some .local) (F : Fm g L h l bag) (hv : lk l x = some v) (q : Q v (At s h tk))
    (hk : scope.kind = .function := by kernel_rfl!) (hd : (x == ("__debug__" : Str)) = false := by kernel_rfl!) :
    wpAny M A (eval (.Name x pos) (EV name scope L fn fr cd cl)) Q E (At s h tk) := let ⟨_, F, e⟩ := F.fr; wpAny_Name (wpAny_loadName_local (env := EV name scope L fn fr cd cl) (s := At s h tk) hk hx F.ns (e _ _ hv) q) hd
theorem e_lod {x : Str} {v : Value} {Q : Value → Shared → Prop} (hx : scope.names.lookup x = some .local) (F : Fm g L h l bag) (hv : lk l x = some v) (q : Q v (At s h tk))
    (hk : scope.kind = .function := by kernel_rfl!) :
    wpAny M A (loadName (EV name scope L fn fr cd cl) x) Q E (At s h tk) := let ⟨_, F, e⟩ := F.fr; wpAny_loadName_local (env := EV name scope L fn fr cd cl) (s := At s h tk) hk hx F.ns (e _ _ hv) q
theorem e_glob {x : Str} {pos : Pos} {v : Value} {Q : Value → Shared → Prop} (hx : scope.names.lookup x = some .globalImplicit) (G : Gd w g) (F : Fm g L h l bag) (hv : nsIn (Mine.hd.heap_39 w.params) mainGlobals x = some (some v)) (q : Q v (At s h tk))
    (hk : scope.kind = .function := by kernel_rfl!) (hd : (x == ("__debug__" : Str)) = false := by kernel_rfl!) :
    wpAny M A (eval (.Name x pos) (EV name scope L fn fr cd cl)) Q E (At s h tk) := by
  obtain ⟨p, loose, mg, mb, T⟩ := G.T
  obtain ⟨m, F, _⟩ := F.fr
  exact Name_function_global hk hx (loadGlobal_global (env := EV name scope L fn fr cd cl) (s := At s h tk) (T.g.keeps F.keep) (mg_of G.K T.g hv) q) hd
theorem e_bltn {x : Str} {pos : Pos} {v : Value} {Q : Value → Shared → Prop} (hx : scope.names.lookup x = some .globalImplicit) (G : Gd w g) (F : Fm g L h l bag) (hn : nsIn (Mine.hd.heap_39 w.params) mainGlobals x = some none) (hv : bootBuiltins x = some v) (q : Q v (At s h tk))
    (hne : (x == ("__name__" : Str)) = false := by kernel_rfl!)
    (hk : scope.kind = .function := by kernel_rfl!) (hd : (x == ("__debug__" : Str)) = false := by kernel_rfl!) :
    wpAny M A (eval (.Name x pos) (EV name scope L fn fr cd cl)) Q E (At s h tk) := by
  obtain ⟨p, loose, mg, mb, T⟩ := G.T
  obtain ⟨m, F, _⟩ := F.fr
  exact Name_function_global hk hx (loadGlobal_builtin (env := EV name scope L fn fr cd cl) (s := At s h tk) (T.g.keeps F.keep) (mg_none_of G.K T.g hn) (T.b.keeps F.keep) ((T.builtins x (by intro e; rw [e] at hne; simp at hne)).trans hv) q) hd
theorem e_store {x : Str} {v : Value} {Q : Unit → Shared → Prop} (hx : scope.names.lookup x = some .local) (F : Fm g L h l bag)
    (q : ∀ h' tk', Fm g L h' ((x, v) :: l) bag → Q () (At s h' tk'))
    (hk : scope.kind = .function := by kernel_rfl!) : wpAny M A (storeName (EV name scope L fn fr cd cl) x v) Q E (At s h tk) := by
  obtain ⟨m, F', e⟩ := F.fr
  have off : ∀ p ∈ bag, p.1 ≠ L := fun p hp w => by
    cases hT : isT p.2 with
    | false => exact ((F.bg p hp).2 hT).1 w
    | true =>
      obtain ⟨o, es, ep, ho, hd, _⟩ := F'.ns
      have := (F.bg p hp).1
      rw [w, ho] at this
      rw [← Option.some.inj this] at hT
      unfold isT at hT
      rw [hd] at hT; cases hT
  refine wpAny_storeName_local (env := EV name scope L fn fr cd cl) (s := At s h tk) hx F'.ns (fun h' hn hs => q h' (tk + 1) ⟨⟨_, F'.set hn hs, fun y u q => ?_⟩, fun p hp => ⟨(hs.2 p.1 (off p hp)).trans (F.bg p hp).1, (F.bg p hp).2⟩, F.nd⟩) (by show (scope.kind == .class || (scope.kind == .module && L != mainGlobals)) = false; rw [hk]; rfl)
  show (if y = x then some v else m y) = some u
  rw [← lk_cons] at q
  dsimp only at q
  by_cases hy : y = x
  · rw [if_pos hy] at q ⊢; exact q
  · rw [if_neg hy] at q ⊢; exact e _ _ q

-- constants
theorem e_int {i : Int} {k : Nat} {pos : Pos} {Q : Value → Shared → Prop} (q : ∀ t tk', Q (.int i t) (At s h tk')) : wpAny M A (eval (.Constant (.int i) k pos) env) Q E (At s h tk) := wpAny_Constant_int (q _ _)
theorem e_str {x : Str} {k : Nat} {pos : Pos} {Q : Value → Shared → Prop} (q : ∀ t tk', Q (.str x t) (At s h tk')) : wpAny M A (eval (.Constant (.str x) k pos) env) Q E (At s h tk) := wpAny_Constant_str (q _ _)
theorem e_none {k : Nat} {pos : Pos} {Q : Value → Shared → Prop} (q : Q .none (At s h tk)) : wpAny M A (eval (.Constant .none k pos) env) Q E (At s h tk) := wpAny_Constant_none q
theorem e_bool {b : Bool} {k : Nat} {pos : Pos} {Q : Value → Shared → Prop} (q : Q (.bool b) (At s h tk)) : wpAny M A (eval (.Constant (.bool b) k pos) env) Q E (At s h tk) := wpAny_Constant_bool q

-- operators
theorem o_add {x y : Int} {t u : Tok} {Q : Value → Shared → Prop} (q : ∀ t tk', Q (.int (x + y) t) (At s h tk')) : wpAny (model prog w) A (binaryOp .Add (.int x t) (.int y u)) Q E (At s h tk) := by
  with_reducible refine add_int ?_
  exact q _ _
theorem o_sub {x y : Int} {t u : Tok} {Q : Value → Shared → Prop} (q : ∀ t tk', Q (.int (x - y) t) (At s h tk')) : wpAny (model prog w) A (binaryOp .Sub (.int x t) (.int y u)) Q E (At s h tk) := by
  with_reducible refine sub_int ?_
  exact q _ _
theorem o_mul {x y : Int} {t u : Tok} {Q : Value → Shared → Prop} (hm : IntMulOk x y) (q : ∀ t tk', Q (.int (x * y) t) (At s h tk')) : wpAny (model prog w) A (binaryOp .Mult (.int x t) (.int y u)) Q E (At s h tk) := by
  with_reducible refine mul_int ?_ hm
  exact q _ _
theorem o_mod {x y : Int} {t u : Tok} {Q : Value → Shared → Prop} (hy : 0 < y) (q : ∀ t tk', Q (.int (x % y) t) (At s h tk')) : wpAny (model prog w) A (binaryOp .Mod (.int x t) (.int y u)) Q E (At s h tk) := by
  have hy' : y ≠ 0 := by omega
  with_reducible refine mod_int' hy' ?_
  rw [Int.fmod_eq_emod_of_nonneg _ (by omega)]; exact q _ _
theorem o_and {x y : Int} {t u : Tok} {Q : Value → Shared → Prop} (q : ∀ t tk', Q (.int (Builtin.bitAnd x y) t) (At s h tk')) : wpAny (model prog w) A (binaryOp .BitAnd (.int x t) (.int y u)) Q E (At s h tk) := by
  with_reducible refine and_int ?_
  exact q _ _
theorem o_or {x y : Int} {t u : Tok} {Q : Value → Shared → Prop} (q : ∀ t tk', Q (.int (Builtin.bitOr x y) t) (At s h tk')) : wpAny (model prog w) A (binaryOp .BitOr (.int x t) (.int y u)) Q E (At s h tk) := by
  with_reducible refine or_int ?_
  exact q _ _
theorem o_xor {x y : Int} {t u : Tok} {Q : Value → Shared → Prop} (q : ∀ t tk', Q (.int (Builtin.bitXor x y) t) (At s h tk')) : wpAny (model prog w) A (binaryOp .BitXor (.int x t) (.int y u)) Q E (At s h tk) := by
  with_reducible refine xor_int ?_
  exact q _ _
theorem o_shl {x y : Int} {t u : Tok} {Q : Value → Shared → Prop} (hn : 0 ≤ y) (hsz : (Builtin.Int.intBits x : Int) + y ≤ 2 ^ 27) (q : ∀ t tk', Q (.int (x * 2 ^ y.toNat) t) (At s h tk')) : wpAny (model prog w) A (binaryOp .LShift (.int x t) (.int y u)) Q E (At s h tk) := by
  with_reducible refine lshift_int hn hsz ?_
  exact q _ _
theorem o_shr {x y : Int} {t u : Tok} {Q : Value → Shared → Prop} (hn : 0 ≤ y) (q : ∀ t tk', Q (.int (x / 2 ^ y.toNat) t) (At s h tk')) : wpAny (model prog w) A (binaryOp .RShift (.int x t) (.int y u)) Q E (At s h tk) := by
  with_reducible refine rshift_int hn ?_
  rw [Int.fdiv_eq_ediv_of_nonneg _ (Int.le_of_lt (Int.pow_pos (by decide)))]; exact q _ _
theorem o_neg {x : Int} {t : Tok} {Q : Value → Shared → Prop} (q : ∀ t tk', Q (.int (-x) t) (At s h tk')) : wpAny (model prog w) A (unaryOp .USub (.int x t)) Q E (At s h tk) := by
  with_reducible refine neg_int ?_
  exact q _ _

-- the same with the token said: no binder more in the proof
theorem e_intT {i : Int} {k : Nat} {pos : Pos} {Q : Value → Shared → Prop} (q : Q (.int i tk) (At s h tk.succ)) : wpAny M A (eval (.Constant (.int i) k pos) env) Q E (At s h tk) := wpAny_Constant_int q
theorem e_strT {x : Str} {k : Nat} {pos : Pos} {Q : Value → Shared → Prop} (q : Q (.str x tk) (At s h tk.succ)) : wpAny M A (eval (.Constant (.str x) k pos) env) Q E (At s h tk) := wpAny_Constant_str q
theorem o_addT {x y : Int} {t u : Tok} {Q : Value → Shared → Prop} (q : Q (.int (x + y) tk) (At s h tk.succ)) : wpAny (model prog w) A (binaryOp .Add (.int x t) (.int y u)) Q E (At s h tk) := add_int q
theorem o_subT {x y : Int} {t u : Tok} {Q : Value → Shared → Prop} (q : Q (.int (x - y) tk) (At s h tk.succ)) : wpAny (model prog w) A (binaryOp .Sub (.int x t) (.int y u)) Q E (At s h tk) := sub_int q
theorem o_modT {x y : Int} {t u : Tok} {Q : Value → Shared → Prop} (hy : 0 < y) (q : Q (.int (x % y) tk) (At s h tk.succ)) : wpAny (model prog w) A (binaryOp .Mod (.int x t) (.int y u)) Q E (At s h tk) := by
  have hy' : y ≠ 0 := by omega
  refine mod_int' hy' ?_
  rw [Int.fmod_eq_emod_of_nonneg _ (by omega)]; exact q
theorem o_negT {x : Int} {t : Tok} {Q : Value → Shared → Prop} (q : Q (.int (-x) tk) (At s h tk.succ)) : wpAny (model prog w) A (unaryOp .USub (.int x t)) Q E (At s h tk) := neg_int q

-- comparisons
theorem c_lt {x y : Int} {t u : Tok} {Q : Value → Shared → Prop} (q : Q (.bool (decide (x < y))) (At s h tk)) : wpAny (model prog w) A (compareOp .Lt (.int x t) (.int y u)) Q E (At s h tk) := by
  with_reducible refine lt_int ?_
  exact q
theorem c_le {x y : Int} {t u : Tok} {Q : Value → Shared → Prop} (q : Q (.bool (decide (x ≤ y))) (At s h tk)) : wpAny (model prog w) A (compareOp .LtE (.int x t) (.int y u)) Q E (At s h tk) := by
  with_reducible refine le_int ?_
  exact q
theorem c_gt {x y : Int} {t u : Tok} {Q : Value → Shared → Prop} (q : Q (.bool (decide (y < x))) (At s h tk)) : wpAny (model prog w) A (compareOp .Gt (.int x t) (.int y u)) Q E (At s h tk) := by
  with_reducible refine gt_int ?_
  exact q
theorem c_ge {x y : Int} {t u : Tok} {Q : Value → Shared → Prop} (q : Q (.bool (decide (y ≤ x))) (At s h tk)) : wpAny (model prog w) A (compareOp .GtE (.int x t) (.int y u)) Q E (At s h tk) := by
  with_reducible refine ge_int ?_
  exact q
theorem c_eq {x y : Int} {t u : Tok} {Q : Value → Shared → Prop} (q : Q (.bool (decide (x = y))) (At s h tk)) : wpAny (model prog w) A (compareOp .Eq (.int x t) (.int y u)) Q E (At s h tk) := by
  with_reducible refine eq_int ?_
  exact q
theorem c_ne {x y : Int} {t u : Tok} {Q : Value → Shared → Prop} (q : Q (.bool (!decide (x = y))) (At s h tk)) : wpAny (model prog w) A (compareOp .NotEq (.int x t) (.int y u)) Q E (At s h tk) := by
  with_reducible refine ne_int ?_
  exact q
theorem c_streq {x y : Str} {t u : Tok} {b : Bool} {Q : Value → Shared → Prop} (hb : (x == y) = b) (q : Q (.bool b) (At s h tk)) : wpAny (model prog w) A (compareOp .Eq (.str x t) (.str y u)) Q E (At s h tk) := by
  with_reducible refine eq_str ?_
  exact (show Q (.bool (x == y)) _ from hb ▸ q)
theorem c_isnone {v : Value} {Q : Value → Shared → Prop} (q : Q (.bool (v == .none)) (At s h tk)) : wpAny M A (compareOp .Is v .none) Q E (At s h tk) := by
  with_reducible refine is_none ?_
  exact q
theorem c_isnotnone {v : Value} {Q : Value → Shared → Prop} (q : Q (.bool (!(v == .none))) (At s h tk)) : wpAny M A (compareOp .IsNot v .none) Q E (At s h tk) := by
  with_reducible refine isNot_none ?_
  exact q
theorem t_bool {b : Bool} {Q : Bool → Shared → Prop} (q : Q b (At s h tk)) : wpAny M A (truthy (.bool b)) Q E (At s h tk) := wpAny_truthy_bool q
theorem t_int {x : Int} {t : Tok} {Q : Bool → Shared → Prop} (q : Q (!decide (x = 0)) (At s h tk)) : wpAny (model prog w) A (truthy (.int x t)) Q E (At s h tk) := by
  with_reducible refine truthy_int ?_
  exact q

theorem small_len {vs : List Value} (h : decide (vs.length ≤ 100) = true) : vs.length ≤ sizeLine := by
  have := of_decide_eq_true h
  rw [sizeLine_eq]; omega
-- tuples
theorem e_tuple {elts : List Expr} {k : Nat} {pos : Pos} {Q : Value → Shared → Prop} {s : Shared} (q : wpAny M A (spliced (backTo pos (starEach elts env))) (fun vs s₁ => wpAny M A (newTuple vs) Q E s₁) E s) : wpAny M A (eval (.Tuple elts k pos) env) Q E s := Tuple_ q
theorem e_newtuple {vs : List Value} {Q : Value → Shared → Prop} (F : Fm g L h l bag) (hz : vs.length ≤ sizeLine)
    (q : ∀ r h', h.get? r = none → Fm g L h' l ((r, ({ cls := .type "tuple", data := .seq vs.toArray } : Obj)) :: bag) → Q (.ref r) (At s h' tk)) : wpAny M A (newTuple vs) Q E (At s h tk) :=
  wpAny_newObj_type (q h.objs.size (h.push _) (Heap.get?_none_of_le (Nat.le_refl _)) (F.push _))
    (by show vs.toArray.size ≤ sizeLine; rw [List.size_toArray]; exact hz)
theorem e_newlist {vs : List Value} {Q : Value → Shared → Prop} (F : Fm g L h l bag) (hz : vs.length ≤ sizeLine)
    (q : ∀ r h', h.get? r = none → Fm g L h' l ((r, ({ cls := .type "list", data := .seq vs.toArray } : Obj)) :: bag) → Q (.ref r) (At s h' tk)) : wpAny M A (newList vs) Q E (At s h tk) :=
  wpAny_newObj_type (q h.objs.size (h.push _) (Heap.get?_none_of_le (Nat.le_refl _)) (F.push _))
    (by show vs.toArray.size ≤ sizeLine; rw [List.size_toArray]; exact hz)
theorem e_list {elts : List Expr} {pos : Pos} {Q : Value → Shared → Prop} {s : Shared} (q : wpAny M A (spliced (backTo pos (starEach elts env))) (fun vs s₁ => wpAny M A (newList vs) Q E s₁) E s) : wpAny M A (eval (.List elts pos) env) Q E s := List_ q
theorem Fm.tup (F : Fm g L h l bag) {a : Addr} {vs : List Value} {n : Nat} (hm : (a, ({ cls := .type "tuple", data := .seq vs.toArray n } : Obj)) ∈ bag) : IsTup h a vs.toArray := ⟨_, F.has hm, rfl, n, rfl⟩
theorem Fm.tupG (F : Fm g L h l bag) {a : Addr} {vs : Array Value} (T : IsTup g a vs) : IsTup h a vs := T.keeps F.keep
theorem Fm.lst (F : Fm g L h l bag) {a : Addr} {vs : List Value} {n : Nat} (hm : (a, ({ cls := .type "list", data := .seq vs.toArray n } : Obj)) ∈ bag) : h.IsList a vs.toArray := ⟨_, F.has hm, rfl, n, rfl⟩
theorem e_item {value slice : Expr} {t : Addr} {l : List Value} {k : Int} {u : Tok} {x : Value} {Q : Value → Shared → Prop} (ht : IsTup h t l.toArray)
    (hlo : 0 ≤ k) (hhi : k < 2 ^ 63) (hx : nth l k.toNat = some x) (q : Q x (At s h tk))
    (hs : subscripted slice false (.ref t) (.int k u) = operate [.ref t, .int k u] (getItem (.ref t) (.int k u)) := by kernel_rfl!) :
    wpAny (model prog w) A (subscriptTail value slice (.ref t) (.int k u)) Q E (At s h tk) := by
  have hx' := nth_get l k.toNat hx
  have hlt : k.toNat < l.length := by
    rcases Nat.lt_or_ge k.toNat l.length with h | h
    · exact h
    · rw [List.getElem?_eq_none h] at hx'; cases hx'
  exact item_tupleT (s := At s h tk) (l := l) (j := k.toNat) ht (by omega) hhi (seqIndex_of hlo hlt) hx' q hs
theorem e_itemG {value slice : Expr} {t : Addr} {vs : List Value} {k : Int} {u : Tok} {x : Value} {Q : Value → Shared → Prop} (F : Fm g L h l bag) (ht : IsTup g t vs.toArray)
    (hlo : 0 ≤ k) (hhi : k < 2 ^ 63) (hx : nth vs k.toNat = some x) (q : Q x (At s h tk))
    (hs : subscripted slice false (.ref t) (.int k u) = operate [.ref t, .int k u] (getItem (.ref t) (.int k u)) := by kernel_rfl!) :
    wpAny (model prog w) A (subscriptTail value slice (.ref t) (.int k u)) Q E (At s h tk) := e_item (ht.keeps F.keep) hlo hhi hx q hs
theorem e_itemB {value slice : Expr} {t : Addr} {vs : List Value} {n : Nat} {k : Int} {u : Tok} {x : Value} {Q : Value → Shared → Prop} (F : Fm g L h l bag) (hm : Pick (t, ({ cls := .type "tuple", data := .seq vs.toArray n } : Obj)) bag bag')
    (hlo : 0 ≤ k) (hhi : k < 2 ^ 63) (hx : nth vs k.toNat = some x) (q : Q x (At s h tk))
    (hs : subscripted slice false (.ref t) (.int k u) = operate [.ref t, .int k u] (getItem (.ref t) (.int k u)) := by kernel_rfl!) :
    wpAny (model prog w) A (subscriptTail value slice (.ref t) (.int k u)) Q E (At s h tk) := e_item (F.tup hm.out.1) hlo hhi hx q hs
theorem k_in {P : Prop} (F : Fm g L h l bag) (q : P) : g.StaysIn (At s h tk).heap ∧ P := ⟨F.keep, q⟩

-- calls
theorem a_nil {pos : Pos} {Q : List Value → Shared → Prop} {s : Shared} (q : Q [] s) : wpAny M A (spliced (backTo pos (starEach [] env))) Q E s := spliced_none q
theorem a_cons {e : Expr} {rest : List Expr} {pos : Pos} {Q : List Value → Shared → Prop} {s : Shared}
    (q : wpAny M A (eval e env) (fun v s₁ => wpAny M A (spliced (backTo pos (starEach rest env))) (fun vs s₂ => Q (v :: vs) s₂) E s₁) E s)
    (he : starEach (e :: rest) env = (false, eval e env) :: starEach rest env := by kernel_rfl!) : wpAny M A (spliced (backTo pos (starEach (e :: rest) env))) Q E s := spliced_more q he
theorem e_call {x : Str} {pos pos' : Pos} {f : Addr} {e : Expr} {rest : List Expr} {Q : Value → Shared → Prop} (hx : scope.names.lookup x = some .globalImplicit) (G : Gd w g) (F : Fm g L h l bag) (hv : nsIn (Mine.hd.heap_39 w.params) mainGlobals x = some (some (.ref f)))
    (hkp : keepIn (Mine.hd.heap_39 w.params) (.ref f) = true)
    (q : wpAny (model prog w) A (spliced (backTo pos (starEach (e :: rest) (EV name scope L fn fr cd cl)))) (fun vs s₁ => g.StaysIn s₁.heap ∧ wpAny (model prog w) A (call (.ref f) vs) Q E s₁) E (At s h tk))
    (hk : scope.kind = .function := by kernel_rfl!) (hd : (x == ("__debug__" : Str)) = false := by kernel_rfl!)
    (he : starEach (e :: rest) (EV name scope L fn fr cd cl) = (false, eval e (EV name scope L fn fr cd cl)) :: starEach rest (EV name scope L fn fr cd cl) := by kernel_rfl!)
    (hplain : (backTo pos (starEach rest (EV name scope L fn fr cd cl))).any (·.1) = false := by kernel_rfl!)
    (hev : eval (.Call (.Name x pos') (e :: rest) [] pos) (EV name scope L fn fr cd cl) = (do callWith pos (← eval (.Name x pos') (EV name scope L fn fr cd cl)) [] (backTo pos (starEach (e :: rest) (EV name scope L fn fr cd cl))) (backToKw pos (keywordEach [] (EV name scope L fn fr cd cl)))) := by kernel_rfl!) :
    wpAny (model prog w) A (eval (.Call (.Name x pos') (e :: rest) [] pos) (EV name scope L fn fr cd cl)) Q E (At s h tk) := by
  refine Call_ (e_glob hx G F hv ?_ hk hd) hev
  exact callWith_K G.K hkp (wpAny_mono q (fun vs s₁ q => ⟨G.K.keeps q.1, q.2⟩) fun _ _ x => x) he hplain
theorem e_callb {x : Str} {pos pos' : Pos} {b : String} {e : Expr} {rest : List Expr} {Q : Value → Shared → Prop} (hx : scope.names.lookup x = some .globalImplicit) (G : Gd w g) (F : Fm g L h l bag) (hn : nsIn (Mine.hd.heap_39 w.params) mainGlobals x = some none) (hv : bootBuiltins x = some (.builtin b))
    (q : wpAny (model prog w) A (spliced (backTo pos (starEach (e :: rest) (EV name scope L fn fr cd cl)))) (fun vs s₁ => wpAny (model prog w) A (call (.builtin b) vs) Q E s₁) E (At s h tk))
    (hne : (x == ("__name__" : Str)) = false := by kernel_rfl!)
    (hk : scope.kind = .function := by kernel_rfl!) (hd : (x == ("__debug__" : Str)) = false := by kernel_rfl!)
    (he : starEach (e :: rest) (EV name scope L fn fr cd cl) = (false, eval e (EV name scope L fn fr cd cl)) :: starEach rest (EV name scope L fn fr cd cl) := by kernel_rfl!)
    (hplain : (backTo pos (starEach rest (EV name scope L fn fr cd cl))).any (·.1) = false := by kernel_rfl!)
    (hev : eval (.Call (.Name x pos') (e :: rest) [] pos) (EV name scope L fn fr cd cl) = (do callWith pos (← eval (.Name x pos') (EV name scope L fn fr cd cl)) [] (backTo pos (starEach (e :: rest) (EV name scope L fn fr cd cl))) (backToKw pos (keywordEach [] (EV name scope L fn fr cd cl)))) := by kernel_rfl!) :
    wpAny (model prog w) A (eval (.Call (.Name x pos') (e :: rest) [] pos) (EV name scope L fn fr cd cl)) Q E (At s h tk) := by
  refine Call_ (e_bltn hx G F hn hv ?_ hne hk hd) hev
  exact callWith_builtin1 q he hplain
/-- the called def's contract, and the caller's frame behind it: of a def that turns one object of the frame's -/
theorem e_spec1 {f : Addr} {args : List Value} {k : Nat} {a : Addr} {o : Obj} {P : Value → Heap → Obj → Prop} {Q : Value → Shared → Prop}
    (sp : Spec prog w f args k (At s h tk) [a] (fun r h' => ∃ o', h'.get? a = some o' ∧ P r h' o')) (G : Gd w g) (F : Fm g L h l bag) (Pk : Pick (a, o) bag bag') (z : isT o = false) (hh : A.handled = none)
    (hd : A.depth + k < recursionLimit) (hu : A.units + 8 * k < cLine)
    (q : ∀ r h' tk' o', Fm g L h' l ((a, o') :: bag') → KeepsBut h h' [a] → P r h' o' → Q r (At s h' tk')) : wpAny (model prog w) A (call (.ref f) args) Q E (At s h tk) :=
  wpAny_call (sp A g _ hh hd hu G F.keep (fun b hb => by rw [List.mem_singleton.mp hb]; exact ((F.bg _ Pk.out.1).2 z).2) fun r h' tk' kb ⟨o', e, p⟩ => q r h' tk' o' (F.set Pk kb e z) kb p)
/-- of a def that changes nothing -/
theorem e_spec0 {f : Addr} {args : List Value} {k : Nat} {Post : Value → Heap → Prop} {Q : Value → Shared → Prop} (sp : Spec prog w f args k (At s h tk) [] Post) (G : Gd w g) (F : Fm g L h l bag) (hh : A.handled = none)
    (hd : A.depth + k < recursionLimit) (hu : A.units + 8 * k < cLine)
    (q : ∀ r h' tk', Fm g L h' l bag → h.StaysIn h' → Post r h' → Q r (At s h' tk')) : wpAny (model prog w) A (call (.ref f) args) Q E (At s h tk) :=
  wpAny_call (sp A g _ hh hd hu G F.keep (by simp) fun r h' tk' kb p => q r h' tk' (F.grow kb.all) kb.all p)
theorem b_max {x y : Int} {t u : Tok} {Q : Value → Shared → Prop} (F : Fm g L h l bag) (hh : A.handled = none) (q : ∀ h' t tk', Fm g L h' l bag → Q (.int (max x y) t) (At s h' tk')) :
    wpAny (model prog w) A (call (.builtin "max") [.int x t, .int y u]) Q E (At s h tk) := by
  refine max_two_ints hh fun h' tk hk => ?_
  have F' := F.grow hk
  by_cases hc : y > x
  · rw [if_pos hc, show y = max x y by omega]; exact q h' u tk F'
  · rw [if_neg hc]; have := q h' t tk F'; rw [show max x y = x by omega] at this; exact this
theorem b_min {x y : Int} {t u : Tok} {Q : Value → Shared → Prop} (F : Fm g L h l bag) (hh : A.handled = none) (q : ∀ h' t tk', Fm g L h' l bag → Q (.int (min x y) t) (At s h' tk')) :
    wpAny (model prog w) A (call (.builtin "min") [.int x t, .int y u]) Q E (At s h tk) := by
  refine min_two_ints hh fun h' tk hk => ?_
  have F' := F.grow hk
  by_cases hc : y < x
  · rw [if_pos hc, show y = min x y by omega]; exact q h' u tk F'
  · rw [if_neg hc]; have := q h' t tk F'; rw [show min x y = x by omega] at this; exact this
theorem b_abs {x : Int} {t : Tok} {Q : Value → Shared → Prop} (q : ∀ t tk', Q (.int (if x < 0 then -x else x) t) (At s h tk')) :
    wpAny (model prog w) A (call (.builtin "abs") [.int x t]) Q E (At s h tk) := call_abs_int q

/-- entering a def: the frame as a list of names -/
theorem Fin.ret {g : Heap} {Post : Value → Heap → Prop} {v : Value} {h' : Heap} (F : Fm g L h' l bag) (p : Post v h') : Fin s g L Post (.ret v) (At s h' tk) := let ⟨m', F, _⟩ := F.fr; ⟨h', tk, m', rfl, F, p⟩
theorem Fin.next {g : Heap} {Post : Value → Heap → Prop} {h' : Heap} (F : Fm g L h' l bag) (p : Post .none h') : Fin s g L Post .next (At s h' tk) := let ⟨m', F, _⟩ := F.fr; ⟨h', tk, m', rfl, F, p⟩
end

section
variable {prog : Program} {w : World} {f : Addr} {args : List Value} {k : Nat} {s : Shared} {mu : List Addr} {Post : Value → Heap → Prop}
theorem s_def (bl : List (Str × Value)) {name qual : Str} {params : Arguments} {body : List Stmt} {scope : Scope} {dV kV doc pm cdv ct oc : Value} {an od : Option Addr} {osl : Array (Option Value)}
    (ho : (Mine.hd.heap_39 w.params).lookup f = some ⟨oc, od, .func (fnOf name qual params body scope dV kV doc pm an cdv ct), osl⟩) (hcd : codeIn (Mine.hd.heap_39 w.params) cdv qual = true)
    (hbind : (Mine.hd.heap_39 w.params).In s.heap → BindsTo s (fnOf name qual params body scope dV kV doc pm an cdv ct) ⟨args, []⟩ bl.reverse) (hloc : (bl.reverse.all fun x => decide (scope.names.lookup x.1 = some .local)) = true)
    (mo : List (Addr × Obj)) (hmo : ∀ p ∈ mo, s.heap.get? p.1 = some p.2) (hnd : (muts mo).Nodup)
    (q : ∀ (A : Around) g L h tk, A.handled = none → A.depth + k < recursionLimit → A.units + 8 * k < cLine → Gd w g → Fm g L h bl mo → KeepsBut s.heap g (mo.map (·.1)) →
      wpAny (model prog w) A (execs body (EV (qual ++ ".<locals>.") scope L (some f) (some L) cdv [])) (Fin s g L Post) (fun _ _ => False) (At s h tk))
    (hco : scope.isCoroutine = false := by kernel_rfl!) (hgen : scope.isGenerator = false := by kernel_rfl!) (hk : scope.kind = .function := by kernel_rfl!) (hcell : scope.names.all (fun x => x.2 != .cell) = true := by kernel_rfl!) :
    Spec prog w f args (k + 1) s (mo.map (·.1)) Post :=
  spec_def ho hcd hbind hloc (fun a ha => let ⟨p, hp, e⟩ := List.mem_map.mp ha; e ▸ Heap.lt_size (hmo p hp)) (fun A g L h₁ hh hd hu G F kb hm => q A g L h₁ _ hh hd hu G ⟨⟨_, by rw [List.reverse_reverse] at F; exact F, fun _ _ e => e⟩,
    fun p hp => have z := hm p.1 (List.mem_map_of_mem hp); ⟨z.2.2 _ (hmo p hp), fun _ => ⟨z.1, z.2.1⟩⟩, hnd⟩ kb) hco hgen hk (fun x hx => by simpa using List.all_eq_true.mp hcell x hx)
theorem s_def0 (bl : List (Str × Value)) {name qual : Str} {params : Arguments} {body : List Stmt} {scope : Scope} {dV kV doc pm cdv ct oc : Value} {an od : Option Addr} {osl : Array (Option Value)}
    (ho : (Mine.hd.heap_39 w.params).lookup f = some ⟨oc, od, .func (fnOf name qual params body scope dV kV doc pm an cdv ct), osl⟩) (hcd : codeIn (Mine.hd.heap_39 w.params) cdv qual = true)
    (hbind : (Mine.hd.heap_39 w.params).In s.heap → BindsTo s (fnOf name qual params body scope dV kV doc pm an cdv ct) ⟨args, []⟩ bl.reverse) (hloc : (bl.reverse.all fun x => decide (scope.names.lookup x.1 = some .local)) = true)
    (q : ∀ (A : Around) g L h tk, A.handled = none → A.depth + k < recursionLimit → A.units + 8 * k < cLine → Gd w g → Fm g L h bl [] → KeepsBut s.heap g [] →
      wpAny (model prog w) A (execs body (EV (qual ++ ".<locals>.") scope L (some f) (some L) cdv [])) (Fin s g L Post) (fun _ _ => False) (At s h tk))
    (hco : scope.isCoroutine = false := by kernel_rfl!) (hgen : scope.isGenerator = false := by kernel_rfl!) (hk : scope.kind = .function := by kernel_rfl!) (hcell : scope.names.all (fun x => x.2 != .cell) = true := by kernel_rfl!) :
    Spec prog w f args (k + 1) s [] Post :=
  s_def bl ho hcd hbind hloc [] (fun _ h => (nomatch h)) .nil q hco hgen hk hcell
end

end
section
abbrev LO (vs : List Value) (n : Nat) : Obj := { cls := .type "list", data := .seq vs.toArray n }
abbrev TO (vs : List Value) : Obj := { cls := .type "tuple", data := .seq vs.toArray }
/-- a list of the frame's own making -/
def IsLO (h : Heap) (a : Addr) (vs : List Value) : Prop := ∃ n, h.get? a = some (LO vs n)
theorem IsLO.lst {h : Heap} {a : Addr} {vs : List Value} (x : IsLO h a vs) : h.IsList a vs.toArray := let ⟨n, e⟩ := x; ⟨_, e, rfl, n, rfl⟩
theorem IsLO.keeps {h h' : Heap} {a : Addr} {vs : List Value} (x : IsLO h a vs) (k : h.StaysIn h') : IsLO h' a vs := let ⟨n, e⟩ := x; ⟨n, k _ _ e⟩

section
variable {M : Model} {prog : Program} {w : World} {A : Around} {E : Value → Shared → Prop} {s : Shared} {h g : Heap} {tk : Nat} {L : Addr} {fn fr : Option Addr} {l : List (Str × Value)} {bag : List (Addr × Obj)} {name : Str} {scope : Scope} {cd : Value} {cl : List (Str × Addr)} {env : Env}

theorem Fm.hasP {bag' : List (Addr × Obj)} (F : Fm g L h l bag) {a : Addr} {o : Obj} (P : Pick (a, o) bag bag') : h.get? a = some o := F.has P.out.1
theorem Fm.lstP {bag' : List (Addr × Obj)} (F : Fm g L h l bag) {a : Addr} {vs : List Value} {n : Nat} (P : Pick (a, LO vs n) bag bag') : h.IsList a vs.toArray := F.lst P.out.1
theorem Fm.freshP {bag' : List (Addr × Obj)} (F : Fm g L h l bag) {a : Addr} {o : Obj} (P : Pick (a, o) bag bag') (z : isT o = false := by rfl) : g.get? a = none := ((F.bg _ P.out.1).2 z).2
theorem KeepsBut.none {s₀ : Heap} {mu : List Addr} (kb : KeepsBut s₀ g mu) {a : Addr} (e : g.get? a = none) (n : a ∉ mu) : s₀.get? a = none := by
  cases q : s₀.get? a with
  | none => rfl
  | some o => rw [kb a o q n] at e; cases e
-- unpacking
theorem s_unpack {elts : List Expr} {k : Nat} {tpos pos : Pos} {e : Expr} {rest : List Stmt} {Q : Flow → Shared → Prop} {s : Shared}
    (q : wpAny M A (eval e env) (fun v s₁ => wpAny M A (assign (.Tuple elts k tpos) env v) (fun _ s₂ => wpAny M A (execs rest env) Q E s₂) E s₁) E s)
    (hs : swapsWithSole [.Tuple elts k tpos] e pos.line env = pure false := by kernel_rfl!)
    (hw : swappedStores [.Tuple elts k tpos] e env = pure none := by kernel_rfl!) : wpAny M A (execs (.Assign [.Tuple elts k tpos] e pos :: rest) env) Q E s :=
  wpAny_execs_cons (Assign_Tuple q hs hw)
theorem stays_extBut {h h' : Heap} (he : Heap.ExtBut h.objs.size h h') : h.StaysIn h' := fun b o e => he b o (Nat.ne_of_lt (Heap.lt_size e)) e
theorem a_unp2 {x y : Str} {p1 p2 pos : Pos} {k : Nat} {t : Addr} {u v : Value} {Q : Unit → Shared → Prop} (hh : A.handled = none) (F : Fm g L h l bag) (ht : IsTup h t [u, v].toArray)
    (q : ∀ h', Fm g L h' l bag → wpAny (model prog w) A (storeName env x u) (fun _ s₁ => wpAny (model prog w) A (storeName env y v) Q E s₁) E (At s h' tk)) :
    wpAny (model prog w) A (assign (.Tuple [.Name x p1, .Name y p2] k pos) env (.ref t)) Q E (At s h tk) := by
  refine assign_Tuple_tuple (s := At s h tk) hh ht rfl rfl fun h' he => ?_
  refine assignInOrder_cons (wpAny_assign_Name (wpAny_mono (q h' (F.grow (stays_extBut he))) (fun _ s₁ q => ?_) fun _ _ x => x))
  exact assignInOrder_cons (wpAny_assign_Name (wpAny_mono q (fun _ s₂ q => assignInOrder_nil q) fun _ _ x => x))
theorem a_unp3 {x y z : Str} {p1 p2 p3 pos : Pos} {k : Nat} {t : Addr} {u v o : Value} {Q : Unit → Shared → Prop} (hh : A.handled = none) (F : Fm g L h l bag) (ht : IsTup h t [u, v, o].toArray)
    (q : ∀ h', Fm g L h' l bag → wpAny (model prog w) A (storeName env x u) (fun _ s₁ => wpAny (model prog w) A (storeName env y v) (fun _ s₂ => wpAny (model prog w) A (storeName env z o) Q E s₂) E s₁) E (At s h' tk)) :
    wpAny (model prog w) A (assign (.Tuple [.Name x p1, .Name y p2, .Name z p3] k pos) env (.ref t)) Q E (At s h tk) := by
  refine assign_Tuple_tuple (s := At s h tk) hh ht rfl rfl fun h' he => ?_
  refine assignInOrder_cons (wpAny_assign_Name (wpAny_mono (q h' (F.grow (stays_extBut he))) (fun _ s₁ q => ?_) fun _ _ x => x))
  refine assignInOrder_cons (wpAny_assign_Name (wpAny_mono q (fun _ s₂ q => ?_) fun _ _ x => x))
  exact assignInOrder_cons (wpAny_assign_Name (wpAny_mono q (fun _ s₃ q => assignInOrder_nil q) fun _ _ x => x))

-- for
def RK (K : Flow → Shared → Prop) (E' : Value → Shared → Prop) (r : Result) (s' : Shared) : Prop := match r with | .ok f => K f s' | .error e => E' e s'
/-- what a turn hands on -/
def Turn {σ : Type} (s : Shared) (g : Heap) (L : Addr) (names : σ → List (Str × Value)) (bagf : σ → List (Addr × Obj)) (J : σ → Prop) (it : Addr × Obj) (K : Flow → Shared → Prop) (fl : Flow) (s' : Shared) : Prop :=
  match fl with
  | .ret v => K (.ret v) s'
  | .brk => K .next s'
  | _ => ∃ x h' tk', s' = At s h' tk' ∧ Fm g L h' (names x) (it :: bagf x) ∧ J x
theorem Turn.next {σ : Type} {names : σ → List (Str × Value)} {bagf : σ → List (Addr × Obj)} {J : σ → Prop} {it : Addr × Obj} {K : Flow → Shared → Prop} (x : σ) (F : Fm g L h l bag)
    (hl : Lks l (names x)) (hb : Sel (it :: bagf x) bag) (j : J x) : Turn s g L names bagf J it K .next (At s h tk) := ⟨x, h, tk, rfl, F.sub _ _ hl hb, j⟩
theorem s_for {x : Str} {px pos : Pos} {iter : Expr} {body rest : List Stmt} {Q : Flow → Shared → Prop} {s : Shared}
    (q : wpAny M A (eval iter env) (fun xv s₁ => wpAny M A (pyIter xv) (fun it s₂ => codeAny M A (.forLoop (.Name x px) it body [] env) (RK (Kont M A env rest Q E) (cameBackBy M A env E)) s₂) E s₁) E s)
    (hs : ∀ x, foldedSetIterable iter env x = pure x := by intro _; kernel_rfl!) : wpAny M A (execs (.For (.Name x px) iter body [] pos :: rest) env) Q E s :=
  wpAny_execs_cons (wpAny_For (wpAny_mono q (fun _ _ q => wpAny_mono q (fun _ _ q => codeAny_mono q fun r _ x => by cases r <;> exact x) fun _ _ x => x) fun _ _ x => x) hs)
theorem no_exc {α : Type} {t : Sem α} {Q : α → Shared → Prop} {E' : Value → Shared → Prop} {s : Shared} (q : wpAny M A t Q (fun _ _ => False) s) : wpAny M A t Q E' s := wpAny_mono q (fun _ _ x => x) fun _ _ x => x.elim

theorem loop_core {σ : Type} (names : σ → List (Str × Value)) (bagf : σ → List (Addr × Obj)) (J : Nat → σ → Prop) {x : Str} {px : Pos} {body : List Stmt} {K : Flow → Shared → Prop} {E' : Value → Shared → Prop}
    {I : Addr} {N : Nat} {P : Nat → Value → Prop} {St : Nat → Heap → Prop} (fp : List Addr)
    (hx : scope.names.lookup x = some .local) (hk : scope.kind = .function)
    (W : Walks prog w A I fp [I] N P St) (hI : g.get? I = none) (hIL : I ≠ L)
    (hst : ∀ i h, St i h → ∃ o, h.get? I = some o ∧ isT o = false)
    (hkeep : ∀ i h h' x l l' o, St i h → h.get? I = some o → Fm g L h l (bagf x) → ∀ x', Fm g L h' l' ((I, o) :: bagf x') → St i h')
    (turn : ∀ i v x' h tk oI, i < N → P i v → J i x' → Fm g L h ((x, v) :: names x') ((I, oI) :: bagf x') →
      wpAny (model prog w) A (execs body (EV name scope L fn fr cd cl)) (Turn s g L names bagf (J (i + 1)) (I, oI) K) (fun _ _ => False) (At s h tk))
    (done : ∀ x h tk, J N x → Fm g L h (names x) (bagf x) → K .next (At s h tk))
    {h tk} (x0 : σ) (h0 : St 0 h) (F0 : Fm g L h (names x0) (bagf x0)) (off0 : ∀ p ∈ bagf x0, p.1 ≠ I) (j0 : J 0 x0) :
    codeAny (model prog w) A (.forLoop (.Name x px) (.ref I) body [] (EV name scope L fn fr cd cl)) (RK K E') (At s h tk) := by
  refine codeAny_forLoop (fun n s' => ∃ i x' h tk, s' = At s h tk ∧ i ≤ N ∧ n = N - i ∧ St i h ∧ Fm g L h (names x') (bagf x') ∧ (∀ p ∈ bagf x', p.1 ≠ I) ∧ J i x') ?_ N ⟨0, x0, h, tk, rfl, Nat.zero_le _, rfl, h0, F0, off0, j0⟩
  rintro n s' ⟨i, x', h, tk, rfl, hi, rfl, st, F, off, j⟩
  by_cases hlt : i < N
  · refine W.item i (At s h tk) _ _ hlt st fun v h' tk' hP st' hkp => ?_
    have F' : Fm g L h' (names x') (bagf x') := F.but (mu := [I]) (fun b o e n => hkp b o n e) (fun b hb => by rw [List.mem_singleton.mp hb]; exact ⟨hI, hIL⟩) fun p hp => by simpa using off p hp
    obtain ⟨o, ho, hoT⟩ := hst _ _ st'
    refine wpAny_assign_Name (e_store (s := s) hx (F'.add ho fun _ => ⟨hIL, hI, fun p hp _ => off p hp⟩) (fun h2 tk2 F2 => ?_) hk)
    refine no_exc (wpAny_mono (turn i v x' h2 tk2 o hlt hP j F2) (fun f s₃ q => ?_) fun _ _ x => x)
    have fin : (∃ x h' tk', s₃ = At s h' tk' ∧ Fm g L h' (names x) ((I, o) :: bagf x) ∧ J (i + 1) x) →
        ∃ m, m < N - i ∧ ∃ i x' h tk, s₃ = At s h tk ∧ i ≤ N ∧ m = N - i ∧ St i h ∧ Fm g L h (names x') (bagf x') ∧ (∀ p ∈ bagf x', p.1 ≠ I) ∧ J i x' := by
      rintro ⟨x3, h3, tk3, rfl, F3, j3⟩
      refine ⟨N - (i + 1), by omega, i + 1, x3, h3, tk3, rfl, hlt, rfl, hkeep _ _ _ _ _ _ _ st' ho F' _ F3, F3.tail, fun p hp e => ?_, j3⟩
      cases hT : isT p.2 with
      | false => exact (muts_cons.mp F3.nd).2 hoT p hp hT e
      | true =>
        have z := (F3.bg p (.tail _ hp)).1
        rw [e, F3.has (.head _)] at z
        rw [Option.some.inj z, hT] at hoT; cases hoT
    cases f with
    | ret v => exact q
    | brk => exact q
    | next => exact fin q
    | cont => exact fin q
  · have hi' : i = N := by omega
    subst hi'
    refine W.done (At s h tk) _ _ st fun h' tk' hkp => ?_
    have F' : Fm g L h' (names x') (bagf x') := F.but (mu := [I]) (fun b o e n => hkp b o n e) (fun b hb => by rw [List.mem_singleton.mp hb]; exact ⟨hI, hIL⟩) fun p hp => by simpa using off p hp
    exact wpAny_execs_nil (done x' h' tk' j F')

/-- over a list that the turns leave as it is -/
theorem l_list {σ : Type} (names : σ → List (Str × Value)) (bagf : σ → List (Addr × Obj)) (J : Nat → σ → Prop) (x0 : σ) {x : Str} {px : Pos} {body : List Stmt} {K : Flow → Shared → Prop} {E' : Value → Shared → Prop}
    {lst : Addr} {vs : List Value} (hh : A.handled = none) (hx : scope.names.lookup x = some .local) (F : Fm g L h l bag)
    (hl : ∀ x h l, Fm g L h l (bagf x) → h.IsList lst vs.toArray)
    (hl0 : Lks l (names x0)) (hb0 : Sel (bagf x0) bag) (j0 : J 0 x0)
    (turn : ∀ i v x' h tk I oI, i < vs.length → vs[i]? = some v → J i x' → Fm g L h ((x, v) :: names x') ((I, oI) :: bagf x') →
      wpAny (model prog w) A (execs body (EV name scope L fn fr cd cl)) (Turn s g L names bagf (J (i + 1)) (I, oI) K) (fun _ _ => False) (At s h tk))
    (done : ∀ x h tk, J vs.length x → Fm g L h (names x) (bagf x) → K .next (At s h tk)) (hk : scope.kind = .function := by kernel_rfl!) :
    wpAny (model prog w) A (pyIter (.ref lst)) (fun it s₂ => codeAny (model prog w) A (.forLoop (.Name x px) it body [] (EV name scope L fn fr cd cl)) (RK K E') s₂) E (At s h tk) := by
  have F0 : Fm g L h (names x0) (bagf x0) := F.sub _ _ hl0 hb0
  have hls := hl x0 h _ F0
  have hne : lst ≠ h.objs.size := by obtain ⟨o, ho, _⟩ := hls; exact Nat.ne_of_lt (Heap.lt_size ho)
  refine wpAny_pyIter_list (s := At s h tk) hls ?_
  have hIn : h.get? h.objs.size = none := Heap.get?_none_of_le (Nat.le_refl _)
  have W := Walks.list (prog := prog) (w := w) hh h.objs.size lst hne vs.toArray
  rw [List.size_toArray] at W
  have st0 : ∀ b o, h.get? b = some o → (h.push { cls := .type "list_iterator", data := .fields #[.ref lst, .int 0 0] }).get? b = some o := fun b o e => Heap.get?_push_of_some _ e
  refine loop_core (s := s) names bagf J _ hx hk W (F0.fresh hIn) (F0.new hIn) ?_ ?_ ?_ done x0 ⟨⟨_, Heap.get?_push_size _ rfl, rfl, rfl⟩, hls.at fun o e => st0 _ _ e⟩ (F0.grow st0) (fun p hp e => F0.ne hp hIn e.symm) j0
  · rintro i h ⟨⟨o, ho, _, hd⟩, _⟩
    exact ⟨o, ho, by unfold isT; rw [hd]⟩
  · rintro i h h' x1 l1 l2 o ⟨hit, _⟩ ho _ x2 F2
    exact ⟨hit.at fun o' e => by rw [ho] at e; cases e; exact F2.has (.head _), hl x2 h' _ F2.tail⟩
  · intro i v x' h tk oI hi hP j F
    exact turn i v x' h tk _ oI hi (by simpa using hP) j F

/-- over range(n) -/
theorem l_range {σ : Type} (names : σ → List (Str × Value)) (bagf : σ → List (Addr × Obj)) (J : Nat → σ → Prop) (x0 : σ) {x : Str} {px : Pos} {body : List Stmt} {K : Flow → Shared → Prop} {E' : Value → Shared → Prop}
    {N : Int} (n : Nat) {t : Tok} (hh : A.handled = none) (hx : scope.names.lookup x = some .local) (hN : N = n) (hn : n < 2 ^ 60) (F : Fm g L h l bag)
    (hl0 : Lks l (names x0)) (hb0 : Sel (bagf x0) bag) (j0 : J 0 x0)
    (turn : ∀ (i : Nat) t x' h tk I oI, i < n → J i x' → Fm g L h ((x, .int i t) :: names x') ((I, oI) :: bagf x') →
      wpAny (model prog w) A (execs body (EV name scope L fn fr cd cl)) (Turn s g L names bagf (J (i + 1)) (I, oI) K) (fun _ _ => False) (At s h tk))
    (done : ∀ x h tk, J n x → Fm g L h (names x) (bagf x) → K .next (At s h tk)) (hk : scope.kind = .function := by kernel_rfl!) :
    wpAny (model prog w) A (call (.type "range") [.int N t]) (fun xv s₁ => wpAny (model prog w) A (pyIter xv) (fun it s₂ => codeAny (model prog w) A (.forLoop (.Name x px) it body [] (EV name scope L fn fr cd cl)) (RK K E') s₂) E s₁) E (At s h tk) := by
  subst hN
  have F0 : Fm g L h (names x0) (bagf x0) := F.sub _ _ hl0 hb0
  refine call_range_1 ?_
  change wpAny (model prog w) A (pyIter (.ref h.objs.size)) _ E (At s (h.push { cls := .type "range", data := .fields #[.int 0 tk, .int n t, .int 1 (tk + 1)] }) (tk + 1 + 1))
  generalize hp : h.push { cls := .type "range", data := .fields #[.int 0 tk, .int n t, .int 1 (tk + 1)] } = h1
  have hr : IsRange h1 h.objs.size 0 n 1 tk t (tk + 1) := by rw [← hp]; exact Heap.get?_push_size _ rfl
  have F1 : Fm g L h1 (names x0) (bagf x0) := F0.grow fun b o e => by rw [← hp]; exact Heap.get?_push_of_some _ e
  have hsz : Builtin.Range.rangeSize 0 n 1 = (n : Int) := by rw [rangeSize_nat]; omega
  refine wpAny_pyIter_range (s := At s h1 (tk + 1 + 1)) hr (small_one (by omega) (by omega) (by omega) (by omega)) ?_
  have hIn : h1.get? h1.objs.size = none := Heap.get?_none_of_le (Nat.le_refl _)
  have W : Walks prog w A h1.objs.size [h1.objs.size] [h1.objs.size] n (fun i v => ∃ t, v = .int ((0 : Int) + i * 1) t) (fun i h => IsRangeIter h h1.objs.size ((0 : Int) + (i : Nat) * 1) ((n : Int) - (i : Nat)) 1) := Walks.range hh _ 0 1 n
  have st0 : ∀ b o, h1.get? b = some o → (h1.push { cls := .type "range_iterator", data := .fields #[rawInt 0, rawInt (Builtin.Range.rangeSize 0 n 1), rawInt 1] }).get? b = some o := fun b o e => Heap.get?_push_of_some _ e
  refine loop_core (s := s) names bagf J _ hx hk W (F1.fresh hIn) (F1.new hIn) ?_ ?_ ?_ done x0 ?_ (F1.grow st0) (fun p hp e => F1.ne hp hIn e.symm) j0
  · rintro i h ho
    exact ⟨_, ho, rfl⟩
  · rintro i h h' x1 l1 l2 o hit ho _ x2 F2
    have hit' : h.get? h1.objs.size = _ := hit
    rw [hit'] at ho
    have e := F2.has (.head _)
    rw [← ho] at e
    exact e
  · rintro i _ x' h tk oI hi ⟨t, rfl⟩ j F
    have e : (0 : Int) + (i : Int) * 1 = (i : Int) := by omega
    rw [e] at F
    exact turn i t x' h tk _ oI hi j F
  · rw [hsz]
    have e0 : (0 : Int) + ((0 : Nat) : Int) * 1 = 0 := by omega
    have e1 : (n : Int) - ((0 : Nat) : Int) = n := by omega
    show IsRangeIter _ _ ((0 : Int) + ((0 : Nat) : Int) * 1) ((n : Int) - ((0 : Nat) : Int)) 1
    rw [e0, e1]; exact Heap.get?_push_size _ rfl
theorem io_addT {x y : Int} {t u : Tok} {Q : Value → Shared → Prop} (q : Q (.int (x + y) tk) (At s h tk.succ)) : wpAny (model prog w) A (inplaceOp .Add (.int x t) (.int y u)) Q E (At s h tk) := iadd_int q
theorem io_add {x y : Int} {t u : Tok} {Q : Value → Shared → Prop} (q : ∀ t tk', Q (.int (x + y) t) (At s h tk')) : wpAny (model prog w) A (inplaceOp .Add (.int x t) (.int y u)) Q E (At s h tk) := by
  with_reducible refine iadd_int ?_
  exact q _ _
end

end
section
abbrev slO (a b c : Value) : Obj := { cls := .type "slice", data := .fields #[a, b, c] }
section
variable {M : Model} {prog : Program} {w : World} {A : Around} {E : Value → Shared → Prop} {s : Shared} {h g : Heap} {tk : Nat} {L : Addr} {fn fr : Option Addr} {l : List (Str × Value)} {bag bag' : List (Addr × Obj)} {name : Str} {scope : Scope} {cd : Value} {cl : List (Str × Addr)} {env : Env}

-- statements
theorem s_expr {e : Expr} {pos : Pos} {rest : List Stmt} {Q : Flow → Shared → Prop} {s : Shared} (q : wpAny (model prog w) A (eval e env) (fun _ s₁ => wpAny (model prog w) A (execs rest env) Q E s₁) E s)
    (hi : interactive env = false := by kernel_rfl!) (hs : swapsWith e none pos.line env = pure false := by kernel_rfl!) : wpAny (model prog w) A (execs (.Expr e pos :: rest) env) Q E s :=
  wpAny_execs_cons (wpAny_Expr_any q hi hs)

-- methods
theorem e_meth {o : Expr} {nm : Str} {apos pos : Pos} {args : List Expr} {Q : Value → Shared → Prop} {s : Shared}
    (q : wpAny M A (eval o env) (fun ov s₁ => wpAny M A (getMethod ov nm (do return (← importBound o env).getD true)) (fun fx s₂ => wpAny M A (callWith pos fx.1 fx.2 (backTo pos (starEach args env)) []) Q E s₂) E s₁) E s)
    (he : eval (.Call (.Attribute o nm apos) args [] pos) env = (do
      let ov ← eval o env
      standAt apos.atName
      let (f, first) ← holding [ov] (getMethod ov nm (do return (← importBound o env).getD true))
      callWith pos f first (backTo pos (starEach args env)) (backToKw pos (keywordEach [] env))) := by kernel_rfl!) :
    wpAny M A (eval (.Call (.Attribute o nm apos) args [] pos) env) Q E s := methodCall_KW (kws := []) q he
theorem cw_b0 {id : String} {first : List Value} {pos : Pos} {Q : Value → Shared → Prop} {s : Shared} (q : wpAny M A (call (.builtin id) (first ++ [])) Q E s) :
    wpAny M A (callWith pos (.builtin id) first (backTo pos (starEach [] env)) []) Q E s := callWith_builtin rfl (evalArgs_nil3 q)
theorem cw_b {id : String} {first : List Value} {pos : Pos} {e : Expr} {rest : List Expr} {Q : Value → Shared → Prop} {s : Shared}
    (q : wpAny M A (spliced (backTo pos (starEach (e :: rest) env))) (fun vs s₁ => wpAny M A (call (.builtin id) (first ++ vs)) Q E s₁) E s)
    (he : starEach (e :: rest) env = (false, eval e env) :: starEach rest env := by kernel_rfl!) (hplain : (backTo pos (starEach rest env)).any (·.1) = false := by kernel_rfl!) :
    wpAny M A (callWith pos (.builtin id) first (backTo pos (starEach (e :: rest) env)) []) Q E s := by
  rw [he] at q ⊢
  exact callWith_builtin (by show (false || (backTo pos (starEach rest env)).any (·.1)) = false; rw [hplain]; rfl) (evalArgs_plain q)
theorem gm_list {D : Addr} {vs : List Value} {n : Nat} {nm : Str} {id : String} {pl : Sem Bool} {pos : Pos} {args : List Expr} {Q : Value → Shared → Prop} (F : Fm g L h l bag) (hm : Pick (D, LO vs n) bag bag') (slot : Slot "list" nm id) (hty : typeOf (.builtin id) = pure (.type "method_descriptor"))
    (q : wpAny (model prog w) A (callWith pos (.builtin id) [.ref D] (backTo pos (starEach args env)) []) Q E (At s h tk)) : wpAny (model prog w) A (getMethod (.ref D) nm pl) (fun fx s₂ => wpAny (model prog w) A (callWith pos fx.1 fx.2 (backTo pos (starEach args env)) []) Q E s₂) E (At s h tk) :=
  getMethod_builtin ⟨_, F.has hm.out.1, rfl⟩ PySem.F.plainAttrs_list slot hty (fun a e => by cases e; exact ⟨_, F.has hm.out.1, rfl⟩) q
theorem gm_app {D : Addr} {vs : List Value} {n : Nat} {pl : Sem Bool} {pos : Pos} {args : List Expr} {Q : Value → Shared → Prop} (F : Fm g L h l bag) (hm : Pick (D, LO vs n) bag bag')
    (q : wpAny (model prog w) A (callWith pos (.builtin "list.append") [.ref D] (backTo pos (starEach args env)) []) Q E (At s h tk)) :
    wpAny (model prog w) A (getMethod (.ref D) (Str.ofString "append") pl) (fun fx s₂ => wpAny (model prog w) A (callWith pos fx.1 fx.2 (backTo pos (starEach args env)) []) Q E s₂) E (At s h tk) := gm_list F hm PySem.F.slot_list_append PySem.F.type_list_append q
theorem gm_pop {D : Addr} {vs : List Value} {n : Nat} {pl : Sem Bool} {pos : Pos} {args : List Expr} {Q : Value → Shared → Prop} (F : Fm g L h l bag) (hm : Pick (D, LO vs n) bag bag')
    (q : wpAny (model prog w) A (callWith pos (.builtin "list.pop") [.ref D] (backTo pos (starEach args env)) []) Q E (At s h tk)) :
    wpAny (model prog w) A (getMethod (.ref D) (Str.ofString "pop") pl) (fun fx s₂ => wpAny (model prog w) A (callWith pos fx.1 fx.2 (backTo pos (starEach args env)) []) Q E s₂) E (At s h tk) := gm_list F hm PySem.F.slot_list_pop PySem.F.type_list_pop q
theorem gm_rev {D : Addr} {vs : List Value} {n : Nat} {pl : Sem Bool} {pos : Pos} {args : List Expr} {Q : Value → Shared → Prop} (F : Fm g L h l bag) (hm : Pick (D, LO vs n) bag bag')
    (q : wpAny (model prog w) A (callWith pos (.builtin "list.reverse") [.ref D] (backTo pos (starEach args env)) []) Q E (At s h tk)) :
    wpAny (model prog w) A (getMethod (.ref D) (Str.ofString "reverse") pl) (fun fx s₂ => wpAny (model prog w) A (callWith pos fx.1 fx.2 (backTo pos (starEach args env)) []) Q E s₂) E (At s h tk) := gm_list F hm PySem.F.slot_list_reverse PySem.F.type_list_reverse q
theorem Fm.turn (F : Fm g L h l bag) {D : Addr} {vs vs' : List Value} {n : Nat} {f : Array Value → Array Value} (P : Pick (D, LO vs n) bag bag') (he : f vs.toArray = vs'.toArray) :
    ∃ n', Fm g L (h.update D (Obj.mapSeq f)) l ((D, LO vs' n') :: bag') := by
  have q := PySem.IsL.update (F.bg _ P.out.1).1 f
  rw [he] at q
  exact ⟨_, F.set P (.same (Heap.SameBut.update ..)) q rfl⟩
theorem m_app {D : Addr} {vs : List Value} {n : Nat} {x : Value} {Q : Value → Shared → Prop} (F : Fm g L h l bag) (P : Pick (D, LO vs n) bag bag') (hz : vs.length ≤ sizeLine)
    (q : ∀ h' n', Fm g L h' l ((D, LO (vs ++ [x]) n') :: bag') → Q .none (At s h' tk)) : wpAny (model prog w) A (call (.builtin "list.append") ([.ref D] ++ [x])) Q E (At s h tk) := by
  have z := (F.bg _ P.out.1).1
  obtain ⟨n', F'⟩ := F.turn (f := fun xs => xs.push x) (vs' := vs ++ [x]) P (by simp)
  exact call_meets PySem.F.slot_list_append ⟨_, z, rfl⟩ PySem.F.entry_list_append (PySem.F.args_list_append_2 _ _) (PySem.AutoListH.list_append_list_val_0 D _ n x (by rw [List.size_toArray]; exact hz)) ⟨z, q _ n' F'⟩
theorem m_rev {D : Addr} {vs : List Value} {n : Nat} {Q : Value → Shared → Prop} (F : Fm g L h l bag) (P : Pick (D, LO vs n) bag bag') (hz : vs.length ≤ sizeLine)
    (q : ∀ h' n', Fm g L h' l ((D, LO vs.reverse n') :: bag') → Q .none (At s h' tk)) : wpAny (model prog w) A (call (.builtin "list.reverse") ([.ref D] ++ [])) Q E (At s h tk) := by
  have z := (F.bg _ P.out.1).1
  obtain ⟨n', F'⟩ := F.turn (f := fun xs => xs.reverse) (vs' := vs.reverse) P (by simp)
  exact call_meets PySem.F.slot_list_reverse ⟨_, z, rfl⟩ PySem.F.entry_list_reverse (PySem.F.args_list_reverse_1 _) (PySem.AutoListH.list_reverse_list_0 D _ n (by rw [List.size_toArray]; exact hz)) ⟨z, q _ n' F'⟩
theorem m_pop {D : Addr} {vs : List Value} {n : Nat} {y : Value} {Q : Value → Shared → Prop} (F : Fm g L h l bag) (P : Pick (D, LO (vs ++ [y]) n) bag bag') (hz : vs.length + 1 ≤ sizeLine)
    (q : ∀ h' n', Fm g L h' l ((D, LO vs n') :: bag') → Q y (At s h' tk)) : wpAny (model prog w) A (call (.builtin "list.pop") ([.ref D] ++ [])) Q E (At s h tk) := by
  have z := (F.bg _ P.out.1).1
  have hk : (vs ++ [y]).toArray.size - 1 = vs.length := by rw [List.size_toArray, List.length_append]; rfl
  obtain ⟨n', F'⟩ := F.turn (f := fun xs => xs.eraseIdxIfInBounds ((vs ++ [y]).toArray.size - 1)) (vs' := vs) P (by rw [hk, kl_erase, List.append_nil])
  exact call_meets PySem.F.slot_list_pop ⟨_, z, rfl⟩ PySem.F.entry_list_pop (PySem.F.args_list_pop_1 _) (PySem.MeetsSeq.list_pop_last D _ n y (by rw [hk]; simp) (by rw [List.size_toArray, List.length_append]; exact hz)) ⟨z, q _ n' F'⟩

theorem e_callt {x : Str} {pos pos' : Pos} {b : String} {e : Expr} {rest : List Expr} {Q : Value → Shared → Prop} (hx : scope.names.lookup x = some .globalImplicit) (G : Gd w g) (F : Fm g L h l bag) (hn : nsIn (Mine.hd.heap_39 w.params) mainGlobals x = some none) (hv : bootBuiltins x = some (.type b))
    (q : wpAny (model prog w) A (spliced (backTo pos (starEach (e :: rest) (EV name scope L fn fr cd cl)))) (fun vs s₁ => wpAny (model prog w) A (call (.type b) vs) Q E s₁) E (At s h tk))
    (hne : (x == ("__name__" : Str)) = false := by kernel_rfl!)
    (hk : scope.kind = .function := by kernel_rfl!) (hd : (x == ("__debug__" : Str)) = false := by kernel_rfl!)
    (he : starEach (e :: rest) (EV name scope L fn fr cd cl) = (false, eval e (EV name scope L fn fr cd cl)) :: starEach rest (EV name scope L fn fr cd cl) := by kernel_rfl!)
    (hplain : (backTo pos (starEach rest (EV name scope L fn fr cd cl))).any (·.1) = false := by kernel_rfl!)
    (hev : eval (.Call (.Name x pos') (e :: rest) [] pos) (EV name scope L fn fr cd cl) = (do callWith pos (← eval (.Name x pos') (EV name scope L fn fr cd cl)) [] (backTo pos (starEach (e :: rest) (EV name scope L fn fr cd cl))) (backToKw pos (keywordEach [] (EV name scope L fn fr cd cl)))) := by kernel_rfl!) :
    wpAny (model prog w) A (eval (.Call (.Name x pos') (e :: rest) [] pos) (EV name scope L fn fr cd cl)) Q E (At s h tk) := by
  refine Call_ (e_bltn hx G F hn hv ?_ hne hk hd) hev
  rw [he] at q ⊢
  exact PySem.callWith_type (by show (false || (backTo pos (starEach rest (EV name scope L fn fr cd cl))).any (·.1)) = false; rw [hplain]; rfl) (evalArgs_plain q)

-- slices
theorem e_sl3 {a b c : Option Expr} {p : Pos} {Q : Value → Shared → Prop} {s : Shared}
    (q : wpAny M A (evalPart a env) (fun x s₁ => wpAny M A (evalPart b env) (fun y s₂ => wpAny M A (evalPart c env) (fun z s₃ => wpAny M A (newFields "slice" [x, y, z]) Q E s₃) E s₂) E s₁) E s) : wpAny M A (eval (.Slice a b c p) env) Q E s := by
  rw [arm_eval_Slice]
  exact wpAny_bind (wpAny_mono q (fun l s₁ h₁ => wpAny_bind (wpAny_holding (wpAny_mono h₁ (fun u s₂ h₂ => wpAny_bind (wpAny_holding (wpAny_mono h₂ (fun st s₃ h₃ => h₃) fun _ _ x => x))) fun _ _ x => x))) fun _ _ x => x)
theorem ep_none {Q : Value → Shared → Prop} {s : Shared} (q : Q .none s) : wpAny M A (evalPart none env) Q E s := by rw [evalPart_none]; exact wpAny_pure q
theorem ep_some {e : Expr} {Q : Value → Shared → Prop} {s : Shared} (q : wpAny M A (eval e env) Q E s) : wpAny M A (evalPart (some e) env) Q E s := by
  rw [show evalPart (some e) env = eval e env from rfl]; exact q
theorem n_slice {x y z : Value} {Q : Value → Shared → Prop} (F : Fm g L h l bag) (q : ∀ r h', Fm g L h' l ((r, slO x y z) :: bag) → Q (.ref r) (At s h' tk)) : wpAny M A (newFields "slice" [x, y, z]) Q E (At s h tk) :=
  wpAny_newObj_type (q h.objs.size (h.push _) (F.push _))
theorem st_slice {value slice : Expr} {D r : Addr} {vs zs : List Value} {x y z : Value} {lo hi st : Option Int} {Q : Value → Shared → Prop} (F : Fm g L h l bag) (hm : Pick (r, slO x y z) bag bag') (hl : h.IsList D vs.toArray)
    (pl : IsPart x lo) (pu : IsPart y hi) (pk : IsPart z st) (h0 : st ≠ some 0) (e : slicePick vs.toArray lo hi st = zs.toArray) (hz : vs.length ≤ sizeLine)
    (q : ∀ a h', h.get? a = none → Fm g L h' l ((a, LO zs 0) :: bag) → Q (.ref a) (At s h' tk))
    (hs : subscripted slice false (.ref D) (.ref r) = operate [.ref r, .ref D] (getItem (.ref D) (.ref r)) := by kernel_rfl!)
    (ht : ∀ r, letTemporaryGo value (.ref D) r = pure () := by intro _; kernel_rfl!) : wpAny (model prog w) A (subscriptTail value slice (.ref D) (.ref r)) Q E (At s h tk) := by
  refine subscriptTail_ops (Heap.IsList.typeIs (s := At s h tk) hl) list_getitem_lookup (wpAny_getItem_list_slice (s := At s h tk) hl ⟨_, F.has hm.out.1, rfl, rfl⟩ pl pu pk h0 ?_ (by rw [List.size_toArray]; exact hz)) hs ht
  rw [e]
  exact q h.objs.size _ (Heap.get?_none_of_le (Nat.le_refl _)) (F.push _)
theorem st_upto {value slice : Expr} {D r : Addr} {vs : List Value} {k : Int} {t : Tok} {Q : Value → Shared → Prop} (F : Fm g L h l bag) (hm : Pick (r, slO .none (.int k t) .none) bag bag') (hl : h.IsList D vs.toArray) (hk : 0 ≤ k) (hz : vs.length ≤ sizeLine)
    (q : ∀ a h', h.get? a = none → Fm g L h' l ((a, LO (vs.take k.toNat) 0) :: bag) → Q (.ref a) (At s h' tk))
    (hs : subscripted slice false (.ref D) (.ref r) = operate [.ref r, .ref D] (getItem (.ref D) (.ref r)) := by kernel_rfl!)
    (ht : ∀ r, letTemporaryGo value (.ref D) r = pure () := by intro _; kernel_rfl!) : wpAny (model prog w) A (subscriptTail value slice (.ref D) (.ref r)) Q E (At s h tk) :=
  st_slice F hm hl .none (.int _ _) .none (by simp) (by
    obtain ⟨n, rfl⟩ : ∃ n : Nat, k = n := ⟨k.toNat, by omega⟩
    exact slicePick_upto' vs.toArray n) hz q hs ht
theorem st_back {value slice : Expr} {D r : Addr} {vs : List Value} {t : Tok} {Q : Value → Shared → Prop} (F : Fm g L h l bag) (hm : Pick (r, slO .none .none (.int (-1) t)) bag bag') (hl : h.IsList D vs.toArray) (hz : vs.length ≤ sizeLine)
    (q : ∀ a h', h.get? a = none → Fm g L h' l ((a, LO vs.reverse 0) :: bag) → Q (.ref a) (At s h' tk))
    (hs : subscripted slice false (.ref D) (.ref r) = operate [.ref r, .ref D] (getItem (.ref D) (.ref r)) := by kernel_rfl!)
    (ht : ∀ r, letTemporaryGo value (.ref D) r = pure () := by intro _; kernel_rfl!) : wpAny (model prog w) A (subscriptTail value slice (.ref D) (.ref r)) Q E (At s h tk) :=
  st_slice F hm hl .none .none (.int _ _) (by simp) (krv_pick _) hz q hs ht
/-- an item of a list at a place in it -/
theorem e_itemL {value slice : Expr} {D : Addr} {vs : List Value} {k : Int} {u : Tok} {x : Value} {Q : Value → Shared → Prop} (hl : h.IsList D vs.toArray) (hlo : 0 ≤ k) (hhi : k < 2 ^ 63) (hx : vs[k.toNat]? = some x) (q : Q x (At s h tk))
    (hs : subscripted slice false (.ref D) (.int k u) = operate [.ref D, .int k u] (getItem (.ref D) (.int k u)) := by kernel_rfl!) :
    wpAny (model prog w) A (subscriptTail value slice (.ref D) (.int k u)) Q E (At s h tk) :=
  tail_any (Heap.IsList.typeIs (s := At s h tk) hl) slot_list_getitem.lookup (wpAny_getItem_list (s := At s h tk) hl hlo hhi (by simpa using hx) q) hs
theorem o_fdiv {x y : Int} {t u : Tok} {Q : Value → Shared → Prop} (hy : 0 < y ∧ y < 1000000000) (q : ∀ t tk', Q (.int (x / y) t) (At s h tk')) : wpAny (model prog w) A (binaryOp .FloorDiv (.int x t) (.int y u)) Q E (At s h tk) := by
  have hy' : y ≠ 0 := by omega
  with_reducible refine floordiv_int (hp := .inl (PyProof.noPylong_small (by omega))) hy' ?_
  rw [Int.fdiv_eq_ediv_of_nonneg _ (by omega)]; exact q _ _
theorem o_fdivT {x y : Int} {t u : Tok} {Q : Value → Shared → Prop} (hy : 0 < y ∧ y < 1000000000) (q : Q (.int (x / y) tk) (At s h tk.succ)) : wpAny (model prog w) A (binaryOp .FloorDiv (.int x t) (.int y u)) Q E (At s h tk) := by
  have hy' : y ≠ 0 := by omega
  refine floordiv_int (hp := .inl (PyProof.noPylong_small (by omega))) hy' ?_
  rw [Int.fdiv_eq_ediv_of_nonneg _ (by omega)]; exact q
theorem b_len {D : Addr} {vs : List Value} {Q : Value → Shared → Prop} (hl : h.IsList D vs.toArray) (hz : vs.length ≤ sizeLine) (q : ∀ t tk', Q (.int vs.length t) (At s h tk')) :
    wpAny (model prog w) A (call (.builtin "len") [.ref D]) Q E (At s h tk) := by
  refine call_len_list (s := At s h tk) hl (by rw [List.size_toArray]; rw [sizeLine_eq] at hz; omega) ?_
  rw [List.size_toArray]; exact q _ _
theorem o_pow2 {y : Nat} {t u : Tok} {Q : Value → Shared → Prop} (hy : y ≤ 1000) (q : ∀ t tk', Q (.int ((2 ^ y : Nat) : Int) t) (At s h tk')) : wpAny (model prog w) A (binaryOp .Pow (.int 2 t) (.int y u)) Q E (At s h tk) := by
  refine pow_int_small (by omega) (by omega) (by decide) ?_
  have e : (2 : Int) ^ (y : Int).toNat = ((2 ^ y : Nat) : Int) := by simp
  rw [e]; exact q _ _
end

/-- a list of naturals -/
def NA (vs : List Value) (l : List Nat) : Prop := IntsAre vs (l.map fun (n : Nat) => (n : Int))
theorem NA.nil : NA [] [] := IntsAre.nil
theorem NA.length {vs : List Value} {l : List Nat} (x : NA vs l) : vs.length = l.length := by have := IntsAre.length x; simpa using this
theorem NA.snoc {vs : List Value} {l : List Nat} (x : NA vs l) (n : Nat) (t : Tok) : NA (vs ++ [.int n t]) (l ++ [n]) := by
  unfold NA; rw [List.map_append]; exact IntsAre.append x (.cons _ _ .nil)
theorem NA.get {vs : List Value} {l : List Nat} (x : NA vs l) {i : Nat} (h : i < l.length) : ∃ t, vs[i]? = some (.int (l.getD i 0 : Nat) t) := by
  obtain ⟨v, hv⟩ : ∃ v, vs[i]? = some v := ⟨vs[i]'(by rw [x.length]; exact h), by simp [x.length, h]⟩
  obtain ⟨t, rfl⟩ := IntsAre.int_at x i v hv
  refine ⟨t, ?_⟩
  rw [hv]
  simp [List.getD_eq_getElem?_getD, h]
theorem NA.take {vs : List Value} {l : List Nat} (x : NA vs l) (k : Nat) : NA (vs.take k) (l.take k) := by unfold NA; rw [List.map_take]; exact IntsAre.take x k
theorem NA.reverse {vs : List Value} {l : List Nat} (x : NA vs l) : NA vs.reverse l.reverse := by unfold NA; rw [List.map_reverse]; exact PyProof.Rows.IntsAre.reverse x
theorem NA.last {vs : List Value} {l : List Nat} (x : NA vs l) (h : l ≠ []) : ∃ us t k c, vs = us ++ [.int (c : Nat) t] ∧ l = k ++ [c] ∧ NA us k := by
  rcases List.eq_nil_or_concat l with rfl | ⟨k, c, rfl⟩
  · exact absurd rfl h
  rw [List.concat_eq_append] at *
  have d := IntsAre.drop x k.length
  have e : (List.map (fun (n : Nat) => (n : Int)) (k ++ [c])).drop k.length = [(c : Int)] := by simp
  rw [e] at d
  obtain ⟨t, vs', e1, e2⟩ := IntsAre.cons_inv d
  rw [IntsAre.nil_inv e2] at e1
  refine ⟨vs.take k.length, t, k, c, ?_, rfl, ?_⟩
  · rw [← e1, List.take_append_drop]
  · have := NA.take x k.length
    simpa using this

end
section
theorem lkc_here {x : Str} {c : Addr} {r : List (Str × Addr)} : List.lookup x ((x, c) :: r) = some c := by simp
theorem lkc_there {x y : Str} {c d : Addr} {r : List (Str × Addr)} (hn : (x == y) = false) (q : List.lookup x r = some c) : List.lookup x ((y, d) :: r) = some c := by rw [List.lookup_cons, hn]; exact q
theorem muts_of : ∀ {b : List (Addr × Obj)}, (b.map (·.1)).Nodup → (muts b).Nodup
  | [], _ => .nil
  | p :: r, n => by
    rw [List.map_cons, List.nodup_cons] at n
    exact muts_cons.mpr ⟨muts_of n.2, fun _ q hq _ e => n.1 (e ▸ List.mem_map_of_mem (f := (·.1)) hq)⟩
/-- a frame with its cells -/
theorem Fm.ofCells {g h : Heap} {L : Addr} {m : Str → Option Value} {cells : List (Addr × Obj)} (l : List (Str × Value)) (F : Fr g L h m) (N : News g L h cells) (hl : ∀ p ∈ l, m p.1 = some p.2) (n : (cells.map (·.1)).Nodup) : Fm g L h l cells :=
  ⟨⟨m, F, fun _ _ e => hl _ (lk_mem e)⟩, fun p hp => ⟨(N p hp).1, fun _ => (N p hp).2⟩, muts_of n⟩
section
variable {M : Model} {prog : Program} {w : World} {A : Around} {E : Value → Shared → Prop} {s : Shared} {h h' g : Heap} {tk : Nat} {L C : Addr} {fn fr : Option Addr} {l : List (Str × Value)} {bag bag' : List (Addr × Obj)} {name : Str} {scope : Scope} {cd : Value} {cl : List (Str × Addr)} {env : Env}
-- cells
theorem isT_cell {o : Obj} {v : Option Value} (hd : o.data = .cell v) : isT o = false := by unfold isT; rw [hd]
theorem e_cell {x : Str} {pos : Pos} {v : Value} {c : Addr} {o : Obj} {Q : Value → Shared → Prop} (hx : scope.names.lookup x = some .cell) (hc : cl.lookup x = some c) (F : Fm g L h l bag) (P : Pick (c, o) bag bag') (hd : o.data = .cell (some v)) (q : Q v (At s h tk))
    (hk : scope.kind = .function := by kernel_rfl!) (hb : (x == ("__debug__" : Str)) = false := by kernel_rfl!) :
    wpAny M A (eval (.Name x pos) (EV name scope L fn fr cd cl)) Q E (At s h tk) :=
  wpAny_Name (wpAny_loadName_cell (env := EV name scope L fn fr cd cl) (s := At s h tk) hk hx hc ⟨o, F.hasP P, hd⟩ q) hb
theorem st_cell {x : Str} {v : Value} {v₀ : Option Value} {c : Addr} {o : Obj} {Q : Unit → Shared → Prop} (hx : scope.names.lookup x = some .cell) (hc : cl.lookup x = some c) (F : Fm g L h l bag) (P : Pick (c, o) bag bag') (hd : o.data = .cell v₀)
    (q : ∀ h' o', Fm g L h' l ((c, o') :: bag') → o'.data = .cell (some v) → Q () (At s h' tk))
    (hk : scope.kind = .function := by kernel_rfl!) : wpAny M A (storeName (EV name scope L fn fr cd cl) x v) Q E (At s h tk) :=
  wpAny_storeName_cell (env := EV name scope L fn fr cd cl) (s := At s h tk) hk hx hc ⟨o, F.hasP P, hd⟩ fun h' ⟨o', e, hd'⟩ hs => q h' o' (F.set P (.same hs) e (isT_cell hd)) hd'

-- a frame within the frame
theorem Fm.inner (F : Fm g L h l bag) (hC : h.get? C = none) (k : h.StaysIn h') {m : Str → Option Value} (hn : h'.Ns C m) (hz : g.objs.size ≤ C) :
    ∃ oL, isT oL = false ∧ Fm g C h' [] ((L, oL) :: bag) ∧ ∀ h'' nm bag'', Fm g C h'' nm ((L, oL) :: bag'') → Fm g L h'' l bag'' := by
  obtain ⟨m0, F0, e0⟩ := F.fr
  obtain ⟨oL, es, ep, ho, hd, hr⟩ := F0.ns
  have hT : isT oL = false := by unfold isT; rw [hd]
  have hLC : L ≠ C := fun e => by rw [e, hC] at ho; cases ho
  refine ⟨oL, hT, ⟨⟨m, ⟨hn, fun b o e => k b o (F.keep b o e), hz⟩, fun _ _ e => nomatch e⟩, fun p hp => ?_, muts_cons.mpr ⟨F.nd, fun _ q hq hqT => ((F.bg q hq).2 hqT).1⟩⟩, fun h'' nm bag'' F' => ?_⟩
  · rcases List.mem_cons.mp hp with rfl | hp
    · exact ⟨k _ _ ho, fun _ => ⟨hLC, F.old⟩⟩
    · refine ⟨k _ _ (F.bg p hp).1, fun z => ⟨fun e => ?_, ((F.bg p hp).2 z).2⟩⟩
      have := (F.bg p hp).1
      rw [e, hC] at this; cases this
  · have n := muts_cons.mp F'.nd
    exact ⟨⟨m0, ⟨⟨oL, es, ep, F'.has (.head _), hd, hr⟩, F'.keep, F.lt⟩, e0⟩, fun p hp => ⟨(F'.bg p (.tail _ hp)).1, fun z => ⟨n.2 hT p hp z, ((F'.bg p (.tail _ hp)).2 z).2⟩⟩, n.1⟩

-- comprehensions
def CompGo (prog : Program) (w : World) (A : Around) (E : Value → Shared → Prop) (use : Option (Value → Sem Unit)) (Q : Value → Shared → Prop) (elt target iter : Expr) (csc : Scope) (cpos : Pos) (ccl : List (Str × Addr)) (env : Env) (it : Value) (s₂ : Shared) : Prop :=
  wpAny (model prog w) A (newList []) (fun acc s₃ => wpAny (model prog w) A (newFunctionEnv csc env.globals ccl [] env.qual none .none (some env)) (fun cenv s₄ =>
    codeAny (model prog w) A (.compStart (.ListComp elt [⟨target, iter, [], 0⟩] csc cpos) 0 it acc { cenv with scope := relabel csc env }) (compPost (model prog w) A E use Q acc cenv.locals) s₄) E s₃) E s₂
/-- an element is made -/
def CEl (s : Shared) (g : Heap) (C : Addr) (p1 p2 : Addr × Obj) (D : Addr) (ys : List Value) (k : Nat) (bag : List (Addr × Obj)) (J : List Value → List (Addr × Obj) → Prop) (y : Value) (s₃ : Shared) : Prop :=
  ∃ h' tk' nm' ext', s₃ = At s h' tk' ∧ Fm g C h' nm' (p1 :: p2 :: (D, LO ys k) :: (ext' ++ bag)) ∧ J (ys ++ [y]) ext'
theorem CEl.mk {p1 p2 : Addr × Obj} {D : Addr} {ys : List Value} {k : Nat} {J : List Value → List (Addr × Obj) → Prop} {y : Value} {b : List (Addr × Obj)} (ext' : List (Addr × Obj)) (F : Fm g C h l b)
    (S : Sel (p1 :: p2 :: (D, LO ys k) :: (ext' ++ bag)) b) (j : J (ys ++ [y]) ext') : CEl s g C p1 p2 D ys k bag J y (At s h tk) := ⟨h, tk, l, ext', rfl, F.subb _ S, j⟩

theorem comp_core {use : Option (Value → Sem Unit)} {Q : Value → Shared → Prop} {elt target iter : Expr} {csc : Scope} {cpos : Pos} {ccl : List (Str × Addr)} {I : Addr} {n : Nat} {P : Nat → Value → Prop} {St : Nat → Heap → Prop} {fp : List Addr}
    (J : Nat → List Value → List (Addr × Obj) → Prop) (W : Walks prog w A I fp [I] n P St) (hn : n ≤ 1000) (F : Fm g L h l bag) (st : St 0 h) (hI : g.get? I = none) (hIL : I ≠ L) (off : ∀ p ∈ bag, p.1 ≠ I)
    (hst : ∀ i h, St i h → ∃ o, h.get? I = some o ∧ isT o = false) (hst0 : ∀ h', h.StaysIn h' → St 0 h')
    (hkeep : ∀ i h h' C b b' nm nm' o, St i h → h.get? I = some o → Fm g C h nm b → Fm g C h' nm' ((I, o) :: b') → (∀ p ∈ bag, p ∈ b) → (∀ p ∈ bag, p ∈ b') → St i h')
    (j0 : J 0 [] []) (hJ : ∀ i ys ext, J i ys ext → ys.length = i)
    (turn : ∀ i v C h tk nm oI p2 D ys k ext, i < n → P i v → J i ys ext → Fm g C h nm ((I, oI) :: p2 :: (D, LO ys k) :: (ext ++ bag)) →
      wpAny (model prog w) A (assign target (EV name (relabel csc (EV name scope L fn fr cd cl)) C none fr cd ccl) v) (fun _ s₂ =>
        wpAny (model prog w) A (eval elt (EV name (relabel csc (EV name scope L fn fr cd cl)) C none fr cd ccl)) (CEl s g C (I, oI) p2 D ys k bag (J (i + 1))) (fun _ _ => False) s₂) (fun _ _ => False) (At s h tk))
    (done : ∀ D C oC h tk k ys ext, J n ys ext → Fm g L h l ((C, oC) :: (D, LO ys k) :: (ext ++ bag)) → isT oC = false → (∃ m, h.Ns C m) → compPost (model prog w) A E use Q (.ref D) C (.ok .next) (At s h tk))
    (hcell : csc.names.all (fun x => x.2 != .cell) = true := by kernel_rfl!) (hk : csc.kind = .function := by kernel_rfl!) (ht : ∀ v, letOwnedTupleGo target (.ref I) v = pure () := by intro _; kernel_rfl!) :
    CompGo prog w A E use Q elt target iter csc cpos ccl (EV name scope L fn fr cd cl) (.ref I) (At s h tk) := by
  unfold CompGo
  refine wpAny_newObj_type ?_ (Nat.zero_le _)
  have F1 : Fm g L (h.push (LO [] 0)) l ((h.objs.size, LO [] 0) :: bag) := F.push _
  have k1 : h.StaysIn (h.push (LO [] 0)) := fun b o e => Heap.get?_push_of_some _ e
  show wpAny _ _ _ _ _ (At s (h.push (LO [] 0)) tk)
  have offD : h.objs.size ≠ I := fun e => by
    obtain ⟨o, ho, _⟩ := hst _ _ st
    exact absurd (Heap.lt_size ho) (by rw [e]; exact Nat.lt_irrefl _)
  generalize h.push (LO [] 0) = h1 at F1 k1
  generalize h.objs.size = D at F1 offD
  refine wpAny_newFunctionEnv (fun x hx => by simpa using List.all_eq_true.mp hcell x hx) (by intro y hy; simp at hy) (fun h2 hns hsb => ?_) hk
  dsimp only at hns hsb ⊢
  have hC1 : h1.get? h1.objs.size = none := Heap.get?_none_of_le (Nat.le_refl _)
  have k12 : h1.StaysIn h2 := fun b o e => hsb.extBut b o (fun q => by rw [q, hC1] at e; cases e) (Heap.get?_push_of_some _ e)
  have kh2 : h.StaysIn h2 := fun b o e => k12 b o (k1 b o e)
  have hz : g.objs.size ≤ h1.objs.size := by
    obtain ⟨o, ho⟩ := F1.here
    exact Nat.le_of_lt (Nat.lt_of_le_of_lt F1.lt (Heap.lt_size ho))
  have hCL := F1.new hC1
  have hCg := F1.fresh hC1
  obtain ⟨oL, hLT, F2, back⟩ := F1.inner hC1 k12 hns hz
  have st2 : St 0 h2 := hst0 h2 kh2
  have hIC : I ≠ h1.objs.size := fun e => by
    obtain ⟨o, ho, _⟩ := hst _ _ st
    have := k1 _ _ ho
    rw [e, hC1] at this; cases this
  generalize h1.objs.size = C at *
  have loop : codeAny (model prog w) A (.compLoop (.ListComp elt [⟨target, iter, [], 0⟩] csc cpos) 0 (.ref I) (.ref D) (EV name (relabel csc (EV name scope L fn fr cd cl)) C none fr cd ccl))
      (compPost (model prog w) A E use Q (.ref D) C) (At s h2 (tk + 0)) := by
    refine codeAny_compLoop_list (fun k s' => ∃ i h tk nm ys kk ext, s' = At s h tk ∧ i ≤ n ∧ k = n - i ∧ St i h ∧ Fm g C h nm ((L, oL) :: (D, LO ys kk) :: (ext ++ bag)) ∧ (∀ p ∈ ((L, oL) :: (D, LO ys kk) :: (ext ++ bag)), p.1 ≠ I) ∧ J i ys ext) ?_ n
      ⟨0, h2, _, _, [], 0, [], rfl, Nat.zero_le _, rfl, st2, F2, ?_, j0⟩ ht
    · rintro k s' ⟨i, h, tk, nm, ys, kk, ext, rfl, hi, rfl, st, F, off, j⟩
      by_cases hlt : i < n
      · refine W.item i (At s h tk) _ _ hlt st fun v h' tk' hP st' hkp => ?_
        have F' := F.but (mu := [I]) (fun b o e n => hkp b o n e) (fun b hb => by rw [List.mem_singleton.mp hb]; exact ⟨hI, hIC⟩) fun p hp => by simpa using off p hp
        obtain ⟨o, ho, hoT⟩ := hst _ _ st'
        have FI := F'.add ho fun _ => ⟨hIC, hI, fun p hp _ => off p hp⟩
        refine no_exc (wpAny_mono (turn i v C h' tk' nm o _ D ys kk ext hlt hP j FI) (fun _ s₂ q => ?_) fun _ _ x => x)
        refine no_exc (wpAny_mono q (fun y s₃ z => ?_) fun _ _ x => x)
        obtain ⟨h3, tk3, nm3, ext', rfl, F3, j3⟩ := z
        have hy := hJ _ _ _ j
        refine m_app (vs := ys) (n := kk) F3 (Pick.there (Pick.there Pick.here)) (by rw [sizeLine_eq]; omega) fun h4 k4 F4 => ?_
        have F5 := F4.subb ((I, o) :: (L, oL) :: (D, LO (ys ++ [y]) k4) :: (ext' ++ bag)) (Sel.cons (.there .here) (.cons (.there .here) (.cons .here .refl)))
        refine ⟨n - (i + 1), by omega, i + 1, h4, tk3, nm3, ys ++ [y], k4, ext', rfl, hlt, rfl, hkeep _ _ _ _ _ _ _ _ _ st' ho F' F5 ?_ ?_, F5.tail, fun p hp e => ?_, j3⟩
        · exact fun p hp => .tail _ (.tail _ (List.mem_append_right _ hp))
        · exact fun p hp => .tail _ (.tail _ (List.mem_append_right _ hp))
        · cases hT : isT p.2 with
          | false => exact (muts_cons.mp F5.nd).2 hoT p hp hT e
          | true =>
            have z := (F5.bg p (.tail _ hp)).1
            rw [e, F5.has (.head _)] at z
            rw [Option.some.inj z, hT] at hoT; cases hoT
      · have hi' : i = n := by omega
        subst hi'
        refine W.done (At s h tk) _ _ st fun h' tk' hkp => ?_
        have F' := F.but (mu := [I]) (fun b o e n => hkp b o n e) (fun b hb => by rw [List.mem_singleton.mp hb]; exact ⟨hI, hIC⟩) fun p hp => by simpa using off p hp
        obtain ⟨m, FC, _⟩ := F'.fr
        obtain ⟨oC, es, ep, hoC, hdC, hrC⟩ := FC.ns
        have hCT : isT oC = false := by unfold isT; rw [hdC]
        exact done D C oC h' tk' kk ys ext j ((back _ _ _ F').add hoC fun _ => ⟨hCL, hCg, fun q hq hqT => ((F'.bg q (.tail _ hq)).2 hqT).1⟩) hCT ⟨m, FC.ns⟩
    · intro p hp
      rcases List.mem_cons.mp hp with rfl | hp
      · exact fun e => hIL e.symm
      rcases List.mem_cons.mp hp with rfl | hp
      · exact offD
      · exact off p hp
  exact codeAny_compStart_list loop (W.self 0 _ _ _ st2 loop)

theorem Fm.forget {a : Addr} {o : Obj} (F : Fm g L h l ((a, o) :: bag)) (z : isT o = false) (hs : Heap.SameBut a h h') : Fm g L h' l bag := by
  have f := F.bg _ (.head _)
  refine F.tail.but (mu := [a]) (KeepsBut.same hs) (fun b hb => by rw [List.mem_singleton.mp hb]; exact ⟨(f.2 z).2, (f.2 z).1⟩) fun p hp q => ?_
  have q := List.mem_singleton.mp q
  cases hT : isT p.2 with
  | false => exact (muts_cons.mp F.nd).2 z p hp hT q
  | true =>
    have y := (F.bg p (.tail _ hp)).1
    rw [q, f.1] at y
    have y := Option.some.inj y
    dsimp only at y
    rw [y, hT] at z; cases z

/-- a comprehension's list is handed on -/
theorem cp_plain {Q : Value → Shared → Prop} {D C : Addr} {oC : Obj} {k : Nat} {ys : List Value} {b : List (Addr × Obj)} (F : Fm g L h l ((C, oC) :: (D, LO ys k) :: b)) (z : isT oC = false) (hn : ∃ m, h.Ns C m)
    (q : ∀ h', Fm g L h' l ((D, LO ys k) :: b) → Q (.ref D) (At s h' tk)) : compPost (model prog w) A E none Q (.ref D) C (.ok .next) (At s h tk) :=
  let ⟨m, hm⟩ := hn; ⟨m, hm, fun h' hs => q h' (F.forget z hs)⟩
/-- a comprehension's list is named -/
theorem cp_name {Q : Value → Shared → Prop} {y : Str} {py : Pos} {D C : Addr} {oC : Obj} {k : Nat} {ys : List Value} {b : List (Addr × Obj)} (hx : scope.names.lookup y = some .local) (F : Fm g L h l ((C, oC) :: (D, LO ys k) :: b)) (z : isT oC = false) (hn : ∃ m, h.Ns C m)
    (q : ∀ h' tk', Fm g L h' ((y, .ref D) :: l) ((D, LO ys k) :: b) → Q .none (At s h' tk')) (hk : scope.kind = .function := by kernel_rfl!) :
    compPost (model prog w) A E (some (assign (.Name y py) (EV name scope L fn fr cd cl))) Q (.ref D) C (.ok .next) (At s h tk) := by
  obtain ⟨m, o, es, ep, ho, hd, hr⟩ := hn
  rw [F.has (.head _)] at ho
  have ho := Option.some.inj ho
  show wpAny _ _ (assign (.Name y py) (EV name scope L fn fr cd cl) (.ref D)) _ _ _
  refine wpAny_assign_Name (e_store hx F (fun h' tk' F' => ?_) hk)
  exact ⟨m, ⟨oC, es, ep, F'.has (.head _), ho ▸ hd, hr⟩, fun h'' hs => q h'' tk' (F'.forget z hs)⟩

theorem e_comp {elt target iter : Expr} {csc : Scope} {cpos : Pos} {ccl : List (Str × Addr)} {Q : Value → Shared → Prop} {s : Shared} (hclos : closureFor csc env = pure ccl)
    (q : wpAny (model prog w) A (eval iter env) (fun xv s₁ => wpAny (model prog w) A (pyIter xv) (fun it s₂ => CompGo prog w A E none Q elt target iter csc cpos ccl env it s₂) E s₁) E s)
    (hs : ∀ x, foldedSetIterable iter env x = pure x := by intro _; kernel_rfl!) (hk : csc.kind = .function := by kernel_rfl!) (hnames : csc.names.all (fun x => x.2 != .local || csc.names.lookup x.1 == some .local) = true := by kernel_rfl!) :
    wpAny (model prog w) A (eval (.ListComp elt [⟨target, iter, [], 0⟩] csc cpos) env) Q E s := by
  rw [eval_ListComp]
  exact wpAny_comprehension_free (use := none) rfl hs hclos hk (fun x hx hl => by have := List.all_eq_true.mp hnames x hx; simpa [hl] using this) q
theorem s_comp {y : Str} {py spos : Pos} {elt target iter : Expr} {csc : Scope} {cpos : Pos} {ccl : List (Str × Addr)} {rest : List Stmt} {Q : Flow → Shared → Prop} {s : Shared} (hclos : closureFor csc env = pure ccl)
    (q : wpAny (model prog w) A (eval iter env) (fun xv s₁ => wpAny (model prog w) A (pyIter xv) (fun it s₂ => CompGo prog w A E (some (assign (.Name y py) env)) (fun _ s' => wpAny (model prog w) A (execs rest env) Q E s') elt target iter csc cpos ccl env it s₂) E s₁) E s)
    (hsw : swapsWith (.ListComp elt [⟨target, iter, [], 0⟩] csc cpos) (some (.Name y py)) spos.line env = pure true := by kernel_rfl!)
    (hs : ∀ x, foldedSetIterable iter env x = pure x := by intro _; kernel_rfl!) (hk : csc.kind = .function := by kernel_rfl!) (hnames : csc.names.all (fun x => x.2 != .local || csc.names.lookup x.1 == some .local) = true := by kernel_rfl!) :
    wpAny (model prog w) A (execs (.Assign [.Name y py] (.ListComp elt [⟨target, iter, [], 0⟩] csc cpos) spos :: rest) env) Q E s := by
  refine wpAny_execs_cons ?_
  rw [exec_Assign_Name_used _ _ _ _ hsw]
  refine wpAny_bind (wpAny_standAt (wpAny_bind ?_))
  show wpAny _ A (do let _ ← comprehension (.ListComp elt [⟨target, iter, [], 0⟩] csc cpos) csc env _ (newList []) false (eval iter env) (some (assign (.Name y py) env))) _ _ s
  refine wpAny_bind (wpAny_mono (wpAny_comprehension_free (use := some (assign (.Name y py) env)) (Q := fun _ s' => wpAny (model prog w) A (execs rest env) Q E s') rfl hs hclos hk
    (fun x hx hl => by have := List.all_eq_true.mp hnames x hx; simpa [hl] using this) q) (fun _ s' hq => wpAny_pure (wpAny_pure hq)) fun _ _ e => e)

-- sources
variable {use : Option (Value → Sem Unit)} {Q : Value → Shared → Prop} {elt target iter : Expr} {csc : Scope} {cpos : Pos} {ccl : List (Str × Addr)}
theorem c_list {lst : Addr} {vs : List Value} (J : Nat → List Value → List (Addr × Obj) → Prop) (hh : A.handled = none) (F : Fm g L h l bag) (hl : ∀ C h nm b, Fm g C h nm b → (∀ p ∈ bag, p ∈ b) → h.IsList lst vs.toArray) (hn : vs.length ≤ 1000)
    (j0 : J 0 [] []) (hJ : ∀ i ys ext, J i ys ext → ys.length = i)
    (turn : ∀ i v C h tk nm I oI p2 D ys k ext, i < vs.length → vs[i]? = some v → J i ys ext → Fm g C h nm ((I, oI) :: p2 :: (D, LO ys k) :: (ext ++ bag)) →
      wpAny (model prog w) A (assign target (EV name (relabel csc (EV name scope L fn fr cd cl)) C none fr cd ccl) v) (fun _ s₂ =>
        wpAny (model prog w) A (eval elt (EV name (relabel csc (EV name scope L fn fr cd cl)) C none fr cd ccl)) (CEl s g C (I, oI) p2 D ys k bag (J (i + 1))) (fun _ _ => False) s₂) (fun _ _ => False) (At s h tk))
    (done : ∀ D C oC h tk k ys ext, J vs.length ys ext → Fm g L h l ((C, oC) :: (D, LO ys k) :: (ext ++ bag)) → isT oC = false → (∃ m, h.Ns C m) → compPost (model prog w) A E use Q (.ref D) C (.ok .next) (At s h tk))
    (hcell : csc.names.all (fun x => x.2 != .cell) = true := by kernel_rfl!) (hk : csc.kind = .function := by kernel_rfl!) (ht : ∀ I v, letOwnedTupleGo target (.ref I) v = pure () := by intro _ _; kernel_rfl!) :
    wpAny (model prog w) A (pyIter (.ref lst)) (fun it s₂ => CompGo prog w A E use Q elt target iter csc cpos ccl (EV name scope L fn fr cd cl) it s₂) E (At s h tk) := by
  have hls := hl L h _ bag F fun _ x => x
  have hne : lst ≠ h.objs.size := by obtain ⟨o, ho, _⟩ := hls; exact Nat.ne_of_lt (Heap.lt_size ho)
  refine wpAny_pyIter_list (s := At s h tk) hls ?_
  have hIn : h.get? h.objs.size = none := Heap.get?_none_of_le (Nat.le_refl _)
  have W := Walks.list (prog := prog) (w := w) hh h.objs.size lst hne vs.toArray
  have hvsz : vs.toArray.size = vs.length := List.size_toArray ..
  rw [hvsz] at W
  have st0 : ∀ b o, h.get? b = some o → (h.push { cls := .type "list_iterator", data := .fields #[.ref lst, .int 0 0] }).get? b = some o := fun b o e => Heap.get?_push_of_some _ e
  have s0 : (h.push { cls := .type "list_iterator", data := .fields #[.ref lst, .int 0 0] }).IsListIter h.objs.size lst 0 := ⟨_, Heap.get?_push_size _ rfl, rfl, rfl⟩
  refine comp_core (s := s) J W hn (F.grow st0) ⟨s0, hls.at fun o e => st0 _ _ e⟩ (F.fresh hIn) (F.new hIn) (fun p hp e => F.ne hp hIn e.symm) ?_ ?_ ?_ j0 hJ ?_ done hcell hk (ht _)
  · rintro i h ⟨⟨o, ho, _, hd⟩, _⟩
    exact ⟨o, ho, by unfold isT; rw [hd]⟩
  · exact fun h' k => ⟨s0.at fun o e => k _ _ e, hls.at fun o e => k _ _ (st0 _ _ e)⟩
  · rintro i h h' C b b' nm nm' o ⟨hit, _⟩ ho _ F' _ hb'
    exact ⟨hit.at fun o' e => by rw [ho] at e; cases e; exact F'.has (.head _), hl C h' _ _ F' fun p hp => .tail _ (hb' p hp)⟩
  · intro i v C h tk nm oI p2 D ys k ext hi hP j F
    exact turn i v C h tk nm _ oI p2 D ys k ext hi (by simpa using hP) j F
theorem c_tuple {tup : Addr} {vs : List Value} (J : Nat → List Value → List (Addr × Obj) → Prop) (hh : A.handled = none) (F : Fm g L h l bag) (hl : IsTup g tup vs.toArray) (hn : vs.length ≤ 1000)
    (j0 : J 0 [] []) (hJ : ∀ i ys ext, J i ys ext → ys.length = i)
    (turn : ∀ i v C h tk nm I oI p2 D ys k ext, i < vs.length → vs[i]? = some v → J i ys ext → Fm g C h nm ((I, oI) :: p2 :: (D, LO ys k) :: (ext ++ bag)) →
      wpAny (model prog w) A (assign target (EV name (relabel csc (EV name scope L fn fr cd cl)) C none fr cd ccl) v) (fun _ s₂ =>
        wpAny (model prog w) A (eval elt (EV name (relabel csc (EV name scope L fn fr cd cl)) C none fr cd ccl)) (CEl s g C (I, oI) p2 D ys k bag (J (i + 1))) (fun _ _ => False) s₂) (fun _ _ => False) (At s h tk))
    (done : ∀ D C oC h tk k ys ext, J vs.length ys ext → Fm g L h l ((C, oC) :: (D, LO ys k) :: (ext ++ bag)) → isT oC = false → (∃ m, h.Ns C m) → compPost (model prog w) A E use Q (.ref D) C (.ok .next) (At s h tk))
    (hcell : csc.names.all (fun x => x.2 != .cell) = true := by kernel_rfl!) (hk : csc.kind = .function := by kernel_rfl!) (ht : ∀ I v, letOwnedTupleGo target (.ref I) v = pure () := by intro _ _; kernel_rfl!) :
    wpAny (model prog w) A (pyIter (.ref tup)) (fun it s₂ => CompGo prog w A E use Q elt target iter csc cpos ccl (EV name scope L fn fr cd cl) it s₂) E (At s h tk) := by
  have hg : ∀ C h nm b, Fm g C h nm b → h.IsTuple tup vs.toArray := fun C h nm b F => let ⟨o, ho, hc, n, hd⟩ := hl.keeps F.keep; ⟨o, ho, hc, n, hd⟩
  have hls := hg L h _ bag F
  have hne : tup ≠ h.objs.size := by obtain ⟨o, ho, _⟩ := hls; exact Nat.ne_of_lt (Heap.lt_size ho)
  refine wpAny_pyIter_tuple (s := At s h tk) hls ?_
  have hIn : h.get? h.objs.size = none := Heap.get?_none_of_le (Nat.le_refl _)
  have W := Walks.tuple (prog := prog) (w := w) hh h.objs.size tup hne vs.toArray
  have hvsz : vs.toArray.size = vs.length := List.size_toArray ..
  rw [hvsz] at W
  have st0 : ∀ b o, h.get? b = some o → (h.push { cls := .type "tuple_iterator", data := .fields #[.ref tup, .int 0 0] }).get? b = some o := fun b o e => Heap.get?_push_of_some _ e
  have s0 : (h.push { cls := .type "tuple_iterator", data := .fields #[.ref tup, .int 0 0] }).IsTupleIter h.objs.size tup 0 := ⟨_, Heap.get?_push_size _ rfl, rfl, rfl⟩
  refine comp_core (s := s) J W hn (F.grow st0) ⟨s0, hls.at fun o e => st0 _ _ e⟩ (F.fresh hIn) (F.new hIn) (fun p hp e => F.ne hp hIn e.symm) ?_ ?_ ?_ j0 hJ ?_ done hcell hk (ht _)
  · rintro i h ⟨⟨o, ho, _, hd⟩, _⟩
    exact ⟨o, ho, by unfold isT; rw [hd]⟩
  · exact fun h' k => ⟨s0.at fun o e => k _ _ e, hls.at fun o e => k _ _ (st0 _ _ e)⟩
  · rintro i h h' C b b' nm nm' o ⟨hit, _⟩ ho _ F' _ hb'
    exact ⟨hit.at fun o' e => by rw [ho] at e; cases e; exact F'.has (.head _), hg C h' _ _ F'⟩
  · intro i v C h tk nm oI p2 D ys k ext hi hP j F
    exact turn i v C h tk nm _ oI p2 D ys k ext hi (by simpa using hP) j F
/-- over range(a, a + n) -/
theorem c_range {a b : Int} {t u : Tok} (n : Nat) (J : Nat → List Value → List (Addr × Obj) → Prop) (hh : A.handled = none) (F : Fm g L h l bag) (hab : b = a + n) (ha : -1000000 ≤ a ∧ a ≤ 1000000) (hn : n ≤ 1000)
    (j0 : J 0 [] []) (hJ : ∀ i ys ext, J i ys ext → ys.length = i)
    (turn : ∀ (i : Nat) v C h tk nm I oI p2 D ys k ext, i < n → (∃ t, v = .int (a + i) t) → J i ys ext → Fm g C h nm ((I, oI) :: p2 :: (D, LO ys k) :: (ext ++ bag)) →
      wpAny (model prog w) A (assign target (EV name (relabel csc (EV name scope L fn fr cd cl)) C none fr cd ccl) v) (fun _ s₂ =>
        wpAny (model prog w) A (eval elt (EV name (relabel csc (EV name scope L fn fr cd cl)) C none fr cd ccl)) (CEl s g C (I, oI) p2 D ys k bag (J (i + 1))) (fun _ _ => False) s₂) (fun _ _ => False) (At s h tk))
    (done : ∀ D C oC h tk k ys ext, J n ys ext → Fm g L h l ((C, oC) :: (D, LO ys k) :: (ext ++ bag)) → isT oC = false → (∃ m, h.Ns C m) → compPost (model prog w) A E use Q (.ref D) C (.ok .next) (At s h tk))
    (hcell : csc.names.all (fun x => x.2 != .cell) = true := by kernel_rfl!) (hk : csc.kind = .function := by kernel_rfl!) (ht : ∀ I v, letOwnedTupleGo target (.ref I) v = pure () := by intro _ _; kernel_rfl!) :
    wpAny (model prog w) A (call (.type "range") [.int a t, .int b u]) (fun xv s₁ => wpAny (model prog w) A (pyIter xv) (fun it s₂ => CompGo prog w A E use Q elt target iter csc cpos ccl (EV name scope L fn fr cd cl) it s₂) E s₁) E (At s h tk) := by
  subst hab
  refine call_range_2 ?_
  change wpAny (model prog w) A (pyIter (.ref h.objs.size)) _ E (At s (h.push { cls := .type "range", data := .fields #[.int a t, .int (a + n) u, .int 1 tk] }) (tk + 1))
  generalize hp : h.push { cls := .type "range", data := .fields #[.int a t, .int (a + n) u, .int 1 tk] } = h1
  have hr : IsRange h1 h.objs.size a (a + n) 1 t u tk := by rw [← hp]; exact Heap.get?_push_size _ rfl
  have F1 : Fm g L h1 l bag := F.grow fun b o e => by rw [← hp]; exact Heap.get?_push_of_some _ e
  have hsz : Builtin.Range.rangeSize a (a + n) 1 = (n : Int) := by rw [rangeSize_nat]; omega
  refine wpAny_pyIter_range (s := At s h1 (tk + 1)) hr (small_one (by omega) (by omega) (by omega) (by omega)) ?_
  have hIn : h1.get? h1.objs.size = none := Heap.get?_none_of_le (Nat.le_refl _)
  have W : Walks prog w A h1.objs.size [h1.objs.size] [h1.objs.size] n (fun i v => ∃ t, v = .int (a + i * 1) t) (fun i h => IsRangeIter h h1.objs.size (a + (i : Nat) * 1) ((n : Int) - (i : Nat)) 1) := Walks.range hh _ a 1 n
  have st0 : ∀ b o, h1.get? b = some o → (h1.push { cls := .type "range_iterator", data := .fields #[rawInt a, rawInt (Builtin.Range.rangeSize a (a + n) 1), rawInt 1] }).get? b = some o := fun b o e => Heap.get?_push_of_some _ e
  have s0 : IsRangeIter (h1.push { cls := .type "range_iterator", data := .fields #[rawInt a, rawInt (Builtin.Range.rangeSize a (a + n) 1), rawInt 1] }) h1.objs.size (a + (0 : Nat) * 1) ((n : Int) - (0 : Nat)) 1 := by
    rw [hsz]
    have e0 : a + ((0 : Nat) : Int) * 1 = a := by omega
    have e1 : (n : Int) - ((0 : Nat) : Int) = n := by omega
    rw [e0, e1]; exact Heap.get?_push_size _ rfl
  refine comp_core (s := s) J W hn (F1.grow st0) s0 (F1.fresh hIn) (F1.new hIn) (fun p hp e => F1.ne hp hIn e.symm) ?_ ?_ ?_ j0 hJ ?_ done hcell hk (ht _)
  · rintro i h ho
    exact ⟨_, ho, rfl⟩
  · exact fun h' k => k _ _ s0
  · rintro i h h' C b b' nm nm' o hit ho _ F' _ hb'
    have hit' : h.get? h1.objs.size = _ := hit
    rw [hit'] at ho
    have e := F'.has (.head _)
    rw [← ho] at e
    exact e
  · rintro i v C h tk nm oI p2 D ys k ext hi ⟨t, rfl⟩ j F
    exact turn i _ C h tk nm _ oI p2 D ys k ext hi ⟨t, by rw [Int.mul_one]⟩ j F
end
section
variable {prog : Program} {w : World} {f : Addr} {args : List Value} {k : Nat} {s : Shared} {Post : Value → Heap → Prop}
theorem s_defC {binds : List (Str × Value)} {name qual : Str} {params : Arguments} {body : List Stmt} {scope : Scope} {dV kV doc pm cdv ct oc : Value} {an od : Option Addr} {osl : Array (Option Value)}
    (ho : (Mine.hd.heap_39 w.params).lookup f = some ⟨oc, od, .func (fnOf name qual params body scope dV kV doc pm an cdv ct), osl⟩) (hcd : codeIn (Mine.hd.heap_39 w.params) cdv qual = true)
    (hbind : (Mine.hd.heap_39 w.params).In s.heap → BindsTo s (fnOf name qual params body scope dV kV doc pm an cdv ct) ⟨args, []⟩ binds)
    (hkind : ∀ n, ∀ x ∈ binds, scope.names.lookup x.1 = some .local ∨ (scope.names.lookup x.1 = some .cell ∧ ((cellsFrom n scope.names []).lookup x.1).isSome = true))
    (hnd : ((cellsFrom 0 scope.names []).map (·.1)).Nodup)
    (q : ∀ (A : Around) L h tk cells, A.handled = none → A.depth + k < recursionLimit → A.units + 8 * k < cLine → Gd w s.heap → Fr s.heap L h (bindL (fun x => scope.names.lookup x) binds fun _ => none) → News s.heap L h cells →
      CellsAre (bindC (fun x => scope.names.lookup x) binds fun _ => none) (cellsFrom (L + 1) scope.names []) cells →
      wpAny (model prog w) A (execs body (EV (qual ++ ".<locals>.") scope L (some f) (some L) cdv (cellsFrom (L + 1) scope.names []))) (Fin s s.heap L Post) (fun _ _ => False) (At s h tk))
    (hco : scope.isCoroutine = false := by kernel_rfl!) (hgen : scope.isGenerator = false := by kernel_rfl!) (hk : scope.kind = .function := by kernel_rfl!) :
    Spec prog w f args (k + 1) s [] Post := by
  intro A g R hh hd hu G hst hm hq
  have GS : Gd w s.heap := G.keeps hst
  obtain ⟨p, loose, mg, mb, T⟩ := GS.T
  refine codeAny_call_function (by omega) (GS.K _ _ ho) rfl hco hgen rfl (codeRec_of GS.K hcd) (hbind GS.K _ _ _ _ ?_)
  refine wpAny_newFunctionEnv_cells hk (hkind _) fun env' he s' x => ?_
  subst he
  refine ⟨T.nolimit.keeps x.toInCall.keep, codeAny_func ?_⟩
  obtain ⟨h₁, tk, rfl, _⟩ := x.done
  have hk₁ := x.toInCall.keep
  obtain ⟨cells, NC, Y⟩ := Cl.news (h₀ := s.heap) (Nat.le_refl _) fun n c hm => ⟨x.cell n c (lookup_of_mem_nodup (cellsFrom_names scope.names 0 (s.heap.objs.size + 1) [] [] rfl ▸ hnd) hm), x.above n c hm⟩
  refine wpAny_mono (q (A.deeper (EV (qual ++ ".<locals>.") scope s.heap.objs.size (some f) (some s.heap.objs.size) cdv (cellsFrom (s.heap.objs.size + 1) scope.names []))) s.heap.objs.size h₁ tk cells hh (by show A.depth + 1 + k < _; omega) (by show A.units + 3 + 8 * k < _; omega) GS
    ⟨x.toInCall.ns, hk₁, Nat.le_refl _⟩ NC Y) (fun fl s' hl => ?_) fun _ _ x => x.elim
  obtain ⟨h', tk', m', rfl, F', P⟩ := hl
  cases fl <;> exact hq _ h' tk' (fun b o e _ => F'.keep b o e) P
end

end
section
-- the model's bit operations on naturals
theorem band (x y : Nat) : Builtin.bitAnd (x : Int) (y : Int) = ((x &&& y : Nat) : Int) := by
  unfold Builtin.bitAnd
  rw [decide_eq_true (Int.natCast_nonneg x), decide_eq_true (Int.natCast_nonneg y)]
  simp
theorem bor (x y : Nat) : Builtin.bitOr (x : Int) (y : Int) = ((x ||| y : Nat) : Int) := by
  unfold Builtin.bitOr Builtin.bitAnd Builtin.bitNot
  have hx : ¬ (0 : Int) ≤ -(x : Int) - 1 := by omega
  have hy : ¬ (0 : Int) ≤ -(y : Int) - 1 := by omega
  rw [decide_eq_false hx, decide_eq_false hy]
  have e1 : -(-(x : Int) - 1) - 1 = x := by omega
  have e2 : -(-(y : Int) - 1) - 1 = y := by omega
  simp only [e1, e2, Int.toNat_natCast]
  omega
theorem or_xor_and (x : Nat) : ∀ y, (x ||| y) = (x ^^^ y) + (x &&& y) := by
  induction x using Nat.strongRecOn with
  | ind x ih =>
    intro y
    by_cases hx : x = 0
    · subst hx; simp
    · have h := ih (x / 2) (Nat.div_lt_self (Nat.pos_of_ne_zero hx) (by decide)) (y / 2)
      rw [← Nat.or_div_two, ← Nat.xor_div_two, ← Nat.and_div_two] at h
      have key : (x ||| y) % 2 = (x ^^^ y) % 2 + (x &&& y) % 2 := by
        have e1 : (x ||| y) % 2 = ((x % 2) ||| (y % 2)) % 2 := by simp [Nat.or_mod_two_pow (n := 1)]
        have e2 : (x ^^^ y) % 2 = ((x % 2) ^^^ (y % 2)) % 2 := by simp [Nat.xor_mod_two_pow (n := 1)]
        have e3 : (x &&& y) % 2 = ((x % 2) &&& (y % 2)) % 2 := by simp [Nat.and_mod_two_pow (n := 1)]
        rw [e1, e2, e3]
        rcases Nat.mod_two_eq_zero_or_one x with a | a <;> rcases Nat.mod_two_eq_zero_or_one y with b | b <;> (rw [a, b]; decide)
      have o1 := Nat.div_add_mod (x ||| y) 2
      have o2 := Nat.div_add_mod (x ^^^ y) 2
      have o3 := Nat.div_add_mod (x &&& y) 2
      rw [← o1, ← o2, ← o3, h, key, Nat.mul_add, Nat.add_add_add_comm]
theorem bxor (x y : Nat) : Builtin.bitXor (x : Int) (y : Int) = ((x ^^^ y : Nat) : Int) := by
  unfold Builtin.bitXor
  rw [bor, band]
  have := or_xor_and x y
  omega
theorem intBits_le {x : Nat} {k : Nat} (h : x < 2 ^ k) : (Builtin.Int.intBits (x : Int) : Int) ≤ k := by
  by_cases hx : x = 0
  · subst hx; simp [Builtin.Int.intBits]
  · unfold Builtin.Int.intBits
    have hl := (Nat.log2_lt hx).mpr h
    simp only [Int.natAbs_natCast]
    split <;> omega

/-- the number whose bits are f of the items -/
def B (f : Nat → Bool) : List Nat → Nat
  | [] => 0
  | c :: r => (f c).toNat + 2 * B f r
def fl (c : Nat) : Bool := c % 2 == 1
def fh (c : Nat) : Bool := c / 2 % 2 == 1
abbrev lo (l : List Nat) : Nat := B fl l
abbrev hi (l : List Nat) : Nat := B fh l

theorem B_lt (f : Nat → Bool) : ∀ l : List Nat, B f l < 2 ^ l.length
  | [] => by simp [B]
  | c :: r => by
    have := B_lt f r
    rw [B, List.length_cons, Nat.pow_succ]
    cases f c <;> simp <;> omega
theorem B_bit {f : Nat → Bool} (f0 : f 0 = false) : ∀ (l : List Nat) (i : Nat), (B f l).testBit i = f (l.getD i 0)
  | [], i => by simp [B, f0]
  | c :: r, 0 => by
    rw [B, Nat.testBit_zero]
    cases h : f c <;> simp [h] <;> omega
  | c :: r, i + 1 => by
    rw [B, Nat.testBit_succ, show ((f c).toNat + 2 * B f r) / 2 = B f r by cases f c <;> simp <;> omega, B_bit f0 r i]
    simp
theorem fl0 : fl 0 = false := rfl
theorem fh0 : fh 0 = false := rfl
theorem fl3 : fl 3 = true := rfl
theorem fh3 : fh 3 = true := rfl

/-- the bit at a place of any sign: x (3) outside -/
def atI (l : List Nat) (k : Int) : Nat := if 0 ≤ k ∧ k < l.length then l.getD k.toNat 0 else 3
def sliceL (l : List Nat) (k : Int) (w : Nat) : List Nat := (List.range w).map fun (j : Nat) => atI l (k + (j : Int))
theorem sliceL_length (l : List Nat) (k : Int) (w : Nat) : (sliceL l k w).length = w := by simp [sliceL]
theorem sliceL_getD (l : List Nat) (k : Int) (w i : Nat) : (sliceL l k w).getD i 0 = if i < w then atI l (k + i) else 0 := by
  unfold sliceL
  by_cases h : i < w
  · simp [h]
  · simp [h]
theorem slice_in {f : Nat → Bool} (f0 : f 0 = false) (f3 : f 3 = true) (l : List Nat) (k : Int) (w first n shift : Nat) (h1 : (first : Int) = max k 0) (h2 : (first + n : Int) = min (k + w) l.length)
    (h3 : (shift : Int) = first - k) (hn : 0 < n) :
    ((((B f l) / 2 ^ first) &&& (2 ^ n - 1)) * 2 ^ shift) ||| ((2 ^ w - 1) ^^^ ((2 ^ n - 1) * 2 ^ shift)) = B f (sliceL l k w) := by
  apply Nat.eq_of_testBit_eq; intro i
  rw [B_bit f0, sliceL_getD]
  simp only [Nat.testBit_or, Nat.testBit_and, Nat.testBit_xor, Nat.testBit_mul_two_pow, Nat.testBit_div_two_pow, Nat.testBit_two_pow_sub_one, B_bit f0]
  by_cases hw : i < w
  · rw [if_pos hw]
    unfold atI
    by_cases hs : shift ≤ i ∧ i - shift < n
    · rw [if_pos (by omega)]
      have e : i - shift + first = (k + (i : Int)).toNat := by omega
      simp [hs.1, hs.2, hw, e]
    · rw [if_neg (by omega), f3]
      have : ¬ (shift ≤ i ∧ i - shift < n) := hs
      by_cases h5 : shift ≤ i
      · have : ¬ i - shift < n := fun q => hs ⟨h5, q⟩
        simp [h5, this, hw]
      · simp [h5, hw]
  · rw [if_neg hw, f0]
    have : ¬ (shift ≤ i ∧ i - shift < n) := by omega
    by_cases h5 : shift ≤ i
    · have : ¬ i - shift < n := fun q => this ⟨h5, q⟩
      simp [h5, this, hw]
    · simp [h5, hw]
theorem slice_out {f : Nat → Bool} (f0 : f 0 = false) (f3 : f 3 = true) (l : List Nat) (k : Int) (w : Nat) (h : min (k + w) l.length ≤ max k 0) : 2 ^ w - 1 = B f (sliceL l k w) := by
  apply Nat.eq_of_testBit_eq; intro i
  rw [B_bit f0, sliceL_getD, Nat.testBit_two_pow_sub_one]
  by_cases hw : i < w
  · rw [if_pos hw]
    unfold atI
    rw [if_neg (by omega), f3]; simp [hw]
  · rw [if_neg hw, f0]; simp [hw]

end
section
set_option linter.unusedSimpArgs false
theorem getD_mem_or (l : List Nat) (i : Nat) : l.getD i 0 = 0 ∨ l.getD i 0 ∈ l := by
  by_cases h : i < l.length
  · right; simp [List.getD_eq_getElem?_getD, h]
  · left; simp [List.getD_eq_getElem?_getD, h]
theorem code_cases {c : Nat} (h : c ≤ 3) : c = 0 ∨ c = 1 ∨ c = 2 ∨ c = 3 := by omega
theorem getD_le {l : List Nat} (h : ∀ c ∈ l, c ≤ 3) (i : Nat) : l.getD i 0 ≤ 3 := by
  rcases getD_mem_or l i with e | e
  · omega
  · exact h _ e
theorem exists_getD {l : List Nat} {c : Nat} (h : c ∈ l) : ∃ i, i < l.length ∧ l.getD i 0 = c := by
  obtain ⟨i, hi, e⟩ := List.mem_iff_getElem.mp h
  exact ⟨i, hi, by simp [List.getD_eq_getElem?_getD, hi, e]⟩

theorem sure_iff {l : List Nat} (h : ∀ c ∈ l, c ≤ 3) : (lo l &&& (hi l ^^^ (2 ^ l.length - 1))) ≠ 0 ↔ 1 ∈ l := by
  have tb : ∀ i, (lo l &&& (hi l ^^^ (2 ^ l.length - 1))).testBit i = (fl (l.getD i 0) && (fh (l.getD i 0) != decide (i < l.length))) := by
    intro i
    simp only [Nat.testBit_and, Nat.testBit_xor, Nat.testBit_two_pow_sub_one, B_bit fl0, B_bit fh0]
  constructor
  · intro hne
    obtain ⟨i, hi⟩ := Nat.exists_testBit_of_ne_zero hne
    rw [tb] at hi
    rcases getD_mem_or l i with e | e
    · rw [e] at hi; simp [fl] at hi
    · by_cases hlt : i < l.length
      · rcases code_cases (getD_le h i) with q | q | q | q <;> rw [q] at hi e
        · simp [fl] at hi
        · exact e
        · simp [fl] at hi
        · simp [fl, fh, hlt] at hi
      · have : l.getD i 0 = 0 := by simp [List.getD_eq_getElem?_getD, Nat.not_lt.mp hlt]
        rw [this] at hi; simp [fl] at hi
  · intro hm hz
    obtain ⟨i, hi, e⟩ := exists_getD hm
    have := tb i
    rw [hz, e] at this
    simp [fl, fh, hi] at this
theorem zero_iff {l : List Nat} (h : ∀ c ∈ l, c ≤ 3) : (lo l = 0 ∧ hi l = 0) ↔ ∀ c ∈ l, c = 0 := by
  constructor
  · rintro ⟨h1, h2⟩ c hc
    obtain ⟨i, _, e⟩ := exists_getD hc
    have a : (lo l).testBit i = _ := B_bit fl0 l i
    have b : (hi l).testBit i = _ := B_bit fh0 l i
    rw [h1, e] at a; rw [h2, e] at b
    simp at a b
    rcases code_cases (h c hc) with q | q | q | q <;> subst q <;> first | rfl | simp [fl, fh] at a b
  · intro hz
    constructor <;> (apply Nat.eq_of_testBit_eq; intro i; rw [Nat.zero_testBit])
    · rw [B_bit fl0]; rcases getD_mem_or l i with e | e
      · rw [e]; rfl
      · rw [hz _ e]; rfl
    · rw [B_bit fh0]; rcases getD_mem_or l i with e | e
      · rw [e]; rfl
      · rw [hz _ e]; rfl

/-- truth of a list of codes -/
def truthL (l : List Nat) : Nat := if 1 ∈ l then 1 else if ∀ c ∈ l, c = 0 then 0 else 3

theorem hi_zero {l : List Nat} (h : ∀ c ∈ l, c ≤ 3) : hi l = 0 ↔ ∀ c ∈ l, c ≤ 1 := by
  constructor
  · intro h2 c hc
    obtain ⟨i, _, e⟩ := exists_getD hc
    have b : (hi l).testBit i = _ := B_bit fh0 l i
    rw [h2, e] at b
    simp at b
    rcases code_cases (h c hc) with q | q | q | q <;> subst q <;> first | omega | simp [fh] at b
  · intro hz
    apply Nat.eq_of_testBit_eq; intro i; rw [Nat.zero_testBit, B_bit fh0]
    rcases getD_mem_or l i with e | e
    · rw [e]; rfl
    · have := hz _ e
      have : l.getD i 0 = 0 ∨ l.getD i 0 = 1 := by omega
      rcases this with q | q <;> rw [q] <;> rfl
def wholeL (l : List Nat) (signed : Bool) : Option Int :=
  if ∀ c ∈ l, c ≤ 1 then some (if signed = true ∧ l.getD (l.length - 1) 0 = 1 then (lo l : Int) - 2 ^ l.length else lo l) else none
theorem top_bit {f : Nat → Bool} (f0 : f 0 = false) {l : List Nat} (hl : 0 < l.length) : B f l / 2 ^ (l.length - 1) = (f (l.getD (l.length - 1) 0)).toNat := by
  have h1 := B_lt f l
  have h2 := B_bit f0 l (l.length - 1)
  rw [Nat.testBit_eq_decide_div_mod_eq] at h2
  have h3 : B f l / 2 ^ (l.length - 1) < 2 := by
    rw [Nat.div_lt_iff_lt_mul (Nat.two_pow_pos _)]
    have : 2 ^ l.length = 2 * 2 ^ (l.length - 1) := by rw [← Nat.pow_succ']; congr 1; omega
    omega
  generalize B f l / 2 ^ (l.length - 1) = qq at h2 h3 ⊢
  cases hf : f (l.getD (l.length - 1) 0) with
  | true => rw [hf] at h2; have := of_decide_eq_true h2; show qq = 1; omega
  | false => rw [hf] at h2; have := of_decide_eq_false h2; show qq = 0; omega

def mixL (l m : List Nat) : List Nat := List.zipWith (fun a b => if a = b ∧ a < 2 then a else 3) l m
theorem mix_bits {l m : List Nat} (hl : ∀ c ∈ l, c ≤ 3) (hm : ∀ c ∈ m, c ≤ 3) (he : l.length = m.length) :
    let same := (2 ^ l.length - 1) ^^^ (((lo l ^^^ lo m) ||| hi l) ||| hi m)
    let unk := (2 ^ l.length - 1) ^^^ same
    ((lo l &&& same) ||| unk) = lo (mixL l m) ∧ unk = hi (mixL l m) := by
  have gm : ∀ i, (mixL l m).getD i 0 = if i < l.length then (if l.getD i 0 = m.getD i 0 ∧ l.getD i 0 < 2 then l.getD i 0 else 3) else 0 := by
    intro i
    unfold mixL
    by_cases h : i < l.length
    · have h' : i < m.length := by omega
      simp only [List.getD_eq_getElem?_getD, List.getElem?_zipWith, List.getElem?_eq_getElem h, List.getElem?_eq_getElem h', Option.getD_some, if_pos h]
    · simp only [List.getD_eq_getElem?_getD, List.getElem?_zipWith, List.getElem?_eq_none (Nat.not_lt.mp h), if_neg h, Option.getD_none]
  have out : ∀ i, ¬ i < l.length → l.getD i 0 = 0 ∧ m.getD i 0 = 0 := by
    intro i h
    have h' : ¬ i < m.length := by omega
    simp [List.getD_eq_getElem?_getD, List.getElem?_eq_none (Nat.not_lt.mp h), List.getElem?_eq_none (Nat.not_lt.mp h')]
  intro same unk
  constructor
  · apply Nat.eq_of_testBit_eq; intro i
    simp only [unk, same, Nat.testBit_or, Nat.testBit_and, Nat.testBit_xor, Nat.testBit_two_pow_sub_one, B_bit fl0, B_bit fh0, gm]
    by_cases h : i < l.length
    · rcases code_cases (getD_le hl i) with q | q | q | q <;> rcases code_cases (getD_le hm i) with r | r | r | r <;> rw [q, r] <;> simp [fl, fh, h]
    · obtain ⟨a, b⟩ := out i h
      rw [a, b]; simp [fl, fh, h]
  · apply Nat.eq_of_testBit_eq; intro i
    simp only [unk, same, Nat.testBit_or, Nat.testBit_and, Nat.testBit_xor, Nat.testBit_two_pow_sub_one, B_bit fl0, B_bit fh0, gm]
    by_cases h : i < l.length
    · rcases code_cases (getD_le hl i) with q | q | q | q <;> rcases code_cases (getD_le hm i) with r | r | r | r <;> rw [q, r] <;> simp [fl, fh, h]
    · obtain ⟨a, b⟩ := out i h
      rw [a, b]; simp [fl, fh, h]

theorem B_append (f : Nat → Bool) : ∀ l m : List Nat, B f (l ++ m) = B f l + 2 ^ l.length * B f m
  | [], m => by simp [B]
  | c :: r, m => by
    rw [List.cons_append, B, B, B_append f r m, List.length_cons, Nat.pow_succ]
    have : 2 * (2 ^ r.length * B f m) = 2 ^ r.length * 2 * B f m := by rw [Nat.mul_comm (2 ^ r.length) 2, Nat.mul_assoc]
    omega
theorem cat_bits (f : Nat → Bool) (l m : List Nat) : (B f m * 2 ^ l.length) ||| B f l = B f (l ++ m) := by
  rw [B_append, Nat.mul_comm (B f m), ← Nat.two_pow_add_eq_or_of_lt (B_lt f l)]
  omega
theorem B_replicate (f : Nat → Bool) (c : Nat) : ∀ n, B f (List.replicate n c) = if f c then 2 ^ n - 1 else 0
  | 0 => by simp [B]
  | n + 1 => by
    rw [List.replicate_succ, B, B_replicate f c n]
    have := Nat.two_pow_pos n
    cases f c <;> simp [Nat.pow_succ] <;> omega
theorem ext_bits {f : Nat → Bool} (f0 : f 0 = false) (l : List Nat) (w c : Nat) (hw : l.length ≤ w) :
    (B f l ||| (if f c then (2 ^ w - 1) ^^^ (2 ^ l.length - 1) else 0)) = B f (l ++ List.replicate (w - l.length) c) := by
  apply Nat.eq_of_testBit_eq; intro i
  rw [B_bit f0]
  cases hc : f c with
  | true =>
    simp only [if_true, Nat.testBit_or, Nat.testBit_xor, Nat.testBit_two_pow_sub_one, B_bit f0]
    by_cases h : i < l.length
    · have : i < w := by omega
      simp [List.getD_eq_getElem?_getD, List.getElem?_append, h, this]
    · by_cases h2 : i < w
      · have h3 : i - l.length < w - l.length := by omega
        simp [List.getD_eq_getElem?_getD, List.getElem?_append, h, h2, h3, hc, List.getElem?_replicate]
      · have h3 : ¬ i - l.length < w - l.length := by omega
        simp [List.getD_eq_getElem?_getD, List.getElem?_append, h, h2, h3, f0, List.getElem?_replicate]
  | false =>
    simp only [Bool.false_eq_true, if_false, Nat.or_zero, B_bit f0]
    by_cases h : i < l.length
    · simp [List.getD_eq_getElem?_getD, List.getElem?_append, h]
    · by_cases h3 : i - l.length < w - l.length
      · simp [List.getD_eq_getElem?_getD, List.getElem?_append, h, f0, h3, hc, List.getElem?_replicate]
      · simp [List.getD_eq_getElem?_getD, List.getElem?_append, h, f0, h3, List.getElem?_replicate]

end
section
def IsI (n : Int) (v : Value) (_ : Heap) : Prop := ∃ t, v = .int n t
def IsN (v : Value) (_ : Heap) : Prop := v = .none
def Vec (h : Heap) (r : Addr) (w a b : Nat) : Prop := ∃ t0 t1 t2, IsTup h r #[.int w t0, .int a t1, .int b t2]
def IsV (w a b : Nat) (v : Value) (h : Heap) : Prop := ∃ r, v = .ref r ∧ Vec h r w a b
theorem Vec.keeps {h h' : Heap} {r : Addr} {w a b : Nat} (x : Vec h r w a b) (k : h.StaysIn h') : Vec h' r w a b := let ⟨t0, t1, t2, T⟩ := x; ⟨t0, t1, t2, T.keeps k⟩

section
variable {prog : Program} {w : World} {A : Around} {E : Value → Shared → Prop} {s : Shared} {h g : Heap} {tk : Nat} {L : Addr} {l : List (Str × Value)} {bag : List (Addr × Obj)}
theorem o_andN {x y : Nat} {t u : Tok} {Q : Value → Shared → Prop} (q : ∀ t tk', Q (.int ((x &&& y : Nat) : Int) t) (At s h tk')) : wpAny (model prog w) A (binaryOp .BitAnd (.int x t) (.int y u)) Q E (At s h tk) := o_and (by rw [band]; exact q)
theorem o_orN {x y : Nat} {t u : Tok} {Q : Value → Shared → Prop} (q : ∀ t tk', Q (.int ((x ||| y : Nat) : Int) t) (At s h tk')) : wpAny (model prog w) A (binaryOp .BitOr (.int x t) (.int y u)) Q E (At s h tk) := o_or (by rw [bor]; exact q)
theorem o_xorN {x y : Nat} {t u : Tok} {Q : Value → Shared → Prop} (q : ∀ t tk', Q (.int ((x ^^^ y : Nat) : Int) t) (At s h tk')) : wpAny (model prog w) A (binaryOp .BitXor (.int x t) (.int y u)) Q E (At s h tk) := o_xor (by rw [bxor]; exact q)
theorem o_shlN {X Y : Int} (x y k : Nat) {t u : Tok} {Q : Value → Shared → Prop} (hX : X = x) (hY : Y = y) (hx : x < 2 ^ k) (hz : k + y ≤ 10000) (q : ∀ t tk', Q (.int ((x * 2 ^ y : Nat) : Int) t) (At s h tk')) : wpAny (model prog w) A (binaryOp .LShift (.int X t) (.int Y u)) Q E (At s h tk) := by
  subst hX; subst hY
  have hb := intBits_le hx
  with_reducible refine o_shl (by omega) (by omega) ?_
  intro t tk'
  have e : (x : Int) * 2 ^ (y : Int).toNat = ((x * 2 ^ y : Nat) : Int) := by simp
  rw [e]; exact q _ _
theorem o_shrN {x y : Nat} {t u : Tok} {Q : Value → Shared → Prop} (q : ∀ t tk', Q (.int ((x / 2 ^ y : Nat) : Int) t) (At s h tk')) : wpAny (model prog w) A (binaryOp .RShift (.int x t) (.int y u)) Q E (At s h tk) := by
  with_reducible refine o_shr (by omega) ?_
  intro t tk'
  have e : (x : Int) / 2 ^ (y : Int).toNat = ((x / 2 ^ y : Nat) : Int) := by simp
  rw [e]; exact q _ _
theorem o_shrI {X Y : Int} (x y : Nat) {t u : Tok} {Q : Value → Shared → Prop} (hX : X = x) (hY : Y = y) (q : ∀ t tk', Q (.int ((x / 2 ^ y : Nat) : Int) t) (At s h tk')) : wpAny (model prog w) A (binaryOp .RShift (.int X t) (.int Y u)) Q E (At s h tk) := by
  subst hX; subst hY; exact o_shrN q
theorem o_andI {X Y : Int} (x y : Nat) {t u : Tok} {Q : Value → Shared → Prop} (hX : X = x) (hY : Y = y) (q : ∀ t tk', Q (.int ((x &&& y : Nat) : Int) t) (At s h tk')) : wpAny (model prog w) A (binaryOp .BitAnd (.int X t) (.int Y u)) Q E (At s h tk) := by
  subst hX; subst hY; exact o_andN q
theorem intBits_nat {x k : Nat} (hx : x < 2 ^ k) : Builtin.Int.intBits (x : Int) ≤ k := by have := intBits_le hx; omega
theorem i_npos {c : Prop} [Decidable c] {P R : Prop} (hc : ¬ c) (q : P) : if (!decide c) = true then P else R := by rw [if_pos (by rw [decide_eq_false hc]; rfl)]; exact q
theorem i_nneg {c : Prop} [Decidable c] {P R : Prop} (hc : c) (q : R) : if (!decide c) = true then P else R := by rw [if_neg (by rw [decide_eq_true hc]; decide)]; exact q
theorem o_orI {X Y : Int} (x y : Nat) {t u : Tok} {Q : Value → Shared → Prop} (hX : X = x) (hY : Y = y) (q : ∀ t tk', Q (.int ((x ||| y : Nat) : Int) t) (At s h tk')) : wpAny (model prog w) A (binaryOp .BitOr (.int X t) (.int Y u)) Q E (At s h tk) := by
  subst hX; subst hY; exact o_orN q
theorem Fin.int {n x : Int} {t : Tok} {h' : Heap} (F : Fm g L h' l bag) (e : x = n) : Fin s g L (IsI n) (.ret (.int x t)) (At s h' tk) := Fin.ret F ⟨t, by rw [e]⟩
theorem Fin.vec {w a b : Nat} {r : Addr} {t0 t1 t2 : Tok} {x y z : Int} {n : Nat} {h' : Heap} (F : Fm g L h' l ((r, ({ cls := .type "tuple", data := .seq [Value.int x t0, .int y t1, .int z t2].toArray n } : Obj)) :: bag)) (hx : x = w) (hy : y = a) (hz : z = b) :
    Fin s g L (IsV w a b) (.ret (.ref r)) (At s h' tk) := by subst hx; subst hy; subst hz; exact Fin.ret F ⟨r, rfl, t0, t1, t2, F.tup (.head _)⟩
end

end
theorem fill_w : PySem.Challenge.rw_nn0332_01 = PySem.Challenge.rw_nn0332_01 ∧ Mine.hd.heap_39 = Mine.hd.heap_39 := by
  k_fill
  exact ⟨rfl, rfl⟩
local macro_rules | `(tactic| ktu_off1L) => `(tactic| first | exact Pick.here | ((apply Pick.there); ktu_off1L))
local macro_rules | `(tactic| tb_rel) => `(tactic| first | exact Sel.refl | exact Sel.nil | (refine Sel.cons (by ktu_off1L) ?_; tb_rel) | (refine Sel.drop ?_; tb_rel))
local macro_rules | `(tactic| tb_start) => `(tactic| first | exact Lks.nil | ((apply Lks.cons); (· k_clsL); (· tb_start)))
local macro_rules | `(tactic| k_clsL) => `(tactic| first | exact lk_here | ((with_reducible apply lk_there); (· kernel_rfl!); (· k_clsL)))
local macro_rules | `(tactic| tlg_ne) => `(tactic| first | exact lkc_here | ((with_reducible apply lkc_there); (· kernel_rfl!); (· tlg_ne)))
-- expressions
local macro_rules | `(tactic| kct_strs) => `(tactic| first
  | ((with_reducible show wpAny _ _ (eval (.Name _ _) _) _ _ _); first
    | with_reducible refine e_loc (by kernel_rfl!) (by assumption) (by k_clsL) ?_
    | with_reducible refine e_cell (by kernel_rfl!) (by tlg_ne) (by assumption) (by ktu_off1L) (by assumption) ?_)
  | ((with_reducible show wpAny _ _ (eval (.Constant _ _ _) _) _ _ _); first
    | with_reducible refine e_intT ?_
    | with_reducible refine e_strT ?_
    | with_reducible refine e_none ?_
    | with_reducible refine e_bool ?_)
  | with_reducible refine wpAny_BinOp ?_
  | with_reducible refine Subscript_ ?_
  | ((with_reducible show wpAny _ _ (eval (.Call (.Name _ _) _ _ _) _) _ _ _); first
    | (with_reducible refine e_call (by kernel_rfl!) (by assumption) (by assumption) (by k_is) (by k_is) ?_)
    | (with_reducible refine e_callb (by kernel_rfl!) (by assumption) (by assumption) (by k_is) (by boot_fast) ?_)
    | (with_reducible refine e_callt (by kernel_rfl!) (by assumption) (by assumption) (by k_is) (by boot_fast) ?_))
  | ((with_reducible show wpAny _ _ (eval (.Call (.Attribute _ _ _) _ _ _) _) _ _ _); with_reducible refine e_meth ?_)
  | with_reducible refine e_tuple ?_
  | with_reducible refine e_list ?_
  | with_reducible refine IfExp_ ?_
  | ((with_reducible show wpAny _ _ (eval (.Compare _ _ _ _) _) _ _ _); with_reducible refine wpAny_Compare1 ?_ (by kernel_rfl!))
  | with_reducible refine UnaryOp_ ?_
  | with_reducible refine e_sl3 ?_)
-- statements
local macro_rules | `(tactic| keq_rows) => `(tactic| first
  | ((with_reducible show wpAny _ _ (execs [] _) _ _ _); with_reducible refine s_nil ?_)
  | ((with_reducible show wpAny _ _ (execs (.Return _ _ :: _) _) _ _ _); with_reducible refine s_ret ?_)
  | ((with_reducible show wpAny _ _ (execs (.Assign [.Name _ _] _ _ :: _) _) _ _ _); with_reducible refine s_assign ?_)
  | ((with_reducible show wpAny _ _ (execs (.If _ _ _ _ :: _) _) _ _ _); with_reducible refine s_if ?_)
  | ((with_reducible show wpAny _ _ (execs (.AugAssign _ _ _ _ :: _) _) _ _ _); with_reducible refine s_aug ?_)
  | ((with_reducible show wpAny _ _ (execs (.For _ _ _ _ _ :: _) _) _ _ _); with_reducible refine s_for ?_)
  | ((with_reducible show wpAny _ _ (execs (.Expr _ _ :: _) _) _ _ _); with_reducible refine s_expr ?_)
  | with_reducible refine s_unpack ?_)
-- operators
local macro_rules | `(tactic| kas_types) => `(tactic| first
  | with_reducible refine o_addT ?_
  | with_reducible refine o_subT ?_
  | ((with_reducible show wpAny _ _ (binaryOp .Mod _ _) _ _ _); with_reducible refine o_modT (by decide) ?_)
  | ((with_reducible show wpAny _ _ (binaryOp .FloorDiv _ _) _ _ _); with_reducible refine o_fdivT (by decide) ?_)
  | (with_reducible refine o_andN ?_; intro _ _)
  | (with_reducible refine o_orN ?_; intro _ _)
  | (with_reducible refine o_xorN ?_; intro _ _)
  | (with_reducible refine o_shrN ?_; intro _ _))
local macro_rules | `(tactic| kat_tups) => `(tactic| first
  | with_reducible refine c_lt ?_
  | with_reducible refine c_le ?_
  | with_reducible refine c_gt ?_
  | with_reducible refine c_ge ?_
  | with_reducible refine c_eq ?_
  | with_reducible refine c_ne ?_
  | with_reducible refine c_isnone ?_)
-- the rest
local macro_rules | `(tactic| k_subL) => `(tactic| first
  | with_reducible refine i_true ?_
  | with_reducible refine i_notf ?_
  | with_reducible refine i_nott ?_
  | with_reducible refine i_false ?_)
local macro_rules | `(tactic| kbo_bools) => `(tactic| first
  | ((with_reducible show wpAny _ _ (isTrue (.Compare _ _ _ _) _ _) _ _ _); with_reducible refine wpAny_isTrue_Compare1 ?_ (by kernel_rfl!))
  | with_reducible refine isTrue_and ?_
  | with_reducible refine isTrue_and_nil ?_
  | with_reducible refine isTrue_or ?_
  | with_reducible refine isTrue_or_nil ?_
  | with_reducible refine isTrue_not ?_
  | with_reducible refine isTrue_plain ?_ (by kernel_rfl!))
local macro_rules | `(tactic| k_offL) => `(tactic| first
  | (with_reducible refine gm_app (by assumption) (by ktu_off1L) ?_)
  | (with_reducible refine gm_pop (by assumption) (by ktu_off1L) ?_)
  | (with_reducible refine gm_rev (by assumption) (by ktu_off1L) ?_))
local macro_rules | `(tactic| cell_call) => `(tactic| first
  | ((with_reducible show wpAny _ _ (eval _ _) _ _ _); kct_strs)
  | ((with_reducible show wpAny _ _ (spliced _) _ _ _); first | with_reducible refine a_cons ?_ | with_reducible refine a_nil ?_)
  | ((with_reducible show wpAny _ _ (execs _ _) _ _ _); keq_rows)
  | ((with_reducible show wpAny _ _ (storeName _ _ _) _ _ _); first
    | (with_reducible refine e_store (by kernel_rfl!) (by assumption) ?_; intro _ _ _)
    | (with_reducible refine st_cell (by kernel_rfl!) (by tlg_ne) (by assumption) (by ktu_off1L) (by assumption) ?_; intro _ _ _ _))
  | ((with_reducible show wpAny _ _ (binaryOp _ _ _) _ _ _); kas_types)
  | ((with_reducible show wpAny _ _ (subscriptTail _ _ _ _) _ _ _); first
    | with_reducible refine e_itemG (by assumption) (by assumption) (by decide) (by decide) (by with_unfolding_all rfl) ?_
    | with_reducible refine e_itemB (by assumption) (by ktu_off1L) (by decide) (by decide) (by with_unfolding_all rfl) ?_)
  | ((with_reducible show wpAny _ _ (isTrue _ _ _) _ _ _); kbo_bools)
  | ((with_reducible show wpAny _ _ (compareOp _ _ _) _ _ _); kat_tups)
  | ((with_reducible show wpAny _ _ (truthy _) _ _ _); first | with_reducible refine t_bool ?_ | with_reducible refine t_int ?_)
  | ((with_reducible show ite _ _ _); k_subL)
  | with_reducible refine k_ret ?_
  | with_reducible refine k_next ?_
  | ((with_reducible show _ ∧ _); with_reducible refine k_in (by assumption) ?_)
  | ((with_reducible show wpAny _ _ (newTuple _) _ _ _); with_reducible refine e_newtuple (by assumption) (small_len (by with_unfolding_all rfl)) ?_; intro _ _ _ _)
  | ((with_reducible show wpAny _ _ (newList _) _ _ _); with_reducible refine e_newlist (by assumption) (small_len (by with_unfolding_all rfl)) ?_; intro _ _ _ _)
  | ((with_reducible show wpAny _ _ (inplaceOp _ _ _) _ _ _); with_reducible refine io_addT ?_)
  | ((with_reducible show wpAny _ _ (loadName _ _) _ _ _); with_reducible refine e_lod (by kernel_rfl!) (by assumption) (by k_clsL) ?_)
  | ((with_reducible show wpAny _ _ (unaryOp _ _) _ _ _); with_reducible refine o_negT ?_)
  | ((with_reducible show wpAny _ _ (callWith _ _ _ _ _) _ _ _); first | with_reducible refine cw_b ?_ | with_reducible refine cw_b0 ?_)
  | ((with_reducible show wpAny _ _ (getMethod _ _ _) _ _ _); k_offL)
  | ((with_reducible show wpAny _ _ (evalPart _ _) _ _ _); first | with_reducible refine ep_none ?_ | with_reducible refine ep_some ?_)
  | ((with_reducible show wpAny _ _ (newFields _ _) _ _ _); with_reducible refine n_slice (by assumption) ?_; intro _ _ _))
local macro_rules | `(tactic| kpt_turns) => `(tactic| repeat' cell_call)
section
section
variable {prog : Program} {w : World} {s : Shared}

theorem mask_spec (n : Nat) (t : Tok) (hn : n ≤ 1000) : Spec prog w 61 [.int n t] 1 s [] (IsI ((2 ^ n - 1 : Nat) : Int)) := by
  refine s_def0 [("w", .int n t)] (by k_is) (by k_is) (fun _ => BindsTo.of_eq rfl) rfl ?_
  intro A g L h tk hh hd hu G F kb
  kpt_turns
  with_reducible refine o_shl (by omega) (by rw [show Builtin.Int.intBits 1 = 1 by decide]; omega) ?_
  intro _ _
  kpt_turns
  refine Fin.int F ?_
  rw [Int.ofNat_sub (Nat.two_pow_pos n)]
  simp

theorem all_x_spec (n : Nat) (t : Tok) (hn : n ≤ 1000) : Spec prog w 83 [.int n t] 3 s [] (IsV n (2 ^ n - 1) (2 ^ n - 1)) := by
  refine s_def0 [("w", .int n t)] (by k_is) (by k_is) (fun _ => BindsTo.of_eq rfl) rfl ?_
  intro A g L h tk hh hd hu G F kb
  kpt_turns
  with_reducible refine e_spec0 (mask_spec n _ hn) (by assumption) (by assumption) (by assumption) (dlt (by assumption)) (ult (by assumption)) ?_
  rintro _ h' tk' F' _ ⟨t', rfl⟩
  kpt_turns
  exact Fin.vec (by assumption) rfl rfl rfl

theorem slice_vec_spec (l : List Nat) (v : Addr) (k : Int) (n : Nat) (t1 t2 : Tok) (hn : n ≤ 1000) (hk : -1000 ≤ k ∧ k ≤ 1000) (hl : l.length ≤ 1000) (hv : Vec s.heap v l.length (lo l) (hi l)) :
    Spec prog w 125 [.ref v, .int k t1, .int n t2] 4 s [] (IsV n (lo (sliceL l k n)) (hi (sliceL l k n))) := by
  refine s_def0 [("w", .int n t2), ("lo", .int k t1), ("v", .ref v)] (by k_is) (by k_is) (fun _ => BindsTo.of_eq rfl) rfl ?_
  intro A g L h tk hh hd hu G F kb
  obtain ⟨u0, u1, u2, T⟩ := hv.keeps kb.all
  kpt_turns
  with_reducible refine b_max (by assumption) (by assumption) ?_
  intro h1 _ _ F1
  obtain ⟨fi, hfi⟩ : ∃ n : Nat, max k 0 = n := ⟨(max k 0).toNat, by omega⟩
  rw [hfi]
  kpt_turns
  with_reducible refine b_min (by assumption) (by assumption) ?_
  intro h2 _ _ F2
  kpt_turns
  refine i_dec (fun hc => ?_) (fun hc => ?_)
  · kpt_turns
    with_reducible refine e_spec0 (all_x_spec n _ hn) (by assumption) (by assumption) (by assumption) (dlt (by assumption)) (ult (by assumption)) ?_
    rintro _ h' tk' F' _ P
    kpt_turns
    have e1 : lo (sliceL l k n) = 2 ^ n - 1 := (slice_out fl0 fl3 l k n (by omega)).symm
    have e2 : hi (sliceL l k n) = 2 ^ n - 1 := (slice_out fh0 fh3 l k n (by omega)).symm
    rw [e1, e2]
    exact Fin.ret F' P
  · obtain ⟨n1, hn1⟩ : ∃ m : Nat, min (k + ↑n) ↑l.length - (fi : Int) = m := ⟨(min (k + ↑n) ↑l.length - (fi : Int)).toNat, by omega⟩
    obtain ⟨sh, hsh⟩ : ∃ m : Nat, (fi : Int) - k = m := ⟨((fi : Int) - k).toNat, by omega⟩
    kpt_turns
    rw [hn1]
    with_reducible refine e_spec0 (mask_spec n1 _ (by omega)) (by assumption) (by assumption) (by assumption) (dlt (by assumption)) (ult (by assumption)) ?_
    rintro _ h3 tk3 F3 _ ⟨t3, rfl⟩
    kpt_turns
    with_reducible refine e_spec0 (mask_spec n _ hn) (by assumption) (by assumption) (by assumption) (dlt (by assumption)) (ult (by assumption)) ?_
    rintro _ h4 tk4 F4 _ ⟨t4, rfl⟩
    kpt_turns
    have hp1 : 2 ^ n1 - 1 < 2 ^ n1 := by have := Nat.two_pow_pos n1; omega
    have hb : ∀ f, (B f l / 2 ^ fi &&& (2 ^ n1 - 1)) < 2 ^ n1 := fun f => Nat.and_lt_two_pow _ hp1
    with_reducible refine o_shlN (2 ^ n1 - 1) sh n1 rfl hsh hp1 (by omega) ?_
    intro _ _
    kpt_turns
    with_reducible refine o_shlN _ sh n1 rfl hsh (hb _) (by omega) ?_
    intro _ _
    kpt_turns
    with_reducible refine o_shlN _ sh n1 rfl hsh (hb _) (by omega) ?_
    intro _ _
    kpt_turns
    have e1 := slice_in fl0 fl3 l k n fi n1 sh (by omega) (by omega) (by omega) (by omega)
    have e2 := slice_in fh0 fh3 l k n fi n1 sh (by omega) (by omega) (by omega) (by omega)
    exact Fin.vec (by assumption) rfl (congrArg _ e1) (congrArg _ e2)
end

end
section
section
variable {prog : Program} {w : World} {s : Shared}

theorem put_slice_spec (v p : Addr) (n a b c d : Nat) (t1 : Tok) (hn0 : 0 < n) (hn : n ≤ 1000) (ha : a < 2 ^ n) (hb : b < 2 ^ n) (hc : c < 2 ^ n) (hd' : d < 2 ^ n) (hv : Vec s.heap v n a b) (hp : Vec s.heap p n c d) :
    Spec prog w 132 [.ref v, .int 0 t1, .ref p] 4 s [] (IsV n c d) := by
  refine s_def0 [("part", .ref p), ("lo", .int 0 t1), ("v", .ref v)] (by k_is) (by k_is) (fun _ => BindsTo.of_eq rfl) rfl ?_
  intro A g L h tk hh hd hu G F kb
  obtain ⟨u0, u1, u2, T⟩ := hv.keeps kb.all
  obtain ⟨v0, v1, v2, T'⟩ := hp.keeps kb.all
  kpt_turns
  with_reducible refine b_max (by assumption) (by assumption) ?_
  intro h1 _ _ F1
  rw [show max (0 : Int) 0 = 0 by decide]
  kpt_turns
  with_reducible refine b_min (by assumption) (by assumption) ?_
  intro h2 _ _ F2
  rw [show min (0 + (n : Int)) n = n by omega]
  kpt_turns
  with_reducible refine i_neg (by omega) ?_
  kpt_turns
  rw [show (n : Int) - 0 = n by omega]
  with_reducible refine e_spec0 (mask_spec n _ hn) (by assumption) (by assumption) (by assumption) (dlt (by assumption)) (ult (by assumption)) ?_
  rintro _ h3 tk3 F3 _ ⟨t3, rfl⟩
  kpt_turns
  with_reducible refine e_spec0 (mask_spec n _ hn) (by assumption) (by assumption) (by assumption) (dlt (by assumption)) (ult (by assumption)) ?_
  rintro _ h4 tk4 F4 _ ⟨t4, rfl⟩
  kpt_turns
  have hp1 : 2 ^ n - 1 < 2 ^ n := by have := Nat.two_pow_pos n; omega
  with_reducible refine o_shlN (2 ^ n - 1) 0 n rfl rfl hp1 (by omega) ?_
  intro _ _
  kpt_turns
  with_reducible refine o_shrI _ 0 rfl (by omega) ?_
  intro _ _
  kpt_turns
  with_reducible refine o_shlN _ 0 n rfl rfl (Nat.and_lt_two_pow _ hp1) (by omega) ?_
  intro _ _
  kpt_turns
  with_reducible refine o_shrI _ 0 rfl (by omega) ?_
  intro _ _
  kpt_turns
  with_reducible refine o_shlN _ 0 n rfl rfl (Nat.and_lt_two_pow _ hp1) (by omega) ?_
  intro _ _
  kpt_turns
  have e : ∀ x y : Nat, y < 2 ^ n → ((x &&& ((2 ^ n - 1) ^^^ ((2 ^ n - 1) * 2 ^ 0))) ||| (y / 2 ^ 0 &&& (2 ^ n - 1)) * 2 ^ 0) = y := by
    intro x y hy
    simp [Nat.mod_eq_of_lt hy]
  exact Fin.vec (by assumption) rfl (congrArg _ (e a c hc)) (congrArg _ (e b d hd'))

theorem to_int_spec (l : List Nat) (v : Addr) (sg : Bool) (h3 : ∀ c ∈ l, c ≤ 3) (hl0 : 0 < l.length) (hl : l.length ≤ 1000) (hv : Vec s.heap v l.length (lo l) (hi l)) :
    Spec prog w 111 [.ref v, .bool sg] 2 s [] (fun r h' => match wholeL l sg with | some i => IsI i r h' | none => r = .none) := by
  refine s_def0 [("signed", .bool sg), ("v", .ref v)] (by k_is) (by k_is) (fun _ => BindsTo.of_eq rfl) rfl ?_
  intro A g L h tk hh hd hu G F kb
  obtain ⟨u0, u1, u2, T⟩ := hv.keeps kb.all
  kpt_turns
  with_reducible refine a_unp3 (by assumption) (by assumption) (F.tupG T) ?_
  intro h1 F1
  kpt_turns
  refine i_ndec (fun hc => ?_) (fun hc => ?_)
  · kpt_turns
    refine Fin.ret (by assumption) ?_
    have hw : wholeL l sg = none := by
      unfold wholeL
      rw [if_neg]
      intro q
      exact hc (by exact_mod_cast (hi_zero h3).mpr q)
    rw [hw]
  · have hle : ∀ c ∈ l, c ≤ 1 := (hi_zero h3).mp (by exact_mod_cast hc)
    have hlast : l.getD (l.length - 1) 0 ≤ 1 := by
      rcases getD_mem_or l (l.length - 1) with q | q
      · omega
      · exact hle _ q
    kpt_turns
    refine i_bool (fun hs => ?_) (fun hs => ?_)
    · subst hs
      kpt_turns
      with_reducible refine o_shrI (lo l) (l.length - 1) rfl (by omega) ?_
      intro _ _
      kpt_turns
      rw [top_bit fl0 hl0]
      have hf : fl (l.getD (l.length - 1) 0) = decide (l.getD (l.length - 1) 0 = 1) := by
        have : l.getD (l.length - 1) 0 = 0 ∨ l.getD (l.length - 1) 0 = 1 := by omega
        rcases this with q | q <;> rw [q] <;> rfl
      rw [hf]
      refine i_dec (fun ht => ?_) (fun ht => ?_)
      · have ht' : l.getD (l.length - 1) 0 = 1 := by
          by_cases q : l.getD (l.length - 1) 0 = 1
          · exact q
          · rw [decide_eq_false q] at ht; exact absurd ht (by decide)
        kpt_turns
        with_reducible refine o_shlN 1 l.length 1 rfl rfl (by decide) (by omega) ?_
        intro _ _
        kpt_turns
        refine Fin.ret (by assumption) ?_
        have hw : wholeL l true = some ((lo l : Int) - ((1 * 2 ^ l.length : Nat) : Int)) := by
          unfold wholeL
          rw [if_pos hle, if_pos ⟨rfl, ht'⟩]
          simp
        rw [hw]
        exact ⟨_, rfl⟩
      · have ht' : ¬ l.getD (l.length - 1) 0 = 1 := by
          intro q
          exact ht (by rw [decide_eq_true q]; rfl)
        kpt_turns
        refine Fin.ret (by assumption) ?_
        have hw : wholeL l true = some (lo l : Int) := by
          unfold wholeL
          rw [if_pos hle, if_neg fun q => ht' q.2]
        rw [hw]
        exact ⟨_, rfl⟩
    · subst hs
      kpt_turns
      refine Fin.ret (by assumption) ?_
      have hw : wholeL l false = some (lo l : Int) := by
        unfold wholeL
        rw [if_pos hle, if_neg (by simp)]
      rw [hw]
      exact ⟨_, rfl⟩
end

end
section
section
variable {prog : Program} {w : World} {s : Shared}

theorem code_spec (l : List Nat) (v : Addr) (i : Nat) (t1 : Tok) (hi' : i ≤ 1000) (hv : Vec s.heap v l.length (lo l) (hi l)) :
    Spec prog w 118 [.ref v, .int i t1] 1 s [] (IsI (((fl (l.getD i 0)).toNat + 2 * (fh (l.getD i 0)).toNat : Nat) : Int)) := by
  refine s_def0 [("i", .int i t1), ("v", .ref v)] (by k_is) (by k_is) (fun _ => BindsTo.of_eq rfl) rfl ?_
  intro A g L h tk hh hd hu G F kb
  obtain ⟨u0, u1, u2, T⟩ := hv.keeps kb.all
  kpt_turns
  with_reducible refine o_andI _ 1 rfl rfl ?_
  intro _ _
  kpt_turns
  with_reducible refine o_andI _ 1 rfl rfl ?_
  intro _ _
  with_reducible refine o_mul ?_ ?_
  · refine IntMulOk.of_le (m := 2) (n := 1) (by decide) (intBits_nat (Nat.and_lt_two_pow _ (by decide))) (by decide)
  intro _ _
  kpt_turns
  have e : ∀ f, f 0 = false → (B f l / 2 ^ i &&& 1) = (f (l.getD i 0)).toNat := by
    intro f f0
    have := B_bit f0 l i
    rw [Nat.testBit_eq_decide_div_mod_eq] at this
    rw [Nat.and_one_is_mod]
    cases q : f (l.getD i 0) with
    | true => rw [q] at this; simpa using this
    | false => rw [q] at this; simpa using this
  refine Fin.int (by assumption) ?_
  rw [e fl fl0, e fh fh0]
  omega

theorem truth_spec (l : List Nat) (v : Addr) (h3 : ∀ c ∈ l, c ≤ 3) (hl : l.length ≤ 1000) (hv : Vec s.heap v l.length (lo l) (hi l)) :
    Spec prog w 160 [.ref v] 2 s [] (IsI (truthL l : Int)) := by
  refine s_def0 [("v", .ref v)] (by k_is) (by k_is) (fun _ => BindsTo.of_eq rfl) rfl ?_
  intro A g L h tk hh hd hu G F kb
  obtain ⟨u0, u1, u2, T⟩ := hv.keeps kb.all
  kpt_turns
  with_reducible refine e_spec0 (mask_spec l.length _ hl) (by assumption) (by assumption) (by assumption) (dlt (by assumption)) (ult (by assumption)) ?_
  rintro _ h1 tk1 F1 _ ⟨t1, rfl⟩
  kpt_turns
  refine i_ndec (fun hc => ?_) (fun hc => ?_)
  · have hc' : 1 ∈ l := (sure_iff h3).mp fun q => hc (by exact_mod_cast q)
    kpt_turns
    refine Fin.int (by assumption) ?_
    unfold truthL
    rw [if_pos hc']; rfl
  · have hc' : ¬ 1 ∈ l := fun q => (sure_iff h3).mpr q (by exact_mod_cast hc)
    kpt_turns
    refine i_dec (fun h1 => ?_) (fun h1 => ?_)
    · kpt_turns
      refine i_dec (fun h2 => ?_) (fun h2 => ?_)
      · kpt_turns
        refine Fin.int (by assumption) ?_
        unfold truthL
        rw [if_neg hc', if_pos ((zero_iff h3).mp ⟨by exact_mod_cast h1, by exact_mod_cast h2⟩)]; rfl
      · kpt_turns
        refine Fin.int (by assumption) ?_
        unfold truthL
        rw [if_neg hc', if_neg fun q => h2 (by exact_mod_cast ((zero_iff h3).mpr q).2)]; rfl
    · kpt_turns
      refine Fin.int (by assumption) ?_
      unfold truthL
      rw [if_neg hc', if_neg fun q => h1 (by exact_mod_cast ((zero_iff h3).mpr q).1)]; rfl
end

end
section
abbrev VecL (h : Heap) (r : Addr) (l : List Nat) : Prop := Vec h r l.length (lo l) (hi l)
def IsVL (l : List Nat) (v : Value) (h : Heap) : Prop := ∃ r, v = .ref r ∧ VecL h r l
theorem VecL.keeps {h h' : Heap} {r : Addr} {l : List Nat} (x : VecL h r l) (k : h.StaysIn h') : VecL h' r l := Vec.keeps x k
def chooseL (c t f : List Nat) : List Nat := if truthL c = 1 then t else if truthL c = 0 then f else mixL t f
def catL (ps : List (Addr × List Nat)) : List Nat := ps.foldl (fun acc p => p.2 ++ acc) []
def extL (l : List Nat) (w : Nat) (sg : Bool) : List Nat := l ++ List.replicate (w - l.length) (if sg then l.getD (l.length - 1) 0 else 0)

theorem catL_len (ps : List (Addr × List Nat)) : ∀ acc : List Nat, (ps.foldl (fun acc p => p.2 ++ acc) acc).length = (ps.map fun p => p.2.length).sum + acc.length := by
  induction ps with
  | nil => intro acc; simp
  | cons p r ih => intro acc; rw [List.foldl_cons, ih, List.map_cons, List.sum_cons, List.length_append]; omega
theorem catL_length (ps : List (Addr × List Nat)) : (catL ps).length = (ps.map fun p => p.2.length).sum := by
  rw [catL, catL_len]; simp
theorem catL_snoc (ps : List (Addr × List Nat)) (i : Nat) (h : i < ps.length) : catL (ps.take (i + 1)) = ps[i].2 ++ catL (ps.take i) := by
  rw [catL, ← List.take_append_getElem h, List.foldl_append]
  rfl
theorem catL_le (ps : List (Addr × List Nat)) (i : Nat) : (catL (ps.take i)).length ≤ (ps.map fun p => p.2.length).sum := by
  rw [catL_length]
  have : ((ps.take i ++ ps.drop i).map fun p => p.2.length).sum = (ps.map fun p => p.2.length).sum := by rw [List.take_append_drop]
  rw [List.map_append, List.sum_append] at this
  omega
section
variable {prog : Program} {w : World} {s : Shared}
theorem Fin.vl {g h : Heap} {L : Addr} {tk : Nat} {l : List (Str × Value)} {bag : List (Addr × Obj)} {ls : List Nat} {r : Addr} {t0 t1 t2 : Tok} {x y z : Int} {n : Nat} (F : Fm g L h l ((r, ({ cls := .type "tuple", data := .seq [Value.int x t0, .int y t1, .int z t2].toArray n } : Obj)) :: bag))
    (hx : x = ls.length) (hy : y = lo ls) (hz : z = hi ls) : Fin s g L (IsVL ls) (.ret (.ref r)) (At s h tk) := Fin.vec F hx hy hz
theorem choose_spec (lc lt lf : List Nat) (c t f : Addr) (h3 : ∀ c ∈ lc, c ≤ 3) (ht3 : ∀ c ∈ lt, c ≤ 3) (hf3 : ∀ c ∈ lf, c ≤ 3) (hlc : lc.length ≤ 1000) (hlt : lt.length ≤ 1000) (he : lt.length = lf.length)
    (hc : VecL s.heap c lc) (ht : VecL s.heap t lt) (hf : VecL s.heap f lf) :
    Spec prog w 419 [.ref c, .ref t, .ref f] 3 s [] (IsVL (chooseL lc lt lf)) := by
  refine s_def0 [("f", .ref f), ("t", .ref t), ("c", .ref c)] (by k_is) (by k_is) (fun _ => BindsTo.of_eq rfl) rfl ?_
  intro A g L h tk hh hd hu G F kb
  obtain ⟨u0, u1, u2, T⟩ := ht.keeps kb.all
  obtain ⟨v0, v1, v2, T'⟩ := hf.keeps kb.all
  kpt_turns
  with_reducible refine e_spec0 (truth_spec lc c h3 hlc (Vec.keeps hc (kb.stay F))) (by assumption) (by assumption) (by assumption) (dlt (by assumption)) (ult (by assumption)) ?_
  rintro _ h1 tk1 F1 _ ⟨t1, rfl⟩
  kpt_turns
  refine i_dec (fun q1 => ?_) (fun q1 => ?_)
  · kpt_turns
    refine Fin.ret (by assumption) ⟨t, rfl, ?_⟩
    unfold chooseL
    rw [if_pos (by exact_mod_cast q1)]
    exact Vec.keeps ht (kb.stay (by assumption))
  · kpt_turns
    refine i_dec (fun q0 => ?_) (fun q0 => ?_)
    · kpt_turns
      refine Fin.ret (by assumption) ⟨f, rfl, ?_⟩
      unfold chooseL
      rw [if_neg (fun q => q1 (by exact_mod_cast q)), if_pos (by exact_mod_cast q0)]
      exact Vec.keeps hf (kb.stay (by assumption))
    · kpt_turns
      with_reducible refine e_spec0 (mask_spec lt.length _ hlt) (by assumption) (by assumption) (by assumption) (dlt (by assumption)) (ult (by assumption)) ?_
      rintro _ h2 tk2 F2 _ ⟨t2, rfl⟩
      kpt_turns
      with_reducible refine e_spec0 (mask_spec lt.length _ hlt) (by assumption) (by assumption) (by assumption) (dlt (by assumption)) (ult (by assumption)) ?_
      rintro _ h3 tk3 F3 _ ⟨t3, rfl⟩
      kpt_turns
      have hm := mix_bits ht3 hf3 he
      have e : chooseL lc lt lf = mixL lt lf := by
        unfold chooseL
        rw [if_neg (fun q => q1 (by exact_mod_cast q)), if_neg (fun q => q0 (by exact_mod_cast q))]
      have el : (mixL lt lf).length = lt.length := by simp [mixL, he]
      rw [e]
      have e' : IsVL (mixL lt lf) = IsV lt.length (lo (mixL lt lf)) (hi (mixL lt lf)) := by
        funext v h; unfold IsVL VecL IsV; rw [el]
      rw [e']
      exact Fin.vec (by assumption) rfl (congrArg _ hm.1) (congrArg _ hm.2)

theorem extend_spec (l : List Nat) (v : Addr) (n : Nat) (sg : Bool) (t1 : Tok) (h0 : 0 < l.length) (hl : l.length < n) (hn : n ≤ 1000) (hv : VecL s.heap v l) :
    Spec prog w 146 [.ref v, .int n t1, .bool sg] 3 s [] (IsVL (extL l n sg)) := by
  refine s_def0 [("signed", .bool sg), ("w", .int n t1), ("v", .ref v)] (by k_is) (by k_is) (fun _ => BindsTo.of_eq rfl) rfl ?_
  intro A g L h tk hh hd hu G F kb
  have hv' := hv.keeps kb.all
  obtain ⟨u0, u1, u2, T⟩ := hv'
  have el : (extL l n sg).length = n := by simp [extL]; omega
  have e' : IsVL (extL l n sg) = IsV n (lo (extL l n sg)) (hi (extL l n sg)) := by
    funext v h; unfold IsVL VecL IsV; rw [el]
  rw [e']
  kpt_turns
  with_reducible refine i_neg (by omega) ?_
  kpt_turns
  cases sg with
  | false =>
    kpt_turns
    have e1 := ext_bits fl0 l n 0 (by omega)
    have e2 := ext_bits fh0 l n 0 (by omega)
    simp only [fl0, fh0, Bool.false_eq_true, if_false, Nat.or_zero] at e1 e2
    exact Fin.vec (by assumption) rfl (congrArg _ e1) (congrArg _ e2)
  | true =>
    kpt_turns
    with_reducible refine e_spec0 (mask_spec n _ hn) (by assumption) (by assumption) (by assumption) (dlt (by assumption)) (ult (by assumption)) ?_
    rintro _ h1 tk1 F1 _ ⟨t1, rfl⟩
    kpt_turns
    with_reducible refine e_spec0 (mask_spec l.length _ (by omega)) (by assumption) (by assumption) (by assumption) (dlt (by assumption)) (ult (by assumption)) ?_
    rintro _ h2 tk2 F2 _ ⟨t2, rfl⟩
    kpt_turns
    rw [show (l.length : Int) - 1 = ((l.length - 1 : Nat) : Int) by omega]
    with_reducible refine e_spec0 (code_spec l v (l.length - 1) _ (by omega) (Vec.keeps hv (kb.stay (by assumption)))) (by assumption) (by assumption) (by assumption) (dlt (by assumption)) (ult (by assumption)) ?_
    rintro _ h3 tk3 F3 _ ⟨t3, rfl⟩
    have e1 := ext_bits fl0 l n (l.getD (l.length - 1) 0) (by omega)
    have e2 := ext_bits fh0 l n (l.getD (l.length - 1) 0) (by omega)
    kpt_turns
    with_reducible refine o_andI _ 1 rfl rfl ?_
    intro _ _
    kpt_turns
    have a1 : (fl (l.getD (l.length - 1) 0)).toNat + 2 * (fh (l.getD (l.length - 1) 0)).toNat &&& 1 = (fl (l.getD (l.length - 1) 0)).toNat := by
      cases fl (l.getD (l.length - 1) 0) <;> cases fh (l.getD (l.length - 1) 0) <;> rfl
    have a2 : (fl (l.getD (l.length - 1) 0)).toNat + 2 * (fh (l.getD (l.length - 1) 0)).toNat &&& 2 = 2 * (fh (l.getD (l.length - 1) 0)).toNat := by
      cases fl (l.getD (l.length - 1) 0) <;> cases fh (l.getD (l.length - 1) 0) <;> rfl
    rw [a1]
    refine i_ndec (fun q1 => ?_) (fun q1 => ?_)
    · have q1' : fl (l.getD (l.length - 1) 0) = true := by
        cases q : fl (l.getD (l.length - 1) 0) with
        | true => rfl
        | false => rw [q] at q1; exact absurd rfl q1
      rw [q1', if_pos rfl] at e1
      kpt_turns
      with_reducible refine o_andI _ 2 rfl rfl ?_
      intro _ _
      kpt_turns
      rw [a2]
      refine i_ndec (fun q2 => ?_) (fun q2 => ?_)
      · have q2' : fh (l.getD (l.length - 1) 0) = true := by
          cases q : fh (l.getD (l.length - 1) 0) with
          | true => rfl
          | false => rw [q] at q2; exact absurd rfl q2
        rw [q2', if_pos rfl] at e2
        kpt_turns
        exact Fin.vec (by assumption) rfl (congrArg _ e1) (congrArg _ e2)
      · have q2' : fh (l.getD (l.length - 1) 0) = false := by
          cases q : fh (l.getD (l.length - 1) 0) with
          | false => rfl
          | true => rw [q] at q2; exact absurd q2 (by decide)
        rw [q2', if_neg (by decide)] at e2
        kpt_turns
        with_reducible refine o_orI _ 0 rfl rfl ?_
        intro _ _
        kpt_turns
        exact Fin.vec (by assumption) rfl (congrArg _ e1) (congrArg _ e2)
    · have q1' : fl (l.getD (l.length - 1) 0) = false := by
        cases q : fl (l.getD (l.length - 1) 0) with
        | false => rfl
        | true => rw [q] at q1; exact absurd q1 (by decide)
      rw [q1', if_neg (by decide)] at e1
      kpt_turns
      with_reducible refine o_orI _ 0 rfl rfl ?_
      intro _ _
      kpt_turns
      with_reducible refine o_andI _ 2 rfl rfl ?_
      intro _ _
      kpt_turns
      rw [a2]
      refine i_ndec (fun q2 => ?_) (fun q2 => ?_)
      · have q2' : fh (l.getD (l.length - 1) 0) = true := by
          cases q : fh (l.getD (l.length - 1) 0) with
          | true => rfl
          | false => rw [q] at q2; exact absurd rfl q2
        rw [q2', if_pos rfl] at e2
        kpt_turns
        exact Fin.vec (by assumption) rfl (congrArg _ e1) (congrArg _ e2)
      · have q2' : fh (l.getD (l.length - 1) 0) = false := by
          cases q : fh (l.getD (l.length - 1) 0) with
          | false => rfl
          | true => rw [q] at q2; exact absurd q2 (by decide)
        rw [q2', if_neg (by decide)] at e2
        kpt_turns
        with_reducible refine o_orI _ 0 rfl rfl ?_
        intro _ _
        kpt_turns
        exact Fin.vec (by assumption) rfl (congrArg _ e1) (congrArg _ e2)

theorem concat_spec (ps : List (Addr × List Nat)) (v : Addr) (hz : (ps.map fun p => p.2.length).sum ≤ 1000) (hp : ∀ p ∈ ps, VecL s.heap p.1 p.2) (hv : s.heap.IsList v (ps.map fun p => Value.ref p.1).toArray) :
    Spec prog w 139 [.ref v] 2 s [] (IsVL (catL ps)) := by
  refine s_def0 [("vs", .ref v)] (by k_is) (by k_is) (fun _ => BindsTo.of_eq rfl) rfl ?_
  intro A g L h tk hh hd hu G F kb
  have hv' : g.IsList v _ := hv.at fun o e => kb.all v o e
  kpt_turns
  refine l_list (σ := (Int × Tok) × (Int × Tok) × (Int × Tok)) (fun x => [("w", .int x.1.1 x.1.2), ("a", .int x.2.1.1 x.2.1.2), ("b", .int x.2.2.1 x.2.2.2)]) (fun _ => [])
    (fun i x => ∀ acc, acc = catL (ps.take i) → x.1.1 = acc.length ∧ x.2.1.1 = lo acc ∧ x.2.2.1 = hi acc) ((_, _), (_, _), (_, _)) (by assumption) (by kernel_rfl!) (by assumption) (fun _ h' l' F' => hv'.at fun o e => F'.keep v o e) (by tb_start) .nil ?_ ?_ ?_
  · rintro _ rfl; exact ⟨rfl, rfl, rfl⟩
  · rintro i v ⟨⟨x0, u0⟩, ⟨x1, u1⟩, ⟨x2, u2⟩⟩ h tk I oI hi hvi J F
    obtain ⟨j0, j1, j2⟩ := J _ rfl
    dsimp only at j0 j1 j2 F
    subst j0 j1 j2
    have hi' : i < ps.length := by simpa using hi
    have hv2 : v = .ref ps[i].1 := by simpa [hi'] using hvi.symm
    subst hv2
    have hst : s.heap.StaysIn h := kb.stay F
    obtain ⟨t0, t1, t2, T⟩ := (hp ps[i] (List.getElem_mem hi')).keeps kb.all
    kpt_turns
    have le := catL_le ps (i + 1)
    have sn := catL_snoc ps i hi'
    rw [sn, List.length_append] at le
    with_reducible refine o_shlN (lo (catL (ps.take i))) ps[i].2.length (catL (ps.take i)).length rfl rfl (B_lt _ _) (by omega) ?_
    intro _ _
    kpt_turns
    with_reducible refine o_shlN (Mine.hi (catL (ps.take i))) ps[i].2.length (catL (ps.take i)).length rfl rfl (B_lt _ _) (by omega) ?_
    intro _ _
    kpt_turns
    refine Turn.next ((_, _), (_, _), (_, _)) (by assumption) (by tb_start) (by tb_rel) ?_
    rintro _ rfl
    rw [sn]
    refine ⟨?_, ?_, ?_⟩
    · dsimp only
      rw [List.length_append]; omega
    · exact congrArg _ (cat_bits fl _ _)
    · exact congrArg _ (cat_bits fh _ _)
  · rintro ⟨⟨x0, u0⟩, ⟨x1, u1⟩, ⟨x2, u2⟩⟩ h tk J F
    obtain ⟨j0, j1, j2⟩ := J _ rfl
    dsimp only at j0 j1 j2 F
    subst j0 j1 j2
    kpt_turns
    have e : catL (ps.take (ps.map fun p => Value.ref p.1).length) = catL ps := by rw [List.length_map, List.take_length]
    rw [← e]
    exact Fin.vl (by assumption) rfl rfl rfl
end

end
section
def RowO (o : Obj) : Prop := ∃ vs n l, o = LO vs n ∧ NA vs l ∧ (∀ c ∈ l, c < 1024) ∧ l.length ≤ 200
theorem RowO.nt {o : Obj} (x : RowO o) : isT o = false := by obtain ⟨vs, n, l, rfl, _⟩ := x; rfl
section
variable {prog : Program} {w : World} {s : Shared}

theorem next_spec (r : Addr) (o : Obj) (hr : s.heap.get? r = some o) (ho : RowO o) : Spec prog w 726 [.ref r] 9 s [r] (fun v h' => ∃ o', h'.get? r = some o' ∧ RowO o' ∧ ∃ c : Nat, c < 1024 ∧ IsI c v h') := by
  obtain ⟨vs, n, l, rfl, hv, hb, hl⟩ := ho
  refine s_def [("row", .ref r)] (by k_is) (by k_is) (fun _ => BindsTo.of_eq rfl) rfl [(r, LO vs n)] (by simpa using hr) (by simp [muts]; try split <;> simp) ?_
  intro A g L h tk hh hd hu G F kb
  kpt_turns
  rename_i F1
  refine ne_intsK (s := At s _ _) (F1.lstP (by ktu_off1L)) hv (F1.lstP (by ktu_off1L)) .nil hu ?_
  kpt_turns
  refine i_ndec (fun hc => ?_) (fun hc => ?_)
  · obtain ⟨us, t, k, c, rfl, rfl, hu'⟩ := hv.last (fun e => hc (by rw [e]; rfl))
    kpt_turns
    have hz := hv.length
    rw [List.length_append, List.length_append] at hz
    rw [List.length_append] at hl
    with_reducible refine m_pop (by assumption) (by ktu_off1L) (by rw [sizeLine_eq]; simp at hz hl; omega) ?_
    intro _ _ F2
    exact Fin.ret F2 ⟨_, F2.has (.head _), ⟨us, _, k, rfl, hu', fun x hx => hb x (List.mem_append_left _ hx), by omega⟩, c, hb c (by simp), _, rfl⟩
  · kpt_turns
    exact Fin.ret F1 ⟨_, F1.hasP (by ktu_off1L), ⟨vs, _, l, rfl, hv, hb, hl⟩, 0, by decide, _, rfl⟩

theorem bits_spec (r : Addr) (o : Obj) (wd : Nat) (t : Tok) (hr : s.heap.get? r = some o) (ho : RowO o) (hw : wd ≤ 100) :
    Spec prog w 733 [.ref r, .int wd t] 10 s [r] (fun v h' => ∃ o', h'.get? r = some o' ∧ RowO o' ∧ ∃ a l vs n, v = .ref a ∧ s.heap.get? a = none ∧ h'.get? a = some (LO vs n) ∧ NA vs l ∧ l.length = wd ∧ ∀ c ∈ l, c ≤ 3) := by
  refine s_def [("wide", .int wd t), ("row", .ref r)] (by k_is) (by k_is) (fun _ => BindsTo.of_eq rfl) rfl [(r, o)] (by simpa using hr) (by simp [muts]; try split <;> simp) ?_
  intro A g L h tk hh hd hu G F kb
  kpt_turns
  rename_i b _ hb0 _ _ _ F1
  obtain ⟨N, hN⟩ : ∃ N : Nat, ((wd : Int) + 4) / 5 = N := ⟨((wd + 4) / 5), by omega⟩
  refine l_range (n := N) (σ := Obj × List Value × Nat) (fun x => [("wide", .int wd t), ("row", .ref r), ("bits", .ref b)]) (fun x => [(r, x.1), (b, LO x.2.1 x.2.2)])
    (fun i x => RowO x.1 ∧ ∃ l, NA x.2.1 l ∧ l.length = 5 * i ∧ ∀ c ∈ l, c ≤ 3) (o, [], 0) (by assumption) (by kernel_rfl!) hN (by omega) (by assumption) (by tb_start) (by tb_rel) ⟨ho, [], .nil, rfl, by simp⟩ ?_ ?_
  · rintro i t1 ⟨o1, vs, n⟩ h tk I oI hi ⟨ho1, l, hv, hl, hc⟩ F
    dsimp only at F ho1 hv
    kpt_turns
    with_reducible refine e_spec1 (next_spec r o1 (F.hasP (by ktu_off1L)) ho1) (by assumption) (by assumption) (by ktu_off1L) (RowO.nt (by assumption)) (by assumption) (dlt (by assumption)) (ult (by assumption)) ?_
    rintro _ h2 tk2 o2 F2 _ ⟨ho2, c0, _, t2, rfl⟩
    kpt_turns
    refine l_range (n := 5) (σ := Int × Tok × List Value × Nat) (fun x => [("wide", .int wd t), ("row", .ref r), ("bits", .ref b), ("number", .int x.1 x.2.1)]) (fun x => [(I, oI), (r, o2), (b, LO x.2.2.1 x.2.2.2)])
      (fun j x => (∃ m : Nat, x.1 = m) ∧ ∃ l, NA x.2.2.1 l ∧ l.length = 5 * i + j ∧ ∀ c ∈ l, c ≤ 3) (_, _, vs, n) (by assumption) (by kernel_rfl!) rfl (by decide) (by assumption) (by tb_start) (by tb_rel) ⟨⟨_, rfl⟩, l, hv, by omega, hc⟩ ?_ ?_
    · rintro j t3 ⟨num, t4, vs2, n2⟩ h tk I2 oI2 hj ⟨⟨m, hm⟩, l2, hv2, hl2, hc2⟩ F
      dsimp only at F hm hv2
      subst hm
      kpt_turns
      have e : (m : Int) % 4 = ((m % 4 : Nat) : Int) := by omega
      have hz := hv2.length
      rw [e]
      with_reducible refine m_app (by assumption) (by ktu_off1L) (by rw [sizeLine_eq]; omega) ?_
      intro _ _ _
      kpt_turns
      refine Turn.next (_, _, _, _) (by assumption) (by tb_start) (by tb_rel) ⟨⟨m / 4, ?_⟩, l2 ++ [m % 4], hv2.snoc _ _, ?_, ?_⟩
      · dsimp only; omega
      · rw [List.length_append, hl2]; rfl
      · intro c hc'
        rcases List.mem_append.mp hc' with q | q
        · exact hc2 c q
        · rw [List.mem_singleton.mp q]; omega
    · rintro ⟨num, t4, vs2, n2⟩ h tk ⟨⟨m, hm⟩, l2, hv2, hl2, hc2⟩ F
      dsimp only at F hm hv2
      kpt_turns
      exact Turn.next (_, _, _) F (by tb_start) (by tb_rel) ⟨ho2, l2, hv2, by omega, hc2⟩
  · rintro ⟨o1, vs, n⟩ h tk ⟨ho1, l, hv, hl, hc⟩ F
    dsimp only at F ho1 hv
    kpt_turns
    have hz := hv.length
    rename_i F3
    with_reducible refine st_upto F3 (by ktu_off1L) (F3.lstP (by ktu_off1L)) (by omega) (by rw [sizeLine_eq]; omega) ?_
    intro a h4 ha F4
    refine Fin.ret F4 ⟨_, F4.hasP (by ktu_off1L), ho1, a, l.take wd, vs.take wd, 0, rfl, ?_, F4.hasP (by ktu_off1L), hv.take _, ?_, fun c q => hc c (List.mem_of_mem_take q)⟩
    · refine kb.none (F4.freshP Pick.here) (fun q => ?_)
      have z := F3.hasP (a := r) (o := o1) (by ktu_off1L)
      simp at q
      rw [← q, ha] at z; cases z
    · rw [List.length_take]; omega
end

end
section
section
variable {M : Model} {prog : Program} {w : World} {A : Around} {E : Value → Shared → Prop} {s : Shared} {h g : Heap} {tk : Nat} {L : Addr} {l : List (Str × Value)} {bag : List (Addr × Obj)}
/-- ways that meet: only what holds of the value goes on -/
theorem e_cut (_F : Fm g L h l bag) {t : Sem Value} {Q : Value → Shared → Prop} {s' : Shared} (P : Value → Prop) (h1 : wpAny M A t (fun v s₁ => P v ∧ ∃ h' tk', s₁ = At s h' tk' ∧ Fm g L h' l bag) (fun _ _ => False) s')
    (h2 : ∀ v h' tk', P v → Fm g L h' l bag → Q v (At s h' tk')) : wpAny M A t Q E s' :=
  no_exc (wpAny_mono h1 (fun v s₁ ⟨p, h', tk', e, F⟩ => by rw [e]; exact h2 v h' tk' p F) fun _ _ x => x)
end
theorem e_itemN {prog : Program} {w : World} {A : Around} {E : Value → Shared → Prop} {s : Shared} {h : Heap} {tk : Nat} {value slice : Expr} {D : Addr} {vs : List Value} {l : List Nat} {j : Nat} {u : Tok} {Q : Value → Shared → Prop} (hl : h.IsList D vs.toArray) (hv : NA vs l) (hj : j < l.length) (hz : l.length ≤ 1000)
    (q : ∀ t, Q (.int (l.getD j 0 : Nat) t) (At s h tk)) (hs : subscripted slice false (.ref D) (.int j u) = operate [.ref D, .int j u] (getItem (.ref D) (.int j u)) := by kernel_rfl!) :
    wpAny (model prog w) A (subscriptTail value slice (.ref D) (.int (j : Nat) u)) Q E (At s h tk) := by
  obtain ⟨t, hx⟩ := hv.get hj
  exact e_itemL hl (by omega) (by omega) (by simpa using hx) (q t) hs
theorem B_take (f : Nat → Bool) (l : List Nat) (j : Nat) (h : j < l.length) : B f (l.take (j + 1)) = B f (l.take j) + (f (l.getD j 0)).toNat * 2 ^ j := by
  rw [← List.take_append_getElem h, B_append, List.length_take, Nat.min_eq_left (Nat.le_of_lt h), B, B, Nat.mul_comm]
  simp [List.getD_eq_getElem?_getD, h]
theorem mul_ok {x j : Nat} (hx : x ≤ 3) (hj : j ≤ 1000) : IntMulOk (x : Int) ((2 ^ j : Nat) : Int) :=
  IntMulOk.of_le (m := 2) (n := 1001) (intBits_nat (by omega)) (intBits_nat (k := 1001) (Nat.pow_lt_pow_right (by decide) (by omega))) (by decide)
section
variable {prog : Program} {w : World} {s : Shared}

theorem row_spec (D : Addr) (vs : List Value) (ns : List Int) (hD : s.heap.IsList D vs.toArray) (hv : IntsAre vs ns) (hl : ns.length ≤ 63) :
    Spec prog w 719 [.ref D] 10 s [] (fun v h' => ∃ a o, v = .ref a ∧ s.heap.get? a = none ∧ h'.get? a = some o ∧ RowO o) := by
  refine s_def0 [("script", .ref D)] (by k_is) (by k_is) (fun _ => BindsTo.of_eq rfl) rfl ?_
  intro A g L h tk hh hd hu G F kb
  have hDg : g.IsList D vs.toArray := hD.at fun o e => kb.all D o e
  have hz : vs.length = ns.length := hv.length
  kpt_turns
  rename_i b _ hb0 _ _ _ F1 _ _ F2
  have hD2 := hDg.at fun o e => F2.keep D o e
  with_reducible refine st_upto F2 (by ktu_off1L) hD2 (by decide) (by rw [sizeLine_eq]; omega) ?_
  intro a h3 ha F3
  have hv40 := hv.take 40
  refine l_list (σ := List Value × Nat) (fun x => [("row", .ref b)]) (fun x => [(a, LO (vs.take 40) 0), (b, LO x.1 x.2)]) (fun i x => ∃ l, NA x.1 l ∧ l.length ≤ 31 * i ∧ ∀ c ∈ l, c < 1024) ([], 0)
    (by assumption) (by kernel_rfl!) F3 (fun _ _ _ F' => F'.lstP (by ktu_off1L)) (by tb_start) (by tb_rel) ⟨[], .nil, by simp, by simp⟩ ?_ ?_
  · rintro i v ⟨vs1, n1⟩ h tk I oI hi hvi ⟨l, hv1, hl1, hc1⟩ F
    dsimp only at F hv1
    obtain ⟨m, t, rfl, _⟩ := IntsAre.at hv40 i v hvi
    cell_call
    refine e_cut (s := s) F (fun v => ∃ m t, v = .int m t) (h1 := ?_) ?_
    · kpt_turns
      refine i_dec (fun q => ?_) (fun q => ?_)
      · kpt_turns
        exact ⟨⟨_, _, rfl⟩, _, _, rfl, F⟩
      · kpt_turns
        exact ⟨⟨_, _, rfl⟩, _, _, rfl, F⟩
    rintro _ h4 tk4 ⟨m, t, rfl⟩ F4
    kpt_turns
    have e : m % 1024 = ((m % 1024).toNat : Int) := by omega
    have hz1 := hv1.length
    have hi' : i < 40 := by rw [List.length_take] at hi; omega
    rw [e]
    with_reducible refine m_app (by assumption) (by ktu_off1L) (by rw [sizeLine_eq]; omega) ?_
    intro _ _ _
    kpt_turns
    refine l_range (n := 30) (σ := Int × Tok × List Value × Nat) (fun x => [("row", .ref b), ("number", .int x.1 x.2.1)]) (fun x => [(I, oI), (a, LO (vs.take 40) 0), (b, LO x.2.2.1 x.2.2.2)])
      (fun j x => ∃ l, NA x.2.2.1 l ∧ l.length ≤ 31 * i + 1 + j ∧ ∀ c ∈ l, c < 1024) (_, _, _, _) (by assumption) (by kernel_rfl!) rfl (by decide) (by assumption) (by tb_start) (by tb_rel) ⟨_, hv1.snoc _ _, by rw [List.length_append]; simp; omega, ?_⟩ ?_ ?_
    · intro c hc
      rcases List.mem_append.mp hc with q | q
      · exact hc1 c q
      · rw [List.mem_singleton.mp q]; omega
    · rintro j t3 ⟨num, t4, vs2, n2⟩ h tk I2 oI2 hj ⟨l2, hv2, hl2, hc2⟩ F
      dsimp only at F hv2
      kpt_turns
      refine i_dec (fun q => ?_) (fun q => ?_)
      · kpt_turns
        have e : num % 1024 = ((num % 1024).toNat : Int) := by omega
        have hz2 := hv2.length
        rw [e]
        with_reducible refine m_app (by assumption) (by ktu_off1L) (by rw [sizeLine_eq]; omega) ?_
        intro _ _ _
        kpt_turns
        refine Turn.next (_, _, _, _) (by assumption) (by tb_start) (by tb_rel) ⟨_, hv2.snoc _ _, by rw [List.length_append]; simp; omega, ?_⟩
        intro c hc
        rcases List.mem_append.mp hc with q | q
        · exact hc2 c q
        · rw [List.mem_singleton.mp q]; omega
      · kpt_turns
        exact Turn.next (_, _, _, _) F (by tb_start) (by tb_rel) ⟨l2, hv2, by omega, hc2⟩
    · rintro ⟨num, t4, vs2, n2⟩ h tk ⟨l2, hv2, hl2, hc2⟩ F
      dsimp only at F hv2
      kpt_turns
      exact Turn.next (_, _) F (by tb_start) (by tb_rel) ⟨l2, hv2, by omega, hc2⟩
  · rintro ⟨vs1, n1⟩ h tk ⟨l, hv1, hl1, hc1⟩ F
    dsimp only at F hv1
    kpt_turns
    rename_i F5
    have hz1 := hv1.length
    rw [List.length_take] at hl1
    with_reducible refine st_upto F5 (by ktu_off1L) (F5.lstP (by ktu_off1L)) (by decide) (by rw [sizeLine_eq]; omega) ?_
    intro c h6 hc F6
    kpt_turns
    have hv160 := hv1.take 160
    with_reducible refine m_rev (by assumption) (by ktu_off1L) (Nat.le_trans (List.length_take_le _ _) (by rw [sizeLine_eq]; decide)) ?_
    intro _ _ F7
    kpt_turns
    refine Fin.ret F7 ⟨_, _, rfl, kb.none (F7.freshP Pick.here) (by simp), F7.hasP Pick.here, _, _, _, rfl, hv160.reverse, fun x hx => hc1 x (List.mem_of_mem_take (List.mem_reverse.mp hx)), ?_⟩
    rw [List.length_reverse, List.length_take]; omega

theorem made_spec (D : Addr) (vs : List Value) (l : List Nat) (hD : s.heap.IsList D vs.toArray) (hv : NA vs l) (hl : l.length ≤ 100) (hc : ∀ c ∈ l, c ≤ 3) : Spec prog w 740 [.ref D] 3 s [] (IsVL l) := by
  refine s_def0 [("bits", .ref D)] (by k_is) (by k_is) (fun _ => BindsTo.of_eq rfl) rfl ?_
  intro A g L h tk hh hd hu G F kb
  have hDg : g.IsList D vs.toArray := hD.at fun o e => kb.all D o e
  have hz : vs.length = l.length := hv.length
  have hDh : ∀ h' l' b', Fm g L h' l' b' → h'.IsList D vs.toArray := fun h' l' b' F' => hDg.at fun o e => F'.keep D o e
  kpt_turns
  with_reducible refine b_len (hDh _ _ _ (by assumption)) (by rw [sizeLine_eq]; omega) ?_
  intro _ _
  kpt_turns
  refine l_range (n := l.length) (σ := (Int × Tok) × (Int × Tok)) (fun x => [("bits", .ref D), ("low", .int x.1.1 x.1.2), ("high", .int x.2.1 x.2.2)]) (fun x => [])
      (fun j x => x.1.1 = lo (l.take j) ∧ x.2.1 = hi (l.take j)) ((_, _), (_, _)) (by assumption) (by kernel_rfl!) (by rw [hz]) (by omega) (by assumption) (by tb_start) (by tb_rel) ⟨rfl, rfl⟩ ?_ ?_
  · rintro j t3 ⟨⟨x0, u0⟩, ⟨x1, u1⟩⟩ h tk I2 oI2 hj ⟨j0, j1⟩ F
    dsimp only at F j0 j1
    subst j0 j1
    kpt_turns
    have hcj : l.getD j 0 ≤ 3 := getD_le hc j
    with_reducible refine e_itemN (hDh _ _ _ (by assumption)) hv hj (by omega) ?_
    intro _
    kpt_turns
    rw [show ((l.getD j 0 : Nat) : Int) % 2 = ((l.getD j 0 % 2 : Nat) : Int) by omega]
    with_reducible refine o_pow2 (by omega) ?_
    intro _ _
    with_reducible refine o_mul (mul_ok (by omega) (by omega)) ?_
    intro _ _
    kpt_turns
    with_reducible refine e_itemN (hDh _ _ _ (by assumption)) hv hj (by omega) ?_
    intro _
    kpt_turns
    rw [show ((l.getD j 0 : Nat) : Int) / 2 = ((l.getD j 0 / 2 : Nat) : Int) by omega]
    with_reducible refine o_pow2 (by omega) ?_
    intro _ _
    with_reducible refine o_mul (mul_ok (by omega) (by omega)) ?_
    intro _ _
    kpt_turns
    refine Turn.next ((_, _), (_, _)) (by assumption) (by tb_start) (by tb_rel) ⟨?_, ?_⟩
    · show ((B fl _ : Nat) : Int) + _ = ((B fl _ : Nat) : Int)
      rw [B_take fl l j hj, Int.natCast_add, Int.natCast_mul]
      congr 2
      rcases code_cases hcj with q | q | q | q <;> rw [q] <;> rfl
    · show ((B fh _ : Nat) : Int) + _ = ((B fh _ : Nat) : Int)
      rw [B_take fh l j hj, Int.natCast_add, Int.natCast_mul]
      congr 2
      rcases code_cases hcj with q | q | q | q <;> rw [q] <;> rfl
  · rintro ⟨⟨x0, u0⟩, ⟨x1, u1⟩⟩ h tk ⟨j0, j1⟩ F
    dsimp only at F j0 j1
    rw [List.take_length] at j0 j1
    subst j0 j1
    kpt_turns
    with_reducible refine b_len (hDh _ _ _ (by assumption)) (by rw [sizeLine_eq]; omega) ?_
    intro _ _
    kpt_turns
    exact Fin.vl (by assumption) (by rw [hz]) rfl rfl
end

end
section
section
variable {M : Model} {prog : Program} {w : World} {A : Around} {E : Value → Shared → Prop} {s : Shared} {h g : Heap} {tk : Nat} {L : Addr} {l : List (Str × Value)} {bag : List (Addr × Obj)} {env : Env}
/-- the last item -/
theorem e_itemLast {value slice : Expr} {D : Addr} {vs : List Value} {l : List Nat} {u : Tok} {Q : Value → Shared → Prop} (hl : h.IsList D vs.toArray) (hv : NA vs l) (hj : 0 < l.length) (hz : l.length ≤ 1000)
    (q : ∀ t, Q (.int (l.getD (l.length - 1) 0 : Nat) t) (At s h tk)) (hs : subscripted slice false (.ref D) (.int (-1) u) = operate [.ref D, .int (-1) u] (getItem (.ref D) (.int (-1) u)) := by kernel_rfl!) :
    wpAny (model prog w) A (subscriptTail value slice (.ref D) (.int (-1) u)) Q E (At s h tk) := by
  obtain ⟨t, hx⟩ := hv.get (i := l.length - 1) (by omega)
  have hz' := hv.length
  refine tail_any (Heap.IsList.typeIs (s := At s h tk) hl) slot_list_getitem.lookup (wpAny_getItem_list_neg (s := At s h tk) (x := .int (l.getD (l.length - 1) 0 : Nat) t) hl ?_ ?_ ?_ ?_ (q t)) hs
  · decide
  · rw [List.size_toArray]; omega
  · decide
  · have e : (-1 + (vs.toArray.size : Int)).toNat = l.length - 1 := by rw [List.size_toArray]; omega
    rw [e]; simpa using hx
theorem Turn.ret {σ : Type} {names : σ → List (Str × Value)} {bagf : σ → List (Addr × Obj)} {J : σ → Prop} {it : Addr × Obj} {K : Flow → Shared → Prop} {v : Value} {s' : Shared} (q : K (.ret v) s') : Turn s g L names bagf J it K (.ret v) s' := q
end
def CT (h : Heap) (r : Addr) (l : List Nat) : Prop := ∃ t0 t1 t2 t3, IsTup h r #[.str "const" t0, .int l.length t1, .int (lo l) t2, .int (hi l) t3]
theorem CT.keeps {h h' : Heap} {r : Addr} {l : List Nat} (x : CT h r l) (k : h.StaysIn h') : CT h' r l := let ⟨t0, t1, t2, t3, T⟩ := x; ⟨t0, t1, t2, t3, T.keeps k⟩
def atD (l : List Nat) (msb lsb k : Int) : Nat := atI l (if lsb ≤ msb then k - lsb else lsb - k)
section
variable {prog : Program} {w : World} {s : Shared}

theorem const_spec (D : Addr) (vs : List Value) (l : List Nat) (hD : s.heap.IsList D vs.toArray) (hv : NA vs l) (hl : l.length ≤ 100) (hc : ∀ c ∈ l, c ≤ 3) : Spec prog w 747 [.ref D] 4 s [] (fun v h' => ∃ r, v = .ref r ∧ CT h' r l) := by
  refine s_def0 [("bits", .ref D)] (by k_is) (by k_is) (fun _ => BindsTo.of_eq rfl) rfl ?_
  intro A g L h tk hh hd hu G F kb
  kpt_turns
  have hDh := hD.at fun o e => F.keep D o (kb.all D o e)
  with_reducible refine e_spec0 (made_spec D vs l hDh hv hl hc) (by assumption) (by assumption) (by assumption) (dlt (by assumption)) (ult (by assumption)) ?_
  rintro _ h1 tk1 F1 _ ⟨r, rfl, u0, u1, u2, T⟩
  kpt_turns
  with_reducible refine a_unp3 (by assumption) (by assumption) T ?_
  intro h2 F2
  kpt_turns
  rename_i F3
  exact Fin.ret F3 ⟨_, rfl, _, _, _, _, F3.tup (.head _)⟩

theorem whole_spec (D : Addr) (vs : List Value) (l : List Nat) (sg : Bool) (hD : s.heap.IsList D vs.toArray) (hv : NA vs l) (h0 : 0 < l.length) (hl : l.length ≤ 100) (hc : ∀ c ∈ l, c ≤ 3) :
    Spec prog w 754 [.ref D, .bool sg] 3 s [] (fun r h' => match wholeL l sg with | some i => IsI i r h' | none => r = .none) := by
  refine s_def0 [("signed", .bool sg), ("bits", .ref D)] (by k_is) (by k_is) (fun _ => BindsTo.of_eq rfl) rfl ?_
  intro A g L h tk hh hd hu G F kb
  have hDg : g.IsList D vs.toArray := hD.at fun o e => kb.all D o e
  have hz : vs.length = l.length := hv.length
  have hDh : ∀ h' l' b', Fm g L h' l' b' → h'.IsList D vs.toArray := fun h' l' b' F' => hDg.at fun o e => F'.keep D o e
  kpt_turns
  with_reducible refine b_len (hDh _ _ _ (by assumption)) (by rw [sizeLine_eq]; omega) ?_
  intro _ _
  kpt_turns
  refine l_range (n := l.length) (σ := Int × Tok) (fun x => [("signed", .bool sg), ("bits", .ref D), ("figure", .int x.1 x.2)]) (fun x => [])
      (fun j x => x.1 = lo (l.take j) ∧ ∀ c ∈ l.take j, c ≤ 1) (_, _) (by assumption) (by kernel_rfl!) (by rw [hz]) (by omega) (by assumption) (by tb_start) (by tb_rel) ⟨rfl, by simp⟩ ?_ ?_
  · rintro j t3 ⟨x0, u0⟩ h tk I2 oI2 hj ⟨j0, j1⟩ F
    dsimp only at F j0 j1
    subst j0
    have hcj : l.getD j 0 ≤ 3 := getD_le hc j
    have hmem : l.getD j 0 ∈ l := by simp [List.getD_eq_getElem?_getD, hj]
    kpt_turns
    with_reducible refine e_itemN (hDh _ _ _ (by assumption)) hv hj (by omega) ?_
    intro _
    kpt_turns
    refine i_dec (fun q => ?_) (fun q => ?_)
    · kpt_turns
      refine Turn.ret ?_
      kpt_turns
      refine Fin.ret F ?_
      have hw : wholeL l sg = none := by
        unfold wholeL
        rw [if_neg]
        intro q'
        have := q' _ hmem
        omega
      rw [hw]
    · kpt_turns
      with_reducible refine e_itemN (hDh _ _ _ (by assumption)) hv hj (by omega) ?_
      intro _
      kpt_turns
      with_reducible refine o_pow2 (by omega) ?_
      intro _ _
      with_reducible refine o_mul (mul_ok (by omega) (by omega)) ?_
      intro _ _
      kpt_turns
      refine Turn.next (_, _) (by assumption) (by tb_start) (by tb_rel) ⟨?_, ?_⟩
      · show ((B fl _ : Nat) : Int) + _ = ((B fl _ : Nat) : Int)
        rw [B_take fl l j hj, Int.natCast_add, Int.natCast_mul]
        congr 2
        have : l.getD j 0 = 0 ∨ l.getD j 0 = 1 := by omega
        rcases this with q | q <;> rw [q] <;> rfl
      · intro c hcm
        rw [← List.take_append_getElem hj] at hcm
        rcases List.mem_append.mp hcm with q' | q'
        · exact j1 c q'
        · rw [List.mem_singleton.mp q']
          simp [List.getD_eq_getElem?_getD, hj] at q
          omega
  · rintro ⟨x0, u0⟩ h tk ⟨j0, j1⟩ F
    dsimp only at F j0 j1
    rw [List.take_length] at j0 j1
    subst j0
    kpt_turns
    refine i_bool (fun hs => ?_) (fun hs => ?_)
    · subst hs
      kpt_turns
      with_reducible refine e_itemLast (hDh _ _ _ (by assumption)) hv h0 (by omega) ?_
      intro _
      kpt_turns
      refine i_dec (fun q => ?_) (fun q => ?_)
      · kpt_turns
        with_reducible refine b_len (hDh _ _ _ (by assumption)) (by rw [sizeLine_eq]; omega) ?_
        intro _ _
        with_reducible refine o_pow2 (by omega) ?_
        intro _ _
        kpt_turns
        refine Fin.ret F ?_
        have hw : wholeL l true = some ((lo l : Int) - ((2 ^ vs.length : Nat) : Int)) := by
          unfold wholeL
          rw [if_pos j1, if_pos ⟨rfl, by exact_mod_cast q⟩, hz]
          simp
        rw [hw]
        exact ⟨_, rfl⟩
      · kpt_turns
        refine Fin.ret F ?_
        have hw : wholeL l true = some (lo l : Int) := by
          unfold wholeL
          rw [if_pos j1, if_neg fun z => q (by exact_mod_cast z.2)]
        rw [hw]
        exact ⟨_, rfl⟩
    · subst hs
      kpt_turns
      refine Fin.ret F ?_
      have hw : wholeL l false = some (lo l : Int) := by
        unfold wholeL
        rw [if_pos j1, if_neg (by simp)]
      rw [hw]
      exact ⟨_, rfl⟩

theorem range_spec (r : Addr) (o : Obj) (hr : s.heap.get? r = some o) (ho : RowO o) : Spec prog w 761 [.ref r] 10 s [r] (fun v h' => ∃ o', h'.get? r = some o' ∧ RowO o' ∧ ∃ a b p t0 t1, -5 ≤ a ∧ a ≤ 6 ∧ -5 ≤ b ∧ b ≤ 6 ∧ v = .ref p ∧ IsTup h' p #[.int a t0, .int b t1]) := by
  refine s_def [("row", .ref r)] (by k_is) (by k_is) (fun _ => BindsTo.of_eq rfl) rfl [(r, o)] (by simpa using hr) (by simp [muts]; try split <;> simp) ?_
  intro A g L h tk hh hd hu G F kb
  kpt_turns
  with_reducible refine e_spec1 (next_spec r o (F.hasP (by ktu_off1L)) ho) (by assumption) (by assumption) (by ktu_off1L) (RowO.nt (by assumption)) (by assumption) (dlt (by assumption)) (ult (by assumption)) ?_
  rintro _ h2 tk2 o2 F2 _ ⟨ho2, c0, _, t2, rfl⟩
  kpt_turns
  rename_i F3
  with_reducible refine e_spec1 (next_spec r o2 (F3.hasP (by ktu_off1L)) ho2) (by assumption) (by assumption) (by ktu_off1L) (RowO.nt (by assumption)) (by assumption) (dlt (by assumption)) (ult (by assumption)) ?_
  rintro _ h4 tk4 o4 F4 _ ⟨ho4, c1, _, t4, rfl⟩
  kpt_turns
  rename_i F5
  exact Fin.ret F5 ⟨_, F5.hasP (by ktu_off1L), ho4, _, _, _, _, _, by omega, by omega, by omega, by omega, rfl, F5.tup (.head _)⟩
end

end
section
section
variable {M : Model} {A : Around} {E : Value → Shared → Prop} {env : Env}
theorem isT_chain2 {l : Expr} {o1 o2 : CmpOp} {r1 r2 : Expr} {pos : Pos} {whole : Sem Value} {Q : Bool → Shared → Prop} {s : Shared}
    (q : wpAny M A (eval l env) (fun a s₁ => wpAny M A (eval r1 env) (fun b s₂ => wpAny M A (compareOp o1 a b) (fun c s₃ => wpAny M A (truthy c) (fun t s₄ => if t = true then
      wpAny M A (eval r2 env) (fun d s₅ => wpAny M A (compareOp o2 b d) (fun e s₆ => wpAny M A (truthy e) Q E s₆) E s₅) E s₄ else Q false s₄) E s₃) E s₂) E s₁) E s)
    (hm : lastMarks [o1, o2] [r1, r2] = false := by kernel_rfl!) : wpAny M A (isTrue (.Compare l [o1, o2] [r1, r2] pos) env whole) Q E s := by
  refine isTrue_chain (wpAny_mono q (fun a s₁ q => test_link (wpAny_mono q (fun b s₂ q => wpAny_mono q (fun c s₃ q => wpAny_mono q (fun t s₄ q => ?_) fun _ _ x => x) fun _ _ x => x) fun _ _ x => x)) fun _ _ x => x) hm
  cases t with
  | true => exact test_last q
  | false => exact q
end
theorem st_back2 {prog : Program} {w : World} {A : Around} {E : Value → Shared → Prop} {s : Shared} {h g : Heap} {tk : Nat} {L : Addr} {l : List (Str × Value)} {bag bag' : List (Addr × Obj)} {value slice : Expr} {D r : Addr} {vs : List Value} {t : Tok} {ops : List Value} {Q : Value → Shared → Prop} (F : Fm g L h l bag) (hm : Pick (r, slO .none .none (.int (-1) t)) bag bag') (hl : h.IsList D vs.toArray) (hz : vs.length ≤ sizeLine)
    (hs : subscripted slice false (.ref D) (.ref r) = operate ops (getItem (.ref D) (.ref r)))
    (q : ∀ a h', h.get? a = none → Fm g L h' l ((a, LO vs.reverse 0) :: bag) → Q (.ref a) (At s h' tk))
    (ht : ∀ r, letTemporaryGo value (.ref D) r = pure () := by intro _; kernel_rfl!) : wpAny (model prog w) A (subscriptTail value slice (.ref D) (.ref r)) Q E (At s h tk) := by
  refine subscriptTail_ops (Heap.IsList.typeIs (s := At s h tk) hl) list_getitem_lookup (wpAny_getItem_list_slice (s := At s h tk) hl ⟨_, F.has hm.out.1, rfl, rfl⟩ .none .none (.int _ _) (by simp) ?_ (by rw [List.size_toArray]; exact hz)) hs ht
  rw [krv_pick]
  exact q h.objs.size _ (Heap.get?_none_of_le (Nat.le_refl _)) (F.push _)
theorem nd3 (L : Nat) : [L + 1 + 1 + 1, L + 1 + 1, L + 1].Nodup := by simp; omega
theorem s_ifj {M : Model} {A : Around} {E : Value → Shared → Prop} {env : Env} {test : Expr} {body : List Stmt} {pos : Pos} {rest : List Stmt} {Q : Flow → Shared → Prop} {s : Shared} (R : Shared → Prop)
    (q : wpAny M A (isTrue test env (eval test env)) (fun b s₂ => if b = true then wpAny M A (execs body env) (fun fl s' => fl = .next ∧ R s') E s₂ else R s₂) E s)
    (q2 : ∀ s', R s' → wpAny M A (execs rest env) Q E s') : wpAny M A (execs (.If test body [] pos :: rest) env) Q E s := by
  refine s_if (wpAny_mono q (fun b s₂ x => ?_) fun _ _ x => x)
  cases b with
  | true => exact wpAny_mono x (fun fl s' ⟨e, r⟩ => by subst e; exact k_next (q2 _ r)) fun _ _ x => x
  | false => exact s_nil (k_next (q2 _ x))
section
variable {prog : Program} {w : World} {s : Shared}
theorem at_spec (D : Addr) (vs : List Value) (l : List Nat) (msb lsb k : Int) (t1 t2 t3 : Tok) (hD : s.heap.IsList D vs.toArray) (hv : NA vs l) (hl : l.length ≤ 100) :
    Spec prog w 768 [.ref D, .int msb t1, .int lsb t2, .int k t3] 2 s [] (IsI (atD l msb lsb k : Nat)) := by
  refine s_def0 [("index", .int k t3), ("lsb", .int lsb t2), ("msb", .int msb t1), ("bits", .ref D)] (by k_is) (by k_is) (fun _ => BindsTo.of_eq rfl) rfl ?_
  intro A g L h tk hh hd hu G F kb
  have hDg : g.IsList D vs.toArray := hD.at fun o e => kb.all D o e
  have hz : vs.length = l.length := hv.length
  have hDh : ∀ h' l' b', Fm g L h' l' b' → h'.IsList D vs.toArray := fun h' l' b' F' => hDg.at fun o e => F'.keep D o e
  cell_call
  refine e_cut (s := s) F (fun v => ∃ t, v = .int (if lsb ≤ msb then k - lsb else lsb - k) t) (h1 := ?_) ?_
  · kpt_turns
    refine i_dec (fun q => ?_) (fun q => ?_)
    · kpt_turns
      exact ⟨⟨_, by rw [if_pos q]⟩, _, _, rfl, F⟩
    · kpt_turns
      exact ⟨⟨_, by rw [if_neg q]⟩, _, _, rfl, F⟩
  rintro _ h1 tk1 ⟨t, rfl⟩ F1
  unfold atD
  generalize (if lsb ≤ msb then k - lsb else lsb - k) = p
  kpt_turns
  refine isT_chain2 ?_
  kpt_turns
  refine i_dec (fun q1 => ?_) (fun q1 => ?_)
  · kpt_turns
    with_reducible refine b_len (hDh _ _ _ (by assumption)) (by rw [sizeLine_eq]; omega) ?_
    intro _ _
    kpt_turns
    refine i_dec (fun q2 => ?_) (fun q2 => ?_)
    · obtain ⟨j, rfl⟩ : ∃ j : Nat, p = j := ⟨p.toNat, by omega⟩
      kpt_turns
      with_reducible refine e_itemN (hDh _ _ _ (by assumption)) hv (by omega) (by omega) ?_
      intro _
      refine Fin.int (by assumption) ?_
      unfold atI
      rw [if_pos (by omega)]; rfl
    · kpt_turns
      refine Fin.int (by assumption) ?_
      unfold atI
      rw [if_neg (by omega)]; rfl
  · kpt_turns
    refine Fin.int (by assumption) ?_
    unfold atI
    rw [if_neg (by omega)]; rfl
def pickL (l : List Nat) (msb lsb : Int) (ns : List Int) : List Nat := (if msb < lsb then ns.reverse else ns).map fun k => atD l msb lsb k
theorem picked_spec (D X : Addr) (vs us : List Value) (l : List Nat) (ns : List Int) (msb lsb : Int) (t1 t2 : Tok) (hD : s.heap.IsList D vs.toArray) (hv : NA vs l) (hl : l.length ≤ 100) (hc : ∀ c ∈ l, c ≤ 3)
    (hX : s.heap.IsList X us.toArray) (hu' : IntsAre us ns) (hn : ns.length ≤ 100) :
    Spec prog w 773 [.ref D, .int msb t1, .int lsb t2, .ref X] 5 s [] (IsVL (pickL l msb lsb ns)) := by
  refine s_defC (binds := [("bits", .ref D), ("msb", .int msb t1), ("lsb", .int lsb t2), ("indexes", .ref X)]) (by k_is) (by k_is) (fun _ => BindsTo.of_eq rfl) ?_ ?_ ?_
  · intro n x hx
    simp only [List.mem_cons, List.not_mem_nil, or_false] at hx
    rcases hx with rfl | rfl | rfl | rfl <;> first | exact .inl (by kernel_rfl!) | exact .inr ⟨by kernel_rfl!, by kernel_rfl!⟩
  · decide
  intro A L h tk cells hh hd hu G F N Y
  have Y' : CellsAre _ [("lsb", L + 1 + 1 + 1), ("msb", L + 1 + 1), ("bits", L + 1)] cells := Y
  obtain ⟨o1, o2, o3, rfl, d1, d2, d3⟩ := Y'.three
  replace d1 : o1.data = .cell (some (.int lsb t2)) := d1
  replace d2 : o2.data = .cell (some (.int msb t1)) := d2
  replace d3 : o3.data = .cell (some (.ref D)) := d3
  change wpAny _ _ (execs _ (EV _ _ L _ _ _ [("lsb", L + 1 + 1 + 1), ("msb", L + 1 + 1), ("bits", L + 1)])) _ _ _
  have F0 : Fm s.heap L h [("indexes", .ref X)] [(L + 1 + 1 + 1, o1), (L + 1 + 1, o2), (L + 1, o3)] := .ofCells _ F N (fun p hp => by rw [List.mem_singleton.mp hp]; kernel_rfl!) (nd3 L)
  generalize L + 1 + 1 + 1 = c1 at F0
  generalize L + 1 + 1 = c2 at F0
  generalize L + 1 = c3 at F0
  clear Y Y' N F
  refine s_ifj (fun s' => ∃ h' tk' l' b' Y ys, s' = At s h' tk' ∧ Fm s.heap L h' (("indexes", .ref Y) :: l') ((c1, o1) :: (c2, o2) :: (c3, o3) :: b') ∧ (∀ C h nm b, Fm s.heap C h nm b → (∀ p ∈ ((c1, o1) :: (c2, o2) :: (c3, o3) :: b'), p ∈ b) → h.IsList Y ys.toArray) ∧ IntsAre ys (if msb < lsb then ns.reverse else ns)) ?_ ?_
  · kpt_turns
    refine i_dec (fun q => ?_) (fun q => ?_)
    · have hz := hu'.length
      have hX0 := hX.at fun o e => F0.keep X o e
      kpt_turns
      rename_i F1
      have hX1 := hX.at fun o e => F1.keep X o e
      refine st_back2 F1 (by ktu_off1L) hX1 (by rw [sizeLine_eq]; omega) (by with_unfolding_all rfl) ?_
      intro a h4 ha F4
      kpt_turns
      rename_i F5
      refine ⟨rfl, _, _, _, [(a, LO us.reverse 0)], a, us.reverse, rfl, F5.subb _ (by tb_rel), fun C h nm b F hb => F.lst (hb _ (.tail _ (.tail _ (.tail _ (.head _))))), ?_⟩
      rw [if_pos q]
      exact PyProof.Rows.IntsAre.reverse hu'
    · refine ⟨_, _, [], [], X, us, rfl, F0, fun C h nm b F _ => hX.at fun o e => F.keep X o e, ?_⟩
      rw [if_neg q]; exact hu'
  · rintro _ ⟨h1, tk1, l1, b1, Y, ys, rfl, F1, hY, hys⟩
    have hpl : pickL l msb lsb ns = (if msb < lsb then ns.reverse else ns).map fun k => atD l msb lsb k := rfl
    have hnl : (if msb < lsb then ns.reverse else ns).length ≤ 100 := by split <;> simp [hn]
    rw [hpl]
    generalize (if msb < lsb then ns.reverse else ns) = ks at hys hnl
    have hyl := hys.length
    kpt_turns
    refine e_comp (by with_unfolding_all rfl) ?_
    kpt_turns
    refine c_list (fun i zs ext => ext = [] ∧ zs.length = i ∧ NA zs ((ks.take i).map fun k => atD l msb lsb k)) hh F1 hY (by omega) ⟨rfl, rfl, .nil⟩ (fun i ys ext x => x.2.1) ?_ ?_
    · rintro i v C h tk nm I oI p2 D2 zs k ext hi hvi ⟨rfl, hzl, hz⟩ F
      obtain ⟨kk, t, rfl, hkk⟩ := IntsAre.at hys i v hvi
      have hi' : i < ks.length := by omega
      rw [List.getElem?_eq_getElem hi'] at hkk
      have hkk := Option.some.inj hkk
      simp only [List.nil_append] at F
      refine wpAny_assign_Name ?_
      kpt_turns
      rename_i F2
      have hD3 := hD.at fun o e => F2.keep D o e
      with_reducible refine e_spec0 (at_spec D vs l msb lsb kk _ _ _ hD3 hv hl) (by assumption) (by assumption) (by assumption) (dlt (by assumption)) (ult (by assumption)) ?_
      rintro _ h3 tk3 F3 _ ⟨t3, rfl⟩
      refine CEl.mk [] F3 (by tb_rel) ⟨rfl, by simp [hzl], ?_⟩
      have e : (ks.take (i + 1)).map (fun k => atD l msb lsb k) = (ks.take i).map (fun k => atD l msb lsb k) ++ [atD l msb lsb kk] := by
        rw [← List.take_append_getElem hi', List.map_append, hkk]; rfl
      rw [e]
      exact hz.snoc _ _
    · rintro D2 C oC h tk k zs ext ⟨rfl, hzl, hz⟩ F z hn
      simp only [List.nil_append] at F
      refine cp_plain F z hn fun h2 F2 => ?_
      rw [hyl, List.take_length] at hz
      kpt_turns
      with_reducible refine e_spec0 (made_spec D2 zs _ (F2.lstP (by ktu_off1L)) hz (by rw [List.length_map]; omega) ?_) (by assumption) (by assumption) (by assumption) (dlt (by assumption)) (ult (by assumption)) ?_
      · intro c hcm
        obtain ⟨k, _, rfl⟩ := List.mem_map.mp hcm
        show atI l _ ≤ 3
        generalize (if lsb ≤ msb then k - lsb else lsb - k) = p
        unfold atI
        split
        · exact getD_le hc _
        · decide
      rintro _ h4 tk4 F4 _ P
      exact Fin.ret F4 P
end

end
section
/-- a dict of names, said by names and values -/
inductive Rep : List DictEntry → List (Str × Value) → Prop
  | nil : Rep [] []
  | cons {hs x t v r r'} : Rep r r' → Rep (⟨hs, .str x t, v⟩ :: r) ((x, v) :: r')
def putA (x : Str) (v : Value) : List (Str × Value) → List (Str × Value)
  | [] => [(x, v)]
  | (y, u) :: r => if y == x then (y, v) :: r else (y, u) :: putA x v r
theorem putA_length (x : Str) (v : Value) : ∀ al : List (Str × Value), (putA x v al).length ≤ al.length + 1
  | [] => Nat.le_refl _
  | (y, u) :: r => by
    rw [putA]
    split
    · simp
    · have := putA_length x v r
      simp only [List.length_cons]; omega
def getA (x : Str) : List (Str × Value) → Option Value
  | [] => none
  | (y, u) :: r => if y == x then some u else getA x r
theorem Rep.noRef {es : List DictEntry} {al : List (Str × Value)} (R : Rep es al) : es.any (·.refKey) = false := by
  induction R with
  | nil => rfl
  | cons _ ih => rw [List.any_cons, ih]; rfl
theorem Rep.get {es : List DictEntry} {al : List (Str × Value)} (R : Rep es al) (x : Str) : getL x es = some (getA x al) := by
  have h : (es.find? (·.key.isStr x)).map (·.val) = getA x al := by
    induction R with
    | nil => rfl
    | @cons hs y t v r r' _ ih =>
      rw [List.find?_cons, getA]
      show Option.map _ (match (y == x) with | true => _ | false => _) = _
      cases h : y == x with
      | true => simp
      | false => simpa using ih
  unfold getL
  rw [← h, R.noRef]
  cases es.find? (·.key.isStr x) <;> rfl
theorem Rep.put {es : List DictEntry} {al : List (Str × Value)} (R : Rep es al) (x : Str) (hs : Int) (t : Tok) (v : Value) : Rep (putL x hs (.str x t) v es) (putA x v al) := by
  induction R with
  | nil => exact .cons .nil
  | @cons hs' y t' u r r' R ih =>
    rw [putL, putA]
    show Rep (if (y == x) = true then _ else _) _
    cases h : y == x with
    | true => exact .cons R
    | false => exact .cons ih
theorem Rep.length {es : List DictEntry} {al : List (Str × Value)} (R : Rep es al) : es.length = al.length := by
  induction R with
  | nil => rfl
  | cons _ ih => rw [List.length_cons, List.length_cons, ih]
/-- an object of a class, and its names -/
def Ob (h : Heap) (x C : Addr) (al : List (Str × Value)) : Prop := ∃ dx es n, h.get? x = some (instObj C dx) ∧ h.get? dx = some (dictOf es n) ∧ Rep es al
theorem Ob.keeps {h h' : Heap} {x C : Addr} {al : List (Str × Value)} (o : Ob h x C al) (k : h.StaysIn h') : Ob h' x C al := let ⟨dx, es, n, a, b, c⟩ := o; ⟨dx, es, n, k _ _ a, k _ _ b, c⟩
theorem InstAt.mkO {h : Heap} {x C dx : Addr} {es : List DictEntry} {n : Nat} (a : h.get? x = some (instObj C dx)) (b : h.get? dx = some (dictOf es n)) : InstAt h x (instObj C dx) C (some (dictOf es n)) := ⟨a, rfl, rfl, b⟩

section
variable {M : Model} {prog : Program} {w : World} {A : Around} {E : Value → Shared → Prop} {s : Shared} {h h' g : Heap} {tk : Nat} {L : Addr} {fn fr : Option Addr} {l : List (Str × Value)} {bag bag' : List (Addr × Obj)} {name : Str} {scope : Scope} {cd : Value} {cl : List (Str × Addr)} {env : Env}

-- attributes
theorem e_attr {value : Expr} {attr : Str} {pos : Pos} {Q : Value → Shared → Prop} {s : Shared} (q : wpAny (model prog w) A (eval value env) (fun o s₁ => wpAny (model prog w) A (getAttr o attr true) Q E s₁) E s)
    (he : eval (.Attribute value attr pos) env = (do
      let o ← eval value env
      standAt pos.atName
      let r ← holding [o] (getAttr o attr true)
      letTemporaryGo value o r
      pure r) := by kernel_rfl!) : wpAny (model prog w) A (eval (.Attribute value attr pos) env) Q E s := by
  rw [he]
  refine wpAny_bind (wpAny_mono q (fun o s₁ h₁ => wpAny_bind (wpAny_standAt (wpAny_bind (wpAny_holding (wpAny_mono h₁ (fun r s₂ h₂ => ?_) fun _ _ y => y))))) fun _ _ y => y)
  exact wpAny_bind (wpAny_letTemporaryGo (wpAny_pure h₂))
theorem g_attr {x C : Addr} {al : List (Str × Value)} {nm : Str} {v : Value} {attr : Option Value} {expr : Bool} {Q : Value → Shared → Prop} (G : Gd w g) (F : Fm g L h l bag) (I : Ob h x C al) (hv : getA nm al = some v) (hh : handedIn v = true)
    (hg : plainGet (Mine.hd.heap_39 w.params) C nm = true) (hd : hasDictIn (Mine.hd.heap_39 w.params) C = true) (ha : findIn (Mine.hd.heap_39 w.params) (.ref C) nm = some attr) (hn : noGet (Mine.hd.heap_39 w.params) attr = true)
    (q : ∀ tk', Q v (At s h tk')) : wpAny (model prog w) A (getAttr (.ref x) nm expr) Q E (At s h tk) := by
  obtain ⟨dx, es, n, a, b, R⟩ := I
  obtain ⟨m, F', _⟩ := F.fr
  exact get_own (s := At s h tk) F' G.K (InstAt.mkO a b) hg hd ha hn (by rw [R.get, hv]) hh (q _)
theorem g_meth {x C f : Addr} {al : List (Str × Value)} {nm : Str} {pl : Sem Bool} {pos : Pos} {args : List Expr} {Q : Value → Shared → Prop} (G : Gd w g) (F : Fm g L h l bag) (I : Ob h x C al) (hv : getA nm al = none)
    (hg : plainGet (Mine.hd.heap_39 w.params) C nm = true) (hf : findIn (Mine.hd.heap_39 w.params) (.ref C) nm = some (some (.ref f))) (ht : isFn (Mine.hd.heap_39 w.params) (.ref f) = true)
    (q : wpAny (model prog w) A (callWith pos (.ref f) [.ref x] (backTo pos (starEach args env)) []) Q E (At s h tk)) :
    wpAny (model prog w) A (getMethod (.ref x) nm pl) (fun fx s₂ => wpAny (model prog w) A (callWith pos fx.1 fx.2 (backTo pos (starEach args env)) []) Q E s₂) E (At s h tk) := by
  obtain ⟨dx, es, n, a, b, R⟩ := I
  obtain ⟨m, F', _⟩ := F.fr
  exact method_inst (s := At s h tk) F' G.K (InstAt.mkO a b) hg hf ht (by rw [R.get, hv]) q
theorem cw_f {f : Addr} {first : List Value} {pos : Pos} {e : Expr} {rest : List Expr} {Q : Value → Shared → Prop} (G : Gd w g) (hk : keepIn (Mine.hd.heap_39 w.params) (.ref f) = true)
    (q : wpAny M A (spliced (backTo pos (starEach (e :: rest) env))) (fun vs s₁ => g.StaysIn s₁.heap ∧ wpAny M A (call (.ref f) (first ++ vs)) Q E s₁) E s)
    (he : starEach (e :: rest) env = (false, eval e env) :: starEach rest env := by kernel_rfl!) (hplain : (backTo pos (starEach rest env)).any (·.1) = false := by kernel_rfl!) :
    wpAny M A (callWith pos (.ref f) first (backTo pos (starEach (e :: rest) env)) []) Q E s :=
  callWith_K G.K hk (wpAny_mono q (fun vs s₁ q => ⟨G.K.keeps q.1, q.2⟩) fun _ _ x => x) he hplain
theorem cw_f0 {f : Addr} {first : List Value} {pos : Pos} {Q : Value → Shared → Prop} (G : Gd w g) (F : Fm g L h l bag) (hk : keepIn (Mine.hd.heap_39 w.params) (.ref f) = true)
    (q : wpAny M A (call (.ref f) (first ++ [])) Q E (At s h tk)) : wpAny M A (callWith pos (.ref f) first (backTo pos (starEach [] env)) []) Q E (At s h tk) := callWith_K0 (s := At s h tk) (G.K.keeps F.keep) hk q
/-- a call with no arguments -/
theorem e_call0 {x : Str} {pos pos' : Pos} {f : Addr} {Q : Value → Shared → Prop} (hx : scope.names.lookup x = some .globalImplicit) (G : Gd w g) (F : Fm g L h l bag) (hv : nsIn (Mine.hd.heap_39 w.params) mainGlobals x = some (some (.ref f)))
    (hkp : keepIn (Mine.hd.heap_39 w.params) (.ref f) = true) (q : wpAny (model prog w) A (call (.ref f) []) Q E (At s h tk))
    (hk : scope.kind = .function := by kernel_rfl!) (hd : (x == ("__debug__" : Str)) = false := by kernel_rfl!)
    (hev : eval (.Call (.Name x pos') [] [] pos) (EV name scope L fn fr cd cl) = (do callWith pos (← eval (.Name x pos') (EV name scope L fn fr cd cl)) [] (backTo pos (starEach [] (EV name scope L fn fr cd cl))) (backToKw pos (keywordEach [] (EV name scope L fn fr cd cl)))) := by kernel_rfl!) :
    wpAny (model prog w) A (eval (.Call (.Name x pos') [] [] pos) (EV name scope L fn fr cd cl)) Q E (At s h tk) :=
  Call_ (e_glob hx G F hv (cw_f0 G F hkp q) hk hd) hev
theorem s_seta {o value : Expr} {attr : Str} {pos' pos : Pos} {rest : List Stmt} {Q : Flow → Shared → Prop} {s : Shared}
    (q : wpAny M A (eval value env) (fun v s₁ => wpAny M A (eval o env) (fun ov s₂ => wpAny M A (setAttr ov attr v) (fun _ s₃ => wpAny M A (execs rest env) Q E s₃) E s₂) E s₁) E s)
    (hs : swapsWith value (some (.Attribute o attr pos')) pos.line env = pure false := by kernel_rfl!) : wpAny M A (execs (.Assign [.Attribute o attr pos'] value pos :: rest) env) Q E s :=
  wpAny_execs_cons (plainObj_wpAny_Assign_Attribute q hs)
theorem s_seti {o i value : Expr} {pos' pos : Pos} {rest : List Stmt} {Q : Flow → Shared → Prop} {s : Shared}
    (q : wpAny M A (eval value env) (fun v s₁ => wpAny M A (eval o env) (fun ov s₂ => wpAny M A (eval i env) (fun iv s₃ => wpAny M A (setItem ov iv v) (fun _ s₄ => wpAny M A (execs rest env) Q E s₄) E s₃) E s₂) E s₁) E s)
    (hs : swapsWith value (some (.Subscript o i pos')) pos.line env = pure false := by kernel_rfl!) : wpAny M A (execs (.Assign [.Subscript o i pos'] value pos :: rest) env) Q E s :=
  wpAny_execs_cons (wpAny_Assign_Subscript q hs)

/-- the objects of a heap but two -/
def restOf (h : Heap) (a b : Addr) : List (Addr × Obj) := (List.range h.objs.size).filterMap fun c => if c = a ∨ c = b then none else (h.get? c).map fun o => (c, o)
theorem restOf_mem {h : Heap} {a b : Addr} {p : Addr × Obj} : p ∈ restOf h a b ↔ p.1 ≠ a ∧ p.1 ≠ b ∧ h.get? p.1 = some p.2 := by
  unfold restOf
  rw [List.mem_filterMap]
  constructor
  · rintro ⟨c, _, e⟩
    split at e
    · cases e
    · rename_i n
      obtain ⟨o, ho, rfl⟩ := Option.map_eq_some_iff.mp e
      exact ⟨fun q => n (.inl q), fun q => n (.inr q), ho⟩
  · rintro ⟨n1, n2, e⟩
    refine ⟨p.1, List.mem_range.mpr (Heap.lt_size e), ?_⟩
    rw [if_neg (by rintro (q | q); exact n1 q; exact n2 q), e]; rfl
theorem g_set {x C dx : Addr} {es : List DictEntry} {n : Nat} {al : List (Str × Value)} {nm : Str} {v : Value} {Q : Unit → Shared → Prop} (G : Gd w g) (F : Fm g L h l bag) (P : Pick (dx, dictOf es n) bag bag') (hx : h.get? x = some (instObj C dx)) (R : Rep es al) (hz : al.length ≤ 900)
    (hs : findIn (Mine.hd.heap_39 w.params) (.ref C) "__setattr__" = some (some (.builtin "object.__setattr__"))) (hp : plainOver (Mine.hd.heap_39 w.params) C = true) (ht : takerIn (Mine.hd.heap_39 w.params) C nm = some none) (hh : hasDictIn (Mine.hd.heap_39 w.params) C = true)
    (q : ∀ h' tk' es' n', Fm g L h' l ((dx, dictOf es' n') :: bag') → Rep es' (putA nm v al) → Q () (At s h' tk')) :
    wpAny (model prog w) A (setAttr (.ref x) nm v) Q E (At s h tk) := by
  have hd := F.hasP P
  have X : (Mine.hd.heap_39 w.params).In h := G.K.keeps F.keep
  obtain ⟨m, F', e⟩ := F.fr
  have hdL := (F.bg _ P.out.1).2 rfl
  refine set_plain (s := At s h tk) X (InstAt.mkO hx hd) hs (osa_dict (h₀ := ⟨#[], {}⟩) (L := L) (m := m) (pre := []) (post := restOf h dx L) (od := dictOf es n) (od' := dictOf (putL nm (PyData.keyHash w.params nm) (.str nm (tk + 1)) v es) (putN nm es n)) (dx := dx) (es := putL nm (PyData.keyHash w.params nm) (.str nm (tk + 1)) v es) (n := putN nm es n)
    (s := { At s h tk with toks := tk + 1 }) ⟨F'.ns, fun b o e => by simp [Heap.get?] at e, Nat.zero_le _⟩ ?_ X (InstAt.mkO hx hd) rfl hp ht hh (by show (getL nm es).isSome = true; rw [R.get]; rfl) (fun _ h => nomatch h) (fun p hp => (restOf_mem.mp hp).1) ?_ rfl ?_ fun h' F2 N2 => ?_)
  · intro p hp
    rcases List.mem_cons.mp hp with rfl | hp
    · exact ⟨hd, hdL.1, by simp [Heap.get?]⟩
    · obtain ⟨_, n2, e2⟩ := restOf_mem.mp hp
      exact ⟨e2, n2, by simp [Heap.get?]⟩
  · rw [putName_dict]
  · have := (R.put nm (PyData.keyHash w.params nm) (tk + 1) v).length
    have h2 := putA_length nm v al
    omega
  · have kb : ∀ b o, h.get? b = some o → b ∉ [dx, L] → h'.get? b = some o := fun b o e hn => by
      refine (N2 (b, o) (.tail _ (restOf_mem.mpr ⟨fun q => hn (List.mem_cons.mpr (.inl q)), fun q => hn (List.mem_cons.mpr (.inr (List.mem_singleton.mpr q))), e⟩))).1
    obtain ⟨p1, p2, p3⟩ := P.out
    have offL : ∀ p ∈ bag', p.1 ≠ L := fun p hp w => by
      cases hT : isT p.2 with
      | false => exact ((F.bg p (p2 p hp)).2 hT).1 w
      | true =>
        obtain ⟨o, es, ep, ho, hd, _⟩ := F'.ns
        have := (F.bg p (p2 p hp)).1
        rw [w, ho] at this
        rw [← Option.some.inj this] at hT
        unfold isT at hT
        rw [hd] at hT; cases hT
    have offD : ∀ p ∈ bag', p.1 ≠ dx := fun p hp q => by
      cases hT : isT p.2 with
      | false => exact (p3 F.nd).1 rfl p hp hT q
      | true =>
        have := (F.bg p (p2 p hp)).1
        rw [q, hd] at this
        rw [← Option.some.inj this] at hT; cases hT
    have keep : ∀ b o, g.get? b = some o → h'.get? b = some o := fun b o e => kb b o (F'.keep b o e) fun hm => by
      rcases List.mem_cons.mp hm with rfl | hm
      · rw [hdL.2] at e; cases e
      · rw [List.mem_singleton.mp hm, F.old] at e; cases e
    have FF : Fm g L h' l ((dx, dictOf (putL nm (PyData.keyHash w.params nm) (.str nm (tk + 1)) v es) (putN nm es n)) :: bag') := by
      refine ⟨⟨m, ⟨F2.ns, keep, F.lt⟩, e⟩, fun p hp => ?_, muts_cons.mpr ⟨(p3 F.nd).2, fun _ p hp _ => offD p hp⟩⟩
      rcases List.mem_cons.mp hp with rfl | hp
      · exact ⟨(N2 _ (.head _)).1, fun _ => hdL⟩
      · refine ⟨kb _ _ (F.bg p (p2 p hp)).1 fun hm => ?_, (F.bg p (p2 p hp)).2⟩
        rcases List.mem_cons.mp hm with e | hm
        · exact offD p hp e
        · exact offL p hp (List.mem_singleton.mp hm)
    exact q h' (tk + 1 + 1) _ _ FF (R.put nm _ _ v)
end

end
section
/-- the object is a dict of these ints and values -/
abbrev ID (prog : Program) (w : World) (o : Obj) (kvs : List (Int × Value)) : Prop := Obj.IsDictOf (PySem.intKind prog w) o kvs
abbrev SD (prog : Program) (w : World) (o : Obj) (kvs : List (Str × Value)) : Prop := Obj.IsDictOf (PySem.strKind prog w) o kvs
theorem isT_dict {prog : Program} {w : World} {K : Type} [DecidableEq K] {knd : KeyKind prog w K} {o : Obj} {kvs : List (K × Value)} (x : o.IsDictOf knd kvs) : isT o = false := by
  obtain ⟨es, ep, _, hd, _⟩ := x; unfold isT; rw [hd]
theorem dict_new {prog : Program} {w : World} {K : Type} [DecidableEq K] {knd : KeyKind prog w K} : Obj.IsDictOf knd emptyDict [] := ⟨#[], 0, ⟨rfl, rfl, rfl⟩, rfl, fun _ he => by simp at he, Pairs.nil, List.nodup_nil⟩
section
variable {M : Model} {prog : Program} {w : World} {A : Around} {E : Value → Shared → Prop} {s : Shared} {h h' g : Heap} {tk : Nat} {L : Addr} {fn fr : Option Addr} {l : List (Str × Value)} {bag bag' : List (Addr × Obj)} {name : Str} {scope : Scope} {cd : Value} {cl : List (Str × Addr)} {env : Env}
theorem Fm.notMod (F : Fm g L h l bag) (G : Gd w g) {a : Addr} (e : h.objs.size ≤ a) : (a == sysModules) = false := by
  obtain ⟨p, loose, mg, mb, T⟩ := G.T
  have h1 := modules_low T.nolimit
  obtain ⟨o, ho⟩ := F.here
  have h2 := Nat.lt_of_lt_of_le (Nat.lt_of_lt_of_le h1 F.lt) (Nat.le_of_lt (Heap.lt_size ho))
  exact beq_eq_false_iff_ne.mpr (Nat.ne_of_gt (Nat.lt_of_lt_of_le h2 e))
theorem e_dict0 {pos : Pos} {Q : Value → Shared → Prop} (G : Gd w g) (F : Fm g L h l bag) (q : ∀ r h', (r == sysModules) = false → h.get? r = none → Fm g L h' l ((r, emptyDict) :: bag) → Q (.ref r) (At s h' tk)) : wpAny M A (eval (.Dict [] [] pos) env) Q E (At s h tk) :=
  wpAny_Dict_empty (q h.objs.size _ (F.notMod G (Nat.le_refl _)) (Heap.get?_none_of_le (Nat.le_refl _)) (F.push _))
theorem d_set {d : Addr} {o : Obj} {kvs : List (Int × Value)} {k : Int} {t : Tok} {v : Value} {Q : Unit → Shared → Prop} (F : Fm g L h l bag) (P : Pick (d, o) bag bag') (hd : ID prog w o kvs) (hz : kvs.length ≤ 1000)
    (q : ∀ h' tk' o', Fm g L h' l ((d, o') :: bag') → ID prog w o' (stored kvs k v) → Q () (At s h' tk')) : wpAny (model prog w) A (setItem (.ref d) (.int k t) v) Q E (At s h tk) := by
  refine wpAny_setItem_pairs (s := At s h tk) (knd := PySem.intKind prog w) (k := k) (by simp [PySem.intKind, Value.isInt]) (Heap.dictOf_iff.mpr ⟨o, F.hasP P, hd⟩) (fun h' hm hs => ?_) (by rw [sizeLine_eq]; omega)
  obtain ⟨o', ho', hd'⟩ := Heap.dictOf_iff.mp hm
  exact q h' (tk + 1) o' (F.set P (.same hs) ho' (isT_dict hd)) hd'
theorem d_setS {d : Addr} {o : Obj} {kvs : List (Str × Value)} {k : Str} {t : Tok} {v : Value} {Q : Unit → Shared → Prop} (F : Fm g L h l bag) (P : Pick (d, o) bag bag') (hd : SD prog w o kvs) (hz : kvs.length ≤ 1000)
    (q : ∀ h' tk' o', Fm g L h' l ((d, o') :: bag') → SD prog w o' (stored kvs k v) → Q () (At s h' tk')) : wpAny (model prog w) A (setItem (.ref d) (.str k t) v) Q E (At s h tk) := by
  refine wpAny_setItem_pairs (s := At s h tk) (knd := PySem.strKind prog w) (k := k) (by simp [PySem.strKind, Value.isStrOf]) (Heap.dictOf_iff.mpr ⟨o, F.hasP P, hd⟩) (fun h' hm hs => ?_) (by rw [sizeLine_eq]; omega)
  obtain ⟨o', ho', hd'⟩ := Heap.dictOf_iff.mp hm
  exact q h' (tk + 1) o' (F.set P (.same hs) ho' (isT_dict hd)) hd'
theorem gm_dget {d : Addr} {o : Obj} {kvs : List (Int × Value)} {pl : Sem Bool} {pos : Pos} {args : List Expr} {Q : Value → Shared → Prop} (ho : h.get? d = some o) (hd : ID prog w o kvs)
    (q : wpAny (model prog w) A (callWith pos (.builtin "dict.get") [.ref d] (backTo pos (starEach args env)) []) Q E (At s h tk)) :
    wpAny (model prog w) A (getMethod (.ref d) (Str.ofString "get") pl) (fun fx s₂ => wpAny (model prog w) A (callWith pos fx.1 fx.2 (backTo pos (starEach args env)) []) Q E s₂) E (At s h tk) := by
  have hm := (Heap.dictOf_iff (h := (At s h tk).heap).mpr ⟨o, ho, hd⟩).mapOf
  exact getMethod_builtin hm.typeIs PySem.F.plainAttrs_dict PySem.F.slot_dict_get PySem.F.type_dict_get hm.noDict q
theorem m_dget1 {d : Addr} {o : Obj} {kvs : List (Int × Value)} {k : Int} {t : Tok} {Q : Value → Shared → Prop} (hs : (d == sysModules) = false) (ho : h.get? d = some o) (hd : ID prog w o kvs) (q : ∀ tk', Q ((valueAt kvs k).getD .none) (At s h tk')) :
    wpAny (model prog w) A (call (.builtin "dict.get") ([.ref d] ++ [.int k t])) Q E (At s h tk) := by
  have hm := (Heap.dictOf_iff (h := (At s h tk).heap).mpr ⟨o, ho, hd⟩).mapOf
  exact call_meetsIn PySem.F.slot_dict_get hm.typeIs PySem.F.entry_dict_get (PySem.F.args_dict_get_2 _ _) (meets_dict_get (PySem.intKind prog w) (k := k) d (by simp [PySem.intKind, Value.isInt]) hs) ⟨_, hm, q _⟩
theorem m_dget2 {d : Addr} {o : Obj} {kvs : List (Int × Value)} {k : Int} {t : Tok} {v : Value} {Q : Value → Shared → Prop} (hs : (d == sysModules) = false) (ho : h.get? d = some o) (hd : ID prog w o kvs) (q : ∀ tk', Q ((valueAt kvs k).getD v) (At s h tk')) :
    wpAny (model prog w) A (call (.builtin "dict.get") ([.ref d] ++ [.int k t, v])) Q E (At s h tk) := by
  have hm := (Heap.dictOf_iff (h := (At s h tk).heap).mpr ⟨o, ho, hd⟩).mapOf
  exact call_meetsIn PySem.F.slot_dict_get hm.typeIs PySem.F.entry_dict_get (PySem.F.args_dict_get_3 _ _ _) (meets_dict_get_default (PySem.intKind prog w) (k := k) d (by simp [PySem.intKind, Value.isInt]) hs v) ⟨_, hm, q _⟩
theorem d_notin {d : Addr} {o : Obj} {kvs : List (Int × Value)} {k : Int} {t : Tok} {Q : Value → Shared → Prop} (hs : (d == sysModules) = false) (ho : h.get? d = some o) (hd : ID prog w o kvs) (q : ∀ tk', Q (.bool (!(valueAt kvs k).isSome)) (At s h tk')) :
    wpAny (model prog w) A (compareOp .NotIn (.int k t) (.ref d)) Q E (At s h tk) :=
  wpAny_notIn_of (s := At s h tk) (knd := PySem.intKind prog w) (k := k) (by simp [PySem.intKind, Value.isInt]) hs (Heap.dictOf_iff.mpr ⟨o, ho, hd⟩).mapOf (q _)
theorem d_item {value slice : Expr} {d : Addr} {o : Obj} {kvs : List (Int × Value)} {k : Int} {t : Tok} {v : Value} {Q : Value → Shared → Prop} (ho : h.get? d = some o) (hd : ID prog w o kvs) (hv : valueAt kvs k = some v) (q : ∀ tk', Q v (At s h tk'))
    (hs : subscripted slice false (.ref d) (.int k t) = operate [.ref d, .int k t] (getItem (.ref d) (.int k t)) := by kernel_rfl!) :
    wpAny (model prog w) A (subscriptTail value slice (.ref d) (.int k t)) Q E (At s h tk) := by
  have hm := (Heap.dictOf_iff (h := (At s h tk).heap).mpr ⟨o, ho, hd⟩).mapOf
  exact tail_any hm.typeIs slot_dict_getitem.lookup (wpAny_getItem_of (s := At s h tk) (knd := PySem.intKind prog w) (k := k) (by simp [PySem.intKind, Value.isInt]) hm hv (q _)) hs

/-- an own class called -/
theorem m_make {C fI : Addr} {args : List Value} {k : Nat} {Q : Value → Shared → Prop} (PP : Heap → Heap → List DictEntry → Prop) (G : Gd w g) (F : Fm g L h l bag) (hh : A.handled = none) (hd : A.depth + k + 4 < recursionLimit) (hu : A.units + 8 * k + 16 < cLine)
    (hm : makesIn (Mine.hd.heap_39 w.params) C = true) (hi : findIn (Mine.hd.heap_39 w.params) (.ref C) "__init__" = some (some (.ref fI))) (hf : typeIn (Mine.hd.heap_39 w.params) (.ref fI) = some (.type "function"))
    (sp : ∀ s' x dx, s'.heap.get? x = some (instObj C dx) → s'.heap.get? dx = some (dictOf [] 0) → x ≠ dx → h.StaysIn s'.heap → Spec prog w fI (.ref x :: args) k s' [dx] (fun r h'' => r = .none ∧ ∃ es n, h''.get? dx = some (dictOf es n) ∧ PP s'.heap h'' es))
    (q : ∀ x dx h1 h'' tk' es n, Fm g L h'' l ((dx, dictOf es n) :: (x, instObj C dx) :: bag) → PP h1 h'' es → h.StaysIn h1 → (∀ p ∈ ((dx, dictOf es n) :: (x, instObj C dx) :: bag), ∃ o, h1.get? p.1 = some o) → h.get? x = none → h.get? dx = none → Q (.ref x) (At s h'' tk')) : wpAny (model prog w) A (call (.ref C) args) Q E (At s h tk) := by
  have X : (Mine.hd.heap_39 w.params).In h := G.K.keeps F.keep
  have F2 : Fm g L ((h.push emptyDict).push (instObj C h.objs.size)) l ((h.objs.size + 1, instObj C h.objs.size) :: (h.objs.size, emptyDict) :: bag) := by
    have := (F.push emptyDict).push (instObj C h.objs.size)
    rwa [Heap.size_push] at this
  refine wpAny_call ?_
  obtain ⟨s1, s2, s3, s4, s5⟩ := s
  refine make_core (makes_of X hm) (looks_findIn X hi) (fun self => bind_fn X self hf) (.inl rfl) ?_
  have keep : h.StaysIn ((h.push emptyDict).push (instObj C h.objs.size)) := fun b o e => Heap.get?_push_of_some _ (Heap.get?_push_of_some _ e)
  have fresh : h.get? (h.objs.size + 1) = none := Heap.get?_none_of_le (Nat.le_succ _)
  refine sp ⟨(h.push emptyDict).push (instObj C h.objs.size), s2, s3, tk, s5⟩ (h.objs.size + 1) h.objs.size (F2.hasP .here) (F2.hasP (.there .here)) (Nat.ne_of_gt (Nat.lt_succ_self _)) keep _ g _ hh ?_ ?_ G (fun b o e => keep b o (F.keep b o e))
    (fun a ha => by rw [List.mem_singleton.mp ha]; exact F.fresh (Heap.get?_none_of_le (Nat.le_refl _))) ?_
  · show A.depth + _ + k < recursionLimit
    have : (Code.builtin "type.__call__" ⟨.ref C :: args, []⟩).weight ≤ 4 := Nat.le_of_ble_eq_true (by kernel_rfl!)
    omega
  · show A.units + _ + 8 * k < cLine
    have : (Code.builtin "type.__call__" ⟨.ref C :: args, []⟩).cUnits ≤ 16 := Nat.le_of_ble_eq_true (by kernel_rfl!)
    omega
  · rintro r h' tk' kb ⟨rfl, es, n, e, R⟩
    refine ⟨rfl, q _ _ _ h' tk' es n (F2.set (.there .here) kb e rfl) R keep (fun p hp => ?_) fresh (Heap.get?_none_of_le (Nat.le_refl _))⟩
    rcases List.mem_cons.mp hp with rfl | hp
    · exact ⟨_, F2.hasP (.there .here)⟩
    rcases List.mem_cons.mp hp with rfl | hp
    · exact ⟨_, F2.hasP .here⟩
    · exact ⟨_, F2.has (.tail _ (.tail _ hp))⟩
end
theorem ga_here {x : Str} {u : Value} {r : List (Str × Value)} : getA x ((x, u) :: r) = some u := by simp [getA]
theorem ga_there {x y : Str} {u v : Value} {r : List (Str × Value)} (hn : (y == x) = false) (q : getA x r = some v) : getA x ((y, u) :: r) = some v := by rw [getA, hn]; exact q
section
variable {M : Model} {prog : Program} {w : World} {A : Around} {E : Value → Shared → Prop} {s : Shared} {h h' g : Heap} {tk : Nat} {L : Addr} {l : List (Str × Value)} {bag bag' : List (Addr × Obj)} {env : Env}
theorem g_attrG {x C : Addr} {al : List (Str × Value)} {nm : Str} {v : Value} {attr : Option Value} {expr : Bool} {Q : Value → Shared → Prop} (G : Gd w g) (F : Fm g L h l bag) (I : Ob g x C al) (hv : getA nm al = some v) (hh : handedIn v = true)
    (hg : plainGet (Mine.hd.heap_39 w.params) C nm = true) (hd : hasDictIn (Mine.hd.heap_39 w.params) C = true) (ha : findIn (Mine.hd.heap_39 w.params) (.ref C) nm = some attr) (hn : noGet (Mine.hd.heap_39 w.params) attr = true)
    (q : ∀ tk', Q v (At s h tk')) : wpAny (model prog w) A (getAttr (.ref x) nm expr) Q E (At s h tk) := g_attr G F (I.keeps F.keep) hv hh hg hd ha hn q
theorem g_methG {x C f : Addr} {al : List (Str × Value)} {nm : Str} {pl : Sem Bool} {pos : Pos} {args : List Expr} {Q : Value → Shared → Prop} (G : Gd w g) (F : Fm g L h l bag) (I : Ob g x C al) (hv : getA nm al = none)
    (hg : plainGet (Mine.hd.heap_39 w.params) C nm = true) (hf : findIn (Mine.hd.heap_39 w.params) (.ref C) nm = some (some (.ref f))) (ht : isFn (Mine.hd.heap_39 w.params) (.ref f) = true)
    (q : wpAny (model prog w) A (callWith pos (.ref f) [.ref x] (backTo pos (starEach args env)) []) Q E (At s h tk)) :
    wpAny (model prog w) A (getMethod (.ref x) nm pl) (fun fx s₂ => wpAny (model prog w) A (callWith pos fx.1 fx.2 (backTo pos (starEach args env)) []) Q E s₂) E (At s h tk) := g_meth G F (I.keeps F.keep) hv hg hf ht q
theorem g_setG {x C dx : Addr} {es : List DictEntry} {n : Nat} {al : List (Str × Value)} {nm : Str} {v : Value} {Q : Unit → Shared → Prop} (G : Gd w g) (F : Fm g L h l bag) (hx : g.get? x = some (instObj C dx)) (P : Pick (dx, dictOf es n) bag bag') (R : Rep es al) (hz : al.length ≤ 900)
    (hs : findIn (Mine.hd.heap_39 w.params) (.ref C) "__setattr__" = some (some (.builtin "object.__setattr__"))) (hp : plainOver (Mine.hd.heap_39 w.params) C = true) (ht : takerIn (Mine.hd.heap_39 w.params) C nm = some none) (hh : hasDictIn (Mine.hd.heap_39 w.params) C = true)
    (q : ∀ h' tk' es' n', Fm g L h' l ((dx, dictOf es' n') :: bag') → Rep es' (putA nm v al) → Q () (At s h' tk')) :
    wpAny (model prog w) A (setAttr (.ref x) nm v) Q E (At s h tk) := g_set G F P (F.keep _ _ hx) R hz hs hp ht hh q
end

theorem Fm.neP {g h : Heap} {L : Addr} {l : List (Str × Value)} {bag b1 b2 : List (Addr × Obj)} {a b : Addr} {oa ob : Obj} (F : Fm g L h l bag) (P1 : Pick (a, oa) bag b1) (P2 : Pick (b, ob) b1 b2) (za : isT oa = false := by rfl) (zb : isT ob = false := by rfl) : a ≠ b :=
  fun e => (P1.out.2.2 F.nd).1 za _ P2.out.1 zb e.symm
theorem Fm.newP {s₀ g h : Heap} {L : Addr} {l : List (Str × Value)} {bag b1 b2 : List (Addr × Obj)} {d a : Addr} {od oa : Obj} (F : Fm g L h l bag) (kb : KeepsBut s₀ g [d]) (P1 : Pick (d, od) bag b1) (P2 : Pick (a, oa) b1 b2) (zd : isT od = false := by rfl) (za : isT oa = false := by rfl) : s₀.get? a = none :=
  kb.none ((F.bg _ (P1.out.2.1 _ P2.out.1)).2 za).2 fun q => F.neP P1 P2 zd za (List.mem_singleton.mp q).symm

section
variable {M : Model} {A : Around} {E : Value → Shared → Prop} {s : Shared} {h : Heap} {tk : Nat} {v : Value} {Q : Value → Shared → Prop}
theorem c_isF (hv : (v == Value.none) = false) (q : Q (.bool false) (At s h tk)) : wpAny M A (compareOp .Is v .none) Q E (At s h tk) := c_isnone (hv ▸ q)
theorem c_isT (hv : (v == Value.none) = true) (q : Q (.bool true) (At s h tk)) : wpAny M A (compareOp .Is v .none) Q E (At s h tk) := c_isnone (hv ▸ q)
theorem c_notF (hv : (v == Value.none) = false) (q : Q (.bool true) (At s h tk)) : wpAny M A (compareOp .IsNot v .none) Q E (At s h tk) := c_isnotnone (by rw [hv]; exact q)
theorem c_notT (hv : (v == Value.none) = true) (q : Q (.bool false) (At s h tk)) : wpAny M A (compareOp .IsNot v .none) Q E (At s h tk) := c_isnotnone (by rw [hv]; exact q)
end

end
local macro_rules | `(tactic| lcg_off) => `(tactic| first | exact ga_here | ((with_reducible apply ga_there); (· kernel_rfl!); (· lcg_off)))
local macro_rules | `(tactic| cell_call) => `(tactic| first
  | ((with_reducible show wpAny _ _ (compareOp .Is _ _) _ _ _); first | with_reducible refine c_isF (by kernel_rfl!) ?_ | with_reducible refine c_isT (by kernel_rfl!) ?_)
  | ((with_reducible show wpAny _ _ (compareOp .IsNot _ _) _ _ _); first | with_reducible refine c_notF (by kernel_rfl!) ?_ | with_reducible refine c_notT (by kernel_rfl!) ?_)
  | ((with_reducible show wpAny _ _ (eval (.Attribute _ _ _) _) _ _ _); with_reducible refine e_attr ?_)
  | ((with_reducible show wpAny _ _ (execs (.Assign [.Attribute _ _ _] _ _ :: _) _) _ _ _); with_reducible refine s_seta ?_)
  | ((with_reducible show wpAny _ _ (execs (.Assign [.Subscript _ _ _] _ _ :: _) _) _ _ _); with_reducible refine s_seti ?_)
  | ((with_reducible show wpAny _ _ (eval (.Dict [] [] _) _) _ _ _); with_reducible refine e_dict0 (by assumption) (by assumption) ?_; intro _ _ _ _ _)
  | ((with_reducible show wpAny _ _ (getAttr _ _ _) _ _ _); with_reducible refine g_attrG (by assumption) (by assumption) (by assumption) (by lcg_off) (by with_unfolding_all rfl) (by k_is) (by k_is) (by k_is) (by k_is) ?_; intro _)
  | ((with_reducible show wpAny _ _ (setAttr _ _ _) _ _ _); with_reducible refine g_setG (by assumption) (by assumption) (by assumption) (by ktu_off1L) (by assumption) (Nat.le_of_ble_eq_true (by kernel_rfl!)) (by k_is) (by k_is) (by k_is) (by k_is) ?_; intro _ _ _ _ _ _)
  | ((with_reducible show wpAny _ _ (getMethod _ _ _) _ _ _); with_reducible refine g_methG (by assumption) (by assumption) (by assumption) (by kernel_rfl!) (by k_is) (by k_is) (by k_is) ?_)
  | ((with_reducible show wpAny _ _ (callWith _ (.ref _) _ _ _) _ _ _); first
    | with_reducible refine cw_f (by assumption) (by k_is) ?_
    | with_reducible refine cw_f0 (by assumption) (by assumption) (by k_is) ?_)
  | ((with_reducible show wpAny _ _ (eval (.Call (.Name _ _) [] [] _) _) _ _ _); with_reducible refine e_call0 (by kernel_rfl!) (by assumption) (by assumption) (by k_is) (by k_is) ?_))
section
section
variable {prog : Program} {w : World} {s : Shared}
abbrev sigAL (key path kind width sg msb lsb first last init at_ sc : Value) : List (Str × Value) :=
  [("key", key), ("path", path), ("kind", kind), ("width", width), ("signed", sg), ("msb", msb), ("lsb", lsb), ("first", first), ("last", last), ("init", init), ("at", at_), ("scalar", sc)]
theorem sig_init_spec (x dx : Addr) (key path kind width sg msb lsb : Value) (hx : s.heap.get? x = some (instObj 560 dx)) (hd : s.heap.get? dx = some (dictOf [] 0)) (hne : x ≠ dx) :
    Spec prog w 522 [.ref x, key, path, kind, width, sg, msb, lsb] 1 s [dx] (fun r h' => r = .none ∧ ∃ es n, h'.get? dx = some (dictOf es n) ∧ ∃ t, Rep es (sigAL key path kind width sg msb lsb .none .none .none (.int (-1) t) (.bool false))) := by
  refine s_def [("lsb", lsb), ("msb", msb), ("signed", sg), ("width", width), ("kind", kind), ("path", path), ("key", key), ("self", .ref x)] (by k_is) (by k_is) (fun _ => BindsTo.of_eq rfl) rfl [(dx, dictOf [] 0)] (by simpa using hd) (by simp [muts, isT]) ?_
  intro A g L h tk hh hd' hu G F kb
  have hxg : g.get? x = some (instObj 560 dx) := kb x _ hx (by simpa using hne)
  have R0 : Rep [] [] := .nil
  kpt_turns
  rename_i F1 R1
  exact Fin.next F1 ⟨rfl, _, _, F1.hasP (by ktu_off1L), _, R1⟩
abbrev desAL (sl bp a1 a2 a3 a4 a5 a6 a7 a8 : Value) : List (Str × Value) :=
  [("signals", sl), ("assigns", a1), ("gates", a2), ("udps", a3), ("processes", a4), ("routines", a5), ("scopes", a6), ("tops", a7), ("ports", a8), ("maker", .none), ("by_path", bp)]
theorem design_init_spec (x dx : Addr) (hx : s.heap.get? x = some (instObj 623 dx)) (hd : s.heap.get? dx = some (dictOf [] 0)) (hne : x ≠ dx) :
    Spec prog w 578 [.ref x] 1 s [dx] (fun r h' => r = .none ∧ ∃ es n, h'.get? dx = some (dictOf es n) ∧ ∃ sl bp a1 a2 a3 a4 a5 a6 a7 a8 n2, Rep es (desAL (.ref sl) (.ref bp) a1 a2 a3 a4 a5 a6 a7 a8) ∧
      h'.get? sl = some (LO [] n2) ∧ h'.get? bp = some emptyDict ∧ s.heap.get? sl = none ∧ s.heap.get? bp = none ∧ sl ≠ bp) := by
  refine s_def [("self", .ref x)] (by k_is) (by k_is) (fun _ => BindsTo.of_eq rfl) rfl [(dx, dictOf [] 0)] (by simpa using hd) (by simp [muts, isT]) ?_
  intro A g L h tk hh hd' hu G F kb
  have hxg : g.get? x = some (instObj 623 dx) := kb x _ hx (by simpa using hne)
  have R0 : Rep [] [] := .nil
  kpt_turns
  rename_i F1 R1
  exact Fin.next F1 ⟨rfl, _, _, F1.hasP (by ktu_off1L), _, _, _, _, _, _, _, _, _, _, _, R1, F1.hasP (by ktu_off1L), F1.hasP (by ktu_off1L), F1.newP kb (by ktu_off1L) (by ktu_off1L), F1.newP kb (by ktu_off1L) (by ktu_off1L), F1.neP (by ktu_off1L) (by ktu_off1L)⟩
theorem store_init_spec (x dx sg : Addr) (hx : s.heap.get? x = some (instObj 665 dx)) (hd : s.heap.get? dx = some (dictOf [] 0)) (hne : x ≠ dx) :
    Spec prog w 641 [.ref x, .ref sg] 1 s [dx] (fun r h' => r = .none ∧ ∃ es n, h'.get? dx = some (dictOf es n) ∧ ∃ vals mems t, Rep es [("signals", .ref sg), ("values", .ref vals), ("memories", .ref mems), ("random_seed", .int 1 t)] ∧
      h'.get? vals = some emptyDict ∧ h'.get? mems = some emptyDict ∧ s.heap.get? vals = none ∧ s.heap.get? mems = none ∧ vals ≠ mems ∧ (vals == sysModules) = false ∧ (mems == sysModules) = false) := by
  refine s_def [("signals", .ref sg), ("self", .ref x)] (by k_is) (by k_is) (fun _ => BindsTo.of_eq rfl) rfl [(dx, dictOf [] 0)] (by simpa using hd) (by simp [muts, isT]) ?_
  intro A g L h tk hh hd' hu G F kb
  have hxg : g.get? x = some (instObj 665 dx) := kb x _ hx (by simpa using hne)
  have R0 : Rep [] [] := .nil
  kpt_turns
  rename_i F1 R1
  exact Fin.next F1 ⟨rfl, _, _, F1.hasP (by ktu_off1L), _, _, _, R1, F1.hasP (by ktu_off1L), F1.hasP (by ktu_off1L), F1.newP kb (by ktu_off1L) (by ktu_off1L), F1.newP kb (by ktu_off1L) (by ktu_off1L), F1.neP (by ktu_off1L) (by ktu_off1L), by assumption, by assumption⟩
theorem ctx_init_spec (x dx : Addr) (st fr : Value) (hx : s.heap.get? x = some (instObj 708 dx)) (hd : s.heap.get? dx = some (dictOf [] 0)) (hne : x ≠ dx) :
    Spec prog w 684 [.ref x, st, fr] 1 s [dx] (fun r h' => r = .none ∧ ∃ es n, h'.get? dx = some (dictOf es n) ∧ ∃ t, Rep es [("store", st), ("frame", fr), ("now", .int 0 t)]) := by
  refine s_def [("now", .int 0 _), ("frame", fr), ("store", st), ("self", .ref x)] (by k_is) (by k_is) (fun K => BindsTo.of_defaults rfl (K 677 _ (by k_is)) rfl rfl rfl) rfl [(dx, dictOf [] 0)] (by simpa using hd) (by simp [muts, isT]) ?_
  intro A g L h tk hh hd' hu G F kb
  have hxg : g.get? x = some (instObj 708 dx) := kb x _ hx (by simpa using hne)
  have R0 : Rep [] [] := .nil
  kpt_turns
  rename_i F1 R1
  exact Fin.next F1 ⟨rfl, _, _, F1.hasP (by ktu_off1L), _, R1⟩
end

end
section
/-- a memory or vector of the design, of the kind reg -/
abbrev SigO (h : Heap) (x : Addr) (key width msb lsb : Int) (first last : Value) : Prop := ∃ t0 t1 t2 t3 t4 path sg init at_ sc, Ob h x 560 (sigAL (.int key t0) path (.str "reg" t1) (.int width t2) sg (.int msb t3) (.int lsb t4) first last init at_ sc)
theorem SigO.keeps {h h' : Heap} {x : Addr} {key width msb lsb : Int} {first last : Value} (I : SigO h x key width msb lsb first last) (k : h.StaysIn h') : SigO h' x key width msb lsb first last :=
  let ⟨t0, t1, t2, t3, t4, a, b, c, d, e, I⟩ := I; ⟨t0, t1, t2, t3, t4, a, b, c, d, e, I.keeps k⟩
section
variable {prog : Program} {w : World} {s : Shared}
theorem net_kinds_spec : Spec prog w 508 [] 1 s [] (fun v h' => ∃ r vs, v = .ref r ∧ IsTup h' r vs.toArray ∧ StrsAre vs ["wire", "tri", "wand", "wor", "tri0", "tri1", "trireg", "supply0", "supply1"]) := by
  refine s_def0 [] (by k_is) (by k_is) (fun _ => BindsTo.of_eq rfl) rfl ?_
  intro A g L h tk hh hd hu G F kb
  kpt_turns
  rename_i F1
  exact Fin.ret F1 ⟨_, _, rfl, F1.tup (.head _), .cons _ _ (.cons _ _ (.cons _ _ (.cons _ _ (.cons _ _ (.cons _ _ (.cons _ _ (.cons _ _ (.cons _ _ .nil))))))))⟩
theorem is_net_spec (x : Addr) {key width msb lsb : Int} {first last : Value} (I : SigO s.heap x key width msb lsb first last) : Spec prog w 529 [.ref x] 2 s [] (fun v _ => v = .bool false) := by
  obtain ⟨_, _, _, _, _, _, _, _, _, _, I⟩ := I
  refine s_def0 [("self", .ref x)] (by k_is) (by k_is) (fun _ => BindsTo.of_eq rfl) rfl ?_
  intro A g L h tk hh hd hu G F kb
  have Ig := I.keeps kb.all
  kpt_turns
  with_reducible refine e_spec0 net_kinds_spec (by assumption) (by assumption) (by assumption) (dlt (by assumption)) (ult (by assumption)) ?_
  rintro _ h1 tk1 F1 _ ⟨r, vs, rfl, T, S⟩
  refine in_tuple_strs (s := At s h1 tk1) T (by simpa using S) ?_
  exact Fin.ret F1 (by kernel_rfl!)
theorem words_spec (x : Addr) {key width msb lsb fi la : Int} {t1 t2 : Tok} (I : SigO s.heap x key width msb lsb (.int fi t1) (.int la t2)) : Spec prog w 543 [.ref x] 2 s [] (IsI ((if la - fi < 0 then -(la - fi) else la - fi) + 1)) := by
  obtain ⟨_, _, _, _, _, _, _, _, _, _, I⟩ := I
  refine s_def0 [("self", .ref x)] (by k_is) (by k_is) (fun _ => BindsTo.of_eq rfl) rfl ?_
  intro A g L h tk hh hd hu G F kb
  have Ig := I.keeps kb.all
  kpt_turns
  with_reducible refine b_abs ?_
  intro _ _
  kpt_turns
  exact Fin.int F rfl
theorem place_spec (x : Addr) {key width msb lsb fi la : Int} {t1 t2 : Tok} (k : Int) (t3 : Tok) (I : SigO s.heap x key width msb lsb (.int fi t1) (.int la t2)) :
    Spec prog w 557 [.ref x, .int k t3] 4 s [] (IsI (let p := if fi ≤ la then k - fi else fi - k; if p < 0 ∨ (if la - fi < 0 then -(la - fi) else la - fi) + 1 ≤ p then -1 else p)) := by
  have I0 := I
  obtain ⟨_, _, _, _, _, _, _, _, _, _, I⟩ := I
  refine s_def0 [("index", .int k t3), ("self", .ref x)] (by k_is) (by k_is) (fun _ => BindsTo.of_eq rfl) rfl ?_
  intro A g L h tk hh hd hu G F kb
  have Ig := I.keeps kb.all
  kpt_turns
  refine i_dec (fun q => ?_) (fun q => ?_)
  all_goals
    kpt_turns
    refine i_dec (fun q1 => ?_) (fun q1 => ?_)
    · kpt_turns
      refine Fin.int (by assumption) ?_
      first | rw [if_pos q] | rw [if_neg q]
      rw [if_pos (.inl q1)]
    · kpt_turns
      rename Fm g L _ _ _ => F1
      refine e_spec0 (words_spec x (I0.keeps (kb.stay F1))) (by assumption) (by assumption) (by assumption) (dlt (by assumption)) (ult (by assumption)) ?_
      rintro _ h2 tk2 F2 _ ⟨t2, rfl⟩
      kpt_turns
      refine i_dec (fun q2 => ?_) (fun q2 => ?_)
      · kpt_turns
        refine Fin.int (by assumption) ?_
        first | rw [if_pos q] | rw [if_neg q]
        rw [if_pos (.inr q2)]
      · kpt_turns
        refine Fin.int (by assumption) ?_
        first | rw [if_pos q] | rw [if_neg q]
        rw [if_neg (by rintro (z | z); exact q1 z; exact q2 z)]
end

end
section
abbrev StO (h : Heap) (st sigs vals mems : Addr) : Prop := ∃ t, Ob h st 665 [("signals", .ref sigs), ("values", .ref vals), ("memories", .ref mems), ("random_seed", .int 1 t)]
theorem StO.keeps {h h' : Heap} {st sigs vals mems : Addr} (I : StO h st sigs vals mems) (k : h.StaysIn h') : StO h' st sigs vals mems := let ⟨t, I⟩ := I; ⟨t, I.keeps k⟩
abbrev xxx : List Nat := [3, 3, 3]
/-- the stored vector (all x where none is stored) -/
def ValAt (prog : Program) (w : World) (h : Heap) (vals : Addr) (bits : List Nat) : Prop := ∃ ov kvs, h.get? vals = some ov ∧ ID prog w ov kvs ∧ (vals == sysModules) = false ∧ kvs.length ≤ 100 ∧
  ((valueAt kvs 0 = none ∧ bits = List.replicate bits.length 3) ∨ ∃ r, valueAt kvs 0 = some (.ref r) ∧ VecL h r bits)
/-- the stored words -/
def MemAt (prog : Program) (w : World) (h : Heap) (mems : Addr) (cells : Int → List Nat) : Prop := ∃ om kvm, h.get? mems = some om ∧ ID prog w om kvm ∧ (mems == sysModules) = false ∧
  ((valueAt kvm 1 = none ∧ ∀ k, cells k = xxx) ∨ ∃ inner oi kvi, valueAt kvm 1 = some (.ref inner) ∧ h.get? inner = some oi ∧ ID prog w oi kvi ∧ (inner == sysModules) = false ∧
    ∀ k, (valueAt kvi k = none ∧ cells k = xxx) ∨ ∃ r, valueAt kvi k = some (.ref r) ∧ VecL h r (cells k))
theorem ValAt.keeps {prog : Program} {w : World} {h h' : Heap} {vals : Addr} {bits : List Nat} (x : ValAt prog w h vals bits) (k : h.StaysIn h') : ValAt prog w h' vals bits := by
  obtain ⟨ov, kvs, a, b, c, z, d⟩ := x
  exact ⟨ov, kvs, k _ _ a, b, c, z, d.imp id fun ⟨r, e, v⟩ => ⟨r, e, v.keeps k⟩⟩
theorem MemAt.keeps {prog : Program} {w : World} {h h' : Heap} {mems : Addr} {cells : Int → List Nat} (x : MemAt prog w h mems cells) (k : h.StaysIn h') : MemAt prog w h' mems cells := by
  obtain ⟨om, kvm, a, b, c, d⟩ := x
  refine ⟨om, kvm, k _ _ a, b, c, d.imp id ?_⟩
  rintro ⟨inner, oi, kvi, e, f, i, j, q⟩
  exact ⟨inner, oi, kvi, e, k _ _ f, i, j, fun n => (q n).imp id fun ⟨r, e, v⟩ => ⟨r, e, v.keeps k⟩⟩
theorem isV_x (n : Nat) : IsV n (2 ^ n - 1) (2 ^ n - 1) = IsVL (List.replicate n 3) := by
  funext v h
  unfold IsVL VecL IsV
  rw [List.length_replicate]
  show _ = ∃ r, v = .ref r ∧ Vec h r n (B fl _) (B fh _)
  rw [B_replicate, B_replicate, fl3, fh3, if_pos rfl]
section
variable {prog : Program} {w : World} {A : Around} {E : Value → Shared → Prop} {s : Shared} {h g : Heap} {tk : Nat} {L : Addr} {l : List (Str × Value)} {bag : List (Addr × Obj)} {env : Env}
theorem gm_dgetG {d : Addr} {o : Obj} {kvs : List (Int × Value)} {pl : Sem Bool} {pos : Pos} {args : List Expr} {Q : Value → Shared → Prop} (F : Fm g L h l bag) (ho : g.get? d = some o) (hd : ID prog w o kvs)
    (q : wpAny (model prog w) A (callWith pos (.builtin "dict.get") [.ref d] (backTo pos (starEach args env)) []) Q E (At s h tk)) :
    wpAny (model prog w) A (getMethod (.ref d) (Str.ofString "get") pl) (fun fx s₂ => wpAny (model prog w) A (callWith pos fx.1 fx.2 (backTo pos (starEach args env)) []) Q E s₂) E (At s h tk) := gm_dget (F.keep _ _ ho) hd q
theorem m_dget1G {d : Addr} {o : Obj} {kvs : List (Int × Value)} {k : Int} {t : Tok} {Q : Value → Shared → Prop} (F : Fm g L h l bag) (hs : (d == sysModules) = false) (ho : g.get? d = some o) (hd : ID prog w o kvs) (q : ∀ tk', Q ((valueAt kvs k).getD .none) (At s h tk')) :
    wpAny (model prog w) A (call (.builtin "dict.get") ([.ref d] ++ [.int k t])) Q E (At s h tk) := m_dget1 hs (F.keep _ _ ho) hd q
end
section
variable {prog : Program} {w : World} {s : Shared}


theorem get_spec {st sigs vals mems sv sm : Addr} {bits : List Nat} {msb lsb : Int} {fi la : Value} (t : Tok) (I : StO s.heap st sigs vals mems) (hsg : s.heap.IsList sigs [Value.ref sv, .ref sm].toArray) (hsv : SigO s.heap sv 0 bits.length msb lsb fi la) (hl : bits.length ≤ 1000)
    (V : ValAt prog w s.heap vals bits) : Spec prog w 648 [.ref st, .int 0 t] 6 s [] (IsVL bits) := by
  obtain ⟨t0, I⟩ := I
  refine s_def0 [("key", .int 0 t), ("self", .ref st)] (by k_is) (by k_is) (fun _ => BindsTo.of_eq rfl) rfl ?_
  intro A g L h tk hh hd hu G F kb
  have Ig := I.keeps kb.all
  have Sg := hsv.keeps kb.all
  have hsgg : g.IsList sigs _ := hsg.at fun o e => kb.all _ o e
  obtain ⟨ov, kvs, a, b, c, _, d⟩ := V.keeps kb.all
  kpt_turns
  with_reducible refine gm_dgetG (by assumption) a b ?_
  kpt_turns
  with_reducible refine m_dget1G (by assumption) c a b ?_
  intro _
  rcases d with ⟨d, e⟩ | ⟨r, d, e⟩
  · rw [d]
    kpt_turns
    rename Fm g L _ _ _ => F1
    have hsg1 := hsgg.at fun o e => F1.keep _ o e
    with_reducible refine e_itemL hsg1 (by decide) (by decide) rfl ?_
    obtain ⟨t0, t1, t2, t3, t4, a1, a2, a3, a4, a5, Iv⟩ := id Sg
    kpt_turns
    rename Fm g L _ _ _ => F2
    refine e_spec0 (is_net_spec sv (Sg.keeps F2.keep)) (by assumption) (by assumption) (by assumption) (dlt (by assumption)) (ult (by assumption)) ?_
    rintro _ h3 tk3 F3 _ rfl
    kpt_turns
    with_reducible refine e_spec0 (all_x_spec bits.length _ hl) (by assumption) (by assumption) (by assumption) (dlt (by assumption)) (ult (by assumption)) ?_
    rintro _ h5 tk5 F5 _ P
    rw [isV_x] at P
    refine Fin.ret F5 ?_
    rw [e]; exact P
  · rw [d, Option.getD_some]
    kpt_turns
    rename Fm g L _ _ _ => F1
    exact Fin.ret F1 ⟨r, rfl, Vec.keeps e F1.keep⟩
theorem word_spec {st sigs vals mems sv sm : Addr} {cells : Int → List Nat} {msb lsb : Int} {fi la : Value} (t : Tok) (k : Int) (t' : Tok) (I : StO s.heap st sigs vals mems) (hsg : s.heap.IsList sigs [Value.ref sv, .ref sm].toArray) (hsm : SigO s.heap sm 1 3 msb lsb fi la)
    (V : MemAt prog w s.heap mems cells) : Spec prog w 655 [.ref st, .int 1 t, .int k t'] 6 s [] (IsVL (cells k)) := by
  obtain ⟨t0, I⟩ := I
  refine s_def0 [("place", .int k t'), ("key", .int 1 t), ("self", .ref st)] (by k_is) (by k_is) (fun _ => BindsTo.of_eq rfl) rfl ?_
  intro A g L h tk hh hd hu G F kb
  have Ig := I.keeps kb.all
  have Sg := hsm.keeps kb.all
  have hsgg : g.IsList sigs _ := hsg.at fun o e => kb.all _ o e
  obtain ⟨om, kvm, a, b, c, d⟩ := V.keeps kb.all
  kpt_turns
  with_reducible refine gm_dgetG (by assumption) a b ?_
  kpt_turns
  with_reducible refine m_dget1G (by assumption) c a b ?_
  intro _
  rcases d with ⟨d, e⟩ | ⟨inner, oi, kvi, d, e, f, i, q⟩
  · rw [d, e]
    kpt_turns
    rename Fm g L _ _ _ => F1
    have hsg1 := hsgg.at fun o e => F1.keep _ o e
    with_reducible refine e_itemL hsg1 (by decide) (by decide) rfl ?_
    obtain ⟨t0, t1, t2, t3, t4, a1, a2, a3, a4, a5, Iv⟩ := Sg
    kpt_turns
    refine e_spec0 (all_x_spec 3 _ (by decide)) (by assumption) (by assumption) (by assumption) (dlt (by assumption)) (ult (by assumption)) ?_
    rintro _ h5 tk5 F5 _ P
    rw [isV_x] at P
    exact Fin.ret F5 P
  · rw [d, Option.getD_some]
    kpt_turns
    with_reducible refine gm_dgetG (by assumption) e f ?_
    kpt_turns
    with_reducible refine m_dget1G (by assumption) i e f ?_
    intro _
    rcases q k with ⟨z, y⟩ | ⟨r, z, y⟩
    · rw [z, y]
      kpt_turns
      rename Fm g L _ _ _ => F1
      have hsg1 := hsgg.at fun o e => F1.keep _ o e
      with_reducible refine e_itemL hsg1 (by decide) (by decide) rfl ?_
      obtain ⟨t0, t1, t2, t3, t4, a1, a2, a3, a4, a5, Iv⟩ := Sg
      kpt_turns
      refine e_spec0 (all_x_spec 3 _ (by decide)) (by assumption) (by assumption) (by assumption) (dlt (by assumption)) (ult (by assumption)) ?_
      rintro _ h5 tk5 F5 _ P
      rw [isV_x] at P
      exact Fin.ret F5 P
    · rw [z, Option.getD_some]
      kpt_turns
      rename Fm g L _ _ _ => F1
      exact Fin.ret F1 ⟨r, rfl, Vec.keeps y F1.keep⟩
end

end
section
theorem vec_inj {l m : List Nat} (hl : ∀ c ∈ l, c ≤ 3) (hm : ∀ c ∈ m, c ≤ 3) (h1 : l.length = m.length) (h2 : lo l = lo m) (h3 : hi l = hi m) : l = m := by
  refine List.ext_getElem h1 fun i a b => ?_
  have e1 : (lo l).testBit i = (lo m).testBit i := by rw [h2]
  have e2 : (hi l).testBit i = (hi m).testBit i := by rw [h3]
  rw [B_bit fl0, B_bit fl0] at e1
  rw [B_bit fh0, B_bit fh0] at e2
  have g1 : l.getD i 0 = l[i] := by simp [List.getD_eq_getElem?_getD, a]
  have g2 : m.getD i 0 = m[i] := by simp [List.getD_eq_getElem?_getD, b]
  rw [g1, g2] at e1 e2
  have c1 := hl _ (List.getElem_mem a)
  have c2 := hm _ (List.getElem_mem b)
  rcases code_cases c1 with q | q | q | q <;> rcases code_cases c2 with r | r | r | r <;> rw [q, r] at e1 e2 ⊢ <;> simp [fl, fh] at e1 e2
theorem tup_T {h : Heap} {a : Addr} {vs : Array Value} (T : IsTup h a vs) : ∃ o, h.get? a = some o ∧ isT o = true := by
  obtain ⟨o, ho, hc, n, hd⟩ := T
  exact ⟨o, ho, by unfold isT; rw [hd, hc]; rfl⟩
theorem isTup_keepsBut {h h' : Heap} {a : Addr} {vs : Array Value} {mu : List Addr} (T : IsTup h a vs) (kb : KeepsBut h h' mu) (hm : ∀ b ∈ mu, ∃ o, h.get? b = some o ∧ isT o = false) : IsTup h' a vs := by
  obtain ⟨o, ho, hr⟩ := T
  refine ⟨o, kb _ _ ho fun hmem => ?_, hr⟩
  obtain ⟨o', ho', z⟩ := hm _ hmem
  obtain ⟨o2, ho2, z2⟩ := tup_T ⟨o, ho, hr⟩
  rw [ho2] at ho'
  rw [Option.some.inj ho', z] at z2; cases z2
theorem Vec.keepsBut {h h' : Heap} {a : Addr} {x y z : Nat} {mu : List Addr} (T : Vec h a x y z) (kb : KeepsBut h h' mu) (hm : ∀ b ∈ mu, ∃ o, h.get? b = some o ∧ isT o = false) : Vec h' a x y z :=
  let ⟨t0, t1, t2, T⟩ := T; ⟨t0, t1, t2, isTup_keepsBut T kb hm⟩
theorem va_cons {p : Int × Value} {r : List (Int × Value)} (j : Int) : valueAt (p :: r) j = if p.1 = j then some p.2 else valueAt r j := by
  unfold valueAt
  rw [List.find?_cons]
  by_cases h : p.1 = j <;> simp [h]
theorem va_map_ne {k j : Int} {v : Value} (hj : ¬ j = k) : ∀ kvs : List (Int × Value), valueAt (kvs.map fun kv => if kv.1 = k then (kv.1, v) else kv) j = valueAt kvs j
  | [] => rfl
  | q :: r => by
    rw [List.map_cons, va_cons, va_cons, va_map_ne hj r]
    by_cases hq : q.1 = k
    · rw [if_pos hq, if_neg (fun e => hj (e.symm.trans hq)), if_neg (fun e => hj (e.symm.trans hq))]
    · rw [if_neg hq]
theorem va_map_eq {k : Int} {v : Value} : ∀ kvs : List (Int × Value), (kvs.any fun kv => decide (kv.1 = k)) = true → valueAt (kvs.map fun kv => if kv.1 = k then (kv.1, v) else kv) k = some v
  | [], h => by simp at h
  | q :: r, h => by
    rw [List.map_cons, va_cons]
    by_cases hq : q.1 = k
    · rw [if_pos hq, if_pos hq]
    · rw [if_neg hq, if_neg hq]
      rw [List.any_cons, decide_eq_false hq, Bool.false_or] at h
      exact va_map_eq r h
theorem va_snoc {k : Int} {v : Value} (j : Int) : ∀ kvs : List (Int × Value), ¬ (kvs.any fun kv => decide (kv.1 = k)) = true → valueAt (kvs ++ [(k, v)]) j = if j = k then some v else valueAt kvs j
  | [], _ => by
    rw [List.nil_append, va_cons]
    by_cases hj : j = k
    · rw [if_pos hj.symm, if_pos hj]
    · rw [if_neg (fun e => hj e.symm), if_neg hj]
  | q :: r, h => by
    have hq : ¬ q.1 = k := fun e => h (by rw [List.any_cons, decide_eq_true e, Bool.true_or])
    have hr : ¬ (r.any fun kv => decide (kv.1 = k)) = true := fun e => h (by rw [List.any_cons, e, Bool.or_true])
    rw [List.cons_append, va_cons, va_cons, va_snoc j r hr]
    by_cases hj : j = k
    · rw [if_pos hj, if_pos hj, if_neg (fun e => hq (e.trans hj))]
    · rw [if_neg hj, if_neg hj]
theorem valueAt_stored {kvs : List (Int × Value)} {k : Int} {v : Value} (j : Int) : valueAt (stored kvs k v) j = if j = k then some v else valueAt kvs j := by
  unfold stored
  split
  · rename_i h
    by_cases hj : j = k
    · subst hj; rw [if_pos rfl]; exact va_map_eq kvs h
    · rw [if_neg hj]; exact va_map_ne hj kvs
  · rename_i h
    exact va_snoc j kvs h
section
variable {prog : Program} {w : World} {A : Around} {E : Value → Shared → Prop} {s : Shared} {h : Heap} {tk : Nat}
theorem reads_vec {a : Addr} {l : List Nat} (V : VecL h a l) : Reads h (.ref a) (.tuple ([(l.length : Int), lo l, hi l].map PyData.int)) [] := by
  obtain ⟨t0, t1, t2, o, ho, hc, n, hd⟩ := V
  exact Reads.tuple ho hc hd (readsAll_of_ints (IntsAre.cons _ _ (IntsAre.cons _ _ (IntsAre.cons _ _ IntsAre.nil))))
theorem shaped_tup (ns : List Int) : PySem.SeqAt.shaped (.tuple (ns.map PyData.int)) = true := by
  have h1 := PySem.W.depthAll_ints ns
  have h2 : PyData.depth (.tuple (ns.map PyData.int)) ≤ 64 := by simp only [PyData.depth]; omega
  show (PyData.canLay0 (.tuple (ns.map PyData.int)) && decide (PyData.depth (.tuple (ns.map PyData.int)) ≤ 64)) = true
  rw [Bool.and_eq_true]
  exact ⟨by simp only [PyData.canLay0]; exact PySem.W.canLayAll0_ints ns, decide_eq_true h2⟩
theorem c_eqvec {a b : Addr} {l m : List Nat} {Q : Value → Shared → Prop} (ha : VecL h a l) (hb : VecL h b m) (hl : ∀ c ∈ l, c ≤ 3) (hm : ∀ c ∈ m, c ≤ 3) (hu : A.units + 64 < cLine)
    (q : Q (.bool (decide (l = m))) (At s h tk)) : wpAny (model prog w) A (compareOp .Eq (.ref a) (.ref b)) Q E (At s h tk) := by
  refine eq_dataH_same (s := At s h tk) (reads_vec ha) (reads_vec hb) (shaped_tup _) (shaped_tup _) hu (by simp only [PySem.SeqAt.noMix]; exact noMix_ints _ _) ?_
  simp only [PySem.Spec.same]
  rw [same_ints]
  have : decide ([(l.length : Int), (lo l : Int), (hi l : Int)] = [(m.length : Int), (lo m : Int), (hi m : Int)]) = decide (l = m) := by
    refine decide_eq_decide.mpr ⟨fun e => ?_, fun e => by rw [e]⟩
    injection e with e1 e
    injection e with e2 e
    injection e with e3 _
    exact vec_inj hl hm (by exact_mod_cast e1) (by exact_mod_cast e2) (by exact_mod_cast e3)
  rw [this]; exact q
end
/-- the object is the vector's tuple -/
def VO (o : Obj) (l : List Nat) : Prop := isT o = true ∧ o.cls = .type "tuple" ∧ ∃ t0 t1 t2 n, o.data = .seq #[.int l.length t0, .int (lo l) t1, .int (hi l) t2] n
theorem VO.vec {h : Heap} {r : Addr} {o : Obj} {l : List Nat} (x : VO o l) (e : h.get? r = some o) : VecL h r l := let ⟨_, c, t0, t1, t2, n, d⟩ := x; ⟨t0, t1, t2, o, e, c, n, d⟩
theorem Fm.vec {g h : Heap} {L : Addr} {l : List (Str × Value)} {bag : List (Addr × Obj)} {r : Addr} {ls : List Nat} (F : Fm g L h l bag) (V : VecL h r ls) : ∃ o, VO o ls ∧ Fm g L h l ((r, o) :: bag) := by
  obtain ⟨t0, t1, t2, o, ho, hc, n, hd⟩ := V
  have hT : isT o = true := by unfold isT; rw [hd, hc]; rfl
  exact ⟨o, ⟨hT, hc, t0, t1, t2, n, hd⟩, F.addT ho hT⟩
/-- what of the design and the store stays -/
def Stat (h : Heap) (st sigs vals mems sv sm : Addr) (nb : Nat) (msb lsb fi la : Int) : Prop :=
  StO h st sigs vals mems ∧ h.IsList sigs [Value.ref sv, .ref sm].toArray ∧ (∃ a b, SigO h sv 0 nb msb lsb a b) ∧ ∃ c d t1 t2, SigO h sm 1 3 c d (.int fi t1) (.int la t2)
theorem Stat.keeps {h h' : Heap} {st sigs vals mems sv sm : Addr} {nb : Nat} {msb lsb fi la : Int} (S : Stat h st sigs vals mems sv sm nb msb lsb fi la) (k : h.StaysIn h') : Stat h' st sigs vals mems sv sm nb msb lsb fi la := by
  obtain ⟨a, b, ⟨x, y, c⟩, u, v, t1, t2, d⟩ := S
  exact ⟨a.keeps k, b.at fun o e => k _ _ e, ⟨x, y, c.keeps k⟩, u, v, t1, t2, d.keeps k⟩
section
variable {prog : Program} {w : World} {s : Shared}
theorem set_val_spec {st sigs vals mems sv sm : Addr} {bits : List Nat} {msb lsb fi la : Int} {ov : Obj} (t t' : Tok) (p : Addr) (hS : ∀ h', KeepsBut s.heap h' [vals] → Stat h' st sigs vals mems sv sm bits.length msb lsb fi la)
    (hl0 : 0 < bits.length) (hl : bits.length ≤ 100) (hc : ∀ c ∈ bits, c ≤ 3) (hv : s.heap.get? vals = some ov) (hd : ID prog w ov []) (hm : (vals == sysModules) = false) (hp : VecL s.heap p bits) :
    Spec prog w 662 [.ref st, .int 0 t, .none, .int 0 t', .ref p] 9 s [vals] (fun r h' => ∃ ov', h'.get? vals = some ov' ∧ ∃ kvs, ID prog w ov' kvs ∧ ((kvs = [] ∧ bits = List.replicate bits.length 3) ∨ ∃ r, kvs = [((0 : Int), Value.ref r)] ∧ VecL h' r bits)) := by
  refine s_def [("value", .ref p), ("lo", .int 0 t'), ("place", .none), ("key", .int 0 t), ("self", .ref st)] (by k_is) (by k_is) (fun _ => BindsTo.of_eq rfl) rfl [(vals, ov)] (by simpa using hv) (by simp [muts]; try split <;> simp) ?_
  intro A g L h tk hh hd' hu G F kb
  have S := hS g kb
  have hpg : VecL g p bits := Vec.keepsBut hp kb (by intro b hb; rw [List.mem_singleton.mp hb]; exact ⟨ov, hv, isT_dict hd⟩)
  obtain ⟨⟨ts, Ig⟩, _⟩ := id S
  obtain ⟨xs, hxs⟩ : ∃ xs, xs = List.replicate bits.length 3 := ⟨_, rfl⟩
  have hxl : xs.length = bits.length := by rw [hxs, List.length_replicate]
  have hxc : ∀ c ∈ xs, c ≤ 3 := by rw [hxs]; intro c hcm; rw [List.eq_of_mem_replicate hcm]; exact Nat.le_refl _
  kpt_turns
  obtain ⟨I1, I2, ⟨a, b, I3⟩, _⟩ := S.keeps F.keep
  rw [← hxl] at I3
  refine e_spec0 (get_spec t I1 I2 I3 (by omega) ⟨ov, [], F.hasP (by ktu_off1L), hd, hm, by simp, .inl ⟨rfl, by rw [hxl]; exact hxs⟩⟩) (by assumption) (by assumption) (by assumption) (dlt (by assumption)) (ult (by assumption)) ?_
  rintro _ h1 tk1 F1 _ ⟨ro, rfl, Vo⟩
  obtain ⟨oo, hoo, F1⟩ := F1.vec Vo
  kpt_turns
  rename Fm g L _ _ _ => F2
  have V2 := hoo.vec (F2.hasP (by ktu_off1L))
  unfold VecL at V2
  rw [hxl] at V2
  have b1 := B_lt fl xs
  have b2 := B_lt fh xs
  rw [hxl] at b1 b2
  refine e_spec0 (put_slice_spec ro p bits.length (lo xs) (hi xs) (lo bits) (hi bits) t' hl0 (by omega) b1 b2 (B_lt _ _) (B_lt _ _) V2 (Vec.keeps hpg F2.keep)) (by assumption) (by assumption) (by assumption) (dlt (by assumption)) (ult (by assumption)) ?_
  rintro _ h3 tk3 F3 _ ⟨rn, rfl, Vn⟩
  obtain ⟨on, hon, F3⟩ := F3.vec (ls := bits) Vn
  kpt_turns
  rename Fm g L _ _ _ => F4
  refine c_eqvec (hon.vec (F4.hasP (by ktu_off1L))) (hoo.vec (F4.hasP (by ktu_off1L))) hc hxc (by omega) ?_
  kpt_turns
  refine i_dec (fun q => ?_) (fun q => ?_)
  · kpt_turns
    exact Fin.ret F4 ⟨ov, F4.hasP (by ktu_off1L), [], hd, .inl ⟨rfl, q.trans hxs⟩⟩
  · kpt_turns
    rename Fm g L _ _ _ => F5
    refine d_set F5 (by ktu_off1L) hd (by simp) ?_
    intro h6 tk6 o6 F6 hd6
    kpt_turns
    exact Fin.ret F6 ⟨o6, F6.hasP (by ktu_off1L), _, hd6, .inr ⟨rn, rfl, hon.vec (F6.hasP (by ktu_off1L))⟩⟩
end

end
section
section
variable {prog : Program} {w : World} {s : Shared}
theorem set_new_spec {st sigs vals mems sv sm : Addr} {nb : Nat} {lw : List Nat} {msb lsb fi la k : Int} {om : Obj} (t t' t'' : Tok) (p : Addr) (hS : ∀ h', KeepsBut s.heap h' [mems] → Stat h' st sigs vals mems sv sm nb msb lsb fi la)
    (hl : lw.length = 3) (hc : ∀ c ∈ lw, c ≤ 3) (hv : s.heap.get? mems = some om) (hd : ID prog w om []) (hm : (mems == sysModules) = false) (hp : VecL s.heap p lw) (hk : 0 ≤ k ∧ k < (if la - fi < 0 then -(la - fi) else la - fi) + 1) :
    Spec prog w 662 [.ref st, .int 1 t, .int k t'', .int 0 t', .ref p] 9 s [mems] (fun r h' => ∃ om', h'.get? mems = some om' ∧ ((ID prog w om' [] ∧ lw = xxx) ∨
      ∃ inner oi r, ID prog w om' [((1 : Int), Value.ref inner)] ∧ h'.get? inner = some oi ∧ s.heap.get? inner = none ∧ (inner == sysModules) = false ∧ ID prog w oi [(k, Value.ref r)] ∧ VecL h' r lw)) := by
  refine s_def [("value", .ref p), ("lo", .int 0 t'), ("place", .int k t''), ("key", .int 1 t), ("self", .ref st)] (by k_is) (by k_is) (fun _ => BindsTo.of_eq rfl) rfl [(mems, om)] (by simpa using hv) (by simp [muts]; try split <;> simp) ?_
  intro A g L h tk hh hd' hu G F kb
  have S := hS g kb
  have hpg : VecL g p lw := Vec.keepsBut hp kb (by intro b hb; rw [List.mem_singleton.mp hb]; exact ⟨om, hv, isT_dict hd⟩)
  obtain ⟨⟨ts, Ig⟩, hsg, _, c, d, t1, t2, I4⟩ := id S
  obtain ⟨_, _, _, _, _, _, _, _, _, _, Im⟩ := id I4
  kpt_turns
  refine i_neg (by omega) ?_
  kpt_turns
  rename Fm g L _ _ _ => F1
  have hsg1 := hsg.at fun o e => F1.keep _ o e
  with_reducible refine e_itemL hsg1 (by decide) (by decide) rfl ?_
  kpt_turns
  refine e_spec0 (words_spec sm (I4.keeps F1.keep)) (by assumption) (by assumption) (by assumption) (dlt (by assumption)) (ult (by assumption)) ?_
  rintro _ h2 tk2 F2 _ ⟨t2, rfl⟩
  kpt_turns
  refine i_neg (by omega) ?_
  kpt_turns
  obtain ⟨I1, I2, _, c', d', t1', t2', I4'⟩ := S.keeps F2.keep
  refine e_spec0 (word_spec (cells := fun _ => xxx) t k t'' I1 I2 I4' ⟨om, [], F2.hasP (by ktu_off1L), hd, hm, .inl ⟨rfl, fun _ => rfl⟩⟩) (by assumption) (by assumption) (by assumption) (dlt (by assumption)) (ult (by assumption)) ?_
  rintro _ h3 tk3 F3 _ ⟨ro, rfl, Vo⟩
  obtain ⟨oo, hoo, F3⟩ := F3.vec Vo
  kpt_turns
  rename Fm g L _ _ _ => F4
  have V4 := hoo.vec (F4.hasP (by ktu_off1L))
  have Vp := Vec.keeps hpg F4.keep
  have b1 := B_lt fl lw
  have b2 := B_lt fh lw
  rw [hl] at Vp b1 b2
  refine e_spec0 (put_slice_spec ro p 3 (lo xxx) (hi xxx) (lo lw) (hi lw) t' (by decide) (by decide) (by decide) (by decide) b1 b2 V4 Vp) (by assumption) (by assumption) (by assumption) (dlt (by assumption)) (ult (by assumption)) ?_
  rintro _ h5 tk5 F5 _ ⟨rn, rfl, Vn⟩
  rw [← hl] at Vn
  obtain ⟨on, hon, F5⟩ := F5.vec (ls := lw) Vn
  kpt_turns
  rename Fm g L _ _ _ => F6
  refine c_eqvec (hon.vec (F6.hasP (by ktu_off1L))) (hoo.vec (F6.hasP (by ktu_off1L))) hc (by decide) (by omega) ?_
  kpt_turns
  refine i_dec (fun q => ?_) (fun q => ?_)
  · kpt_turns
    exact Fin.ret F6 ⟨om, F6.hasP (by ktu_off1L), .inl ⟨hd, q⟩⟩
  · kpt_turns
    rename Fm g L _ _ _ => F7
    refine d_notin hm (F7.hasP (by ktu_off1L)) hd ?_
    intro _
    rw [show (!(valueAt ([] : List (Int × Value)) 1).isSome) = true from rfl]
    kpt_turns
    rename_i r _ hmod hnone F8 _
    refine d_set F8 (by ktu_off1L) hd (by simp) ?_
    intro h9 tk9 om' F9 hd9
    replace hd9 : ID prog w om' [((1 : Int), Value.ref r)] := hd9
    kpt_turns
    refine d_item (F9.hasP (by ktu_off1L)) hd9 rfl ?_
    intro _
    kpt_turns
    refine d_set F9 (by ktu_off1L) dict_new (by simp) ?_
    intro h10 tk10 oi F10 hd10
    kpt_turns
    exact Fin.ret F10 ⟨om', F10.hasP (by ktu_off1L), .inr ⟨r, oi, rn, hd9, F10.hasP (by ktu_off1L), F9.newP kb (by ktu_off1L) (by ktu_off1L) (isT_dict hd9), hmod, hd10, hon.vec (F10.hasP (by ktu_off1L))⟩⟩
theorem set_old_spec {st sigs vals mems sv sm inner : Addr} {nb : Nat} {lw : List Nat} {msb lsb fi la k : Int} {om oi : Obj} {kvi : List (Int × Value)} {cells : Int → List Nat} (t t' t'' : Tok) (p : Addr)
    (hS : ∀ h', KeepsBut s.heap h' [inner] → Stat h' st sigs vals mems sv sm nb msb lsb fi la ∧ h'.get? mems = some om)
    (hl : lw.length = 3) (hc : ∀ c ∈ lw, c ≤ 3) (hdm : ID prog w om [((1 : Int), Value.ref inner)]) (hm : (mems == sysModules) = false) (hv : s.heap.get? inner = some oi) (hd : ID prog w oi kvi) (hz : kvi.length ≤ 100) (hmi : (inner == sysModules) = false)
    (hcells : ∀ j, (valueAt kvi j = none ∧ cells j = xxx) ∨ ∃ r, valueAt kvi j = some (.ref r) ∧ VecL s.heap r (cells j)) (hcl : ∀ j, (cells j).length = 3 ∧ ∀ c ∈ cells j, c ≤ 3)
    (hp : VecL s.heap p lw) (hk : 0 ≤ k ∧ k < (if la - fi < 0 then -(la - fi) else la - fi) + 1) :
    Spec prog w 662 [.ref st, .int 1 t, .int k t'', .int 0 t', .ref p] 9 s [inner] (fun r h' => ∃ oi', h'.get? inner = some oi' ∧ ∃ kvi', ID prog w oi' kvi' ∧ ((kvi' = kvi ∧ lw = cells k) ∨ ∃ r, kvi' = stored kvi k (.ref r) ∧ VecL h' r lw)) := by
  refine s_def [("value", .ref p), ("lo", .int 0 t'), ("place", .int k t''), ("key", .int 1 t), ("self", .ref st)] (by k_is) (by k_is) (fun _ => BindsTo.of_eq rfl) rfl [(inner, oi)] (by simpa using hv) (by simp [muts]; try split <;> simp) ?_
  intro A g L h tk hh hd' hu G F kb
  obtain ⟨S, hmg⟩ := hS g kb
  have nt : ∀ b ∈ [inner], ∃ o, s.heap.get? b = some o ∧ isT o = false := by intro b hb; rw [List.mem_singleton.mp hb]; exact ⟨oi, hv, isT_dict hd⟩
  have hpg : VecL g p lw := Vec.keepsBut hp kb nt
  obtain ⟨⟨ts, Ig⟩, hsg, _, c, d, t1, t2, I4⟩ := id S
  obtain ⟨_, _, _, _, _, _, _, _, _, _, Im⟩ := id I4
  kpt_turns
  refine i_neg (by omega) ?_
  kpt_turns
  rename Fm g L _ _ _ => F1
  have hsg1 := hsg.at fun o e => F1.keep _ o e
  with_reducible refine e_itemL hsg1 (by decide) (by decide) rfl ?_
  kpt_turns
  refine e_spec0 (words_spec sm (I4.keeps F1.keep)) (by assumption) (by assumption) (by assumption) (dlt (by assumption)) (ult (by assumption)) ?_
  rintro _ h2 tk2 F2 _ ⟨t2, rfl⟩
  kpt_turns
  refine i_neg (by omega) ?_
  kpt_turns
  obtain ⟨I1, I2, _, c', d', t1', t2', I4'⟩ := S.keeps F2.keep
  refine e_spec0 (word_spec (cells := cells) t k t'' I1 I2 I4' ⟨om, _, F2.keep _ _ hmg, hdm, hm, .inr ⟨inner, oi, kvi, rfl, F2.hasP (by ktu_off1L), hd, hmi, fun j => (hcells j).imp id fun ⟨r, e, v⟩ => ⟨r, e, (Vec.keepsBut v kb nt).keeps F2.keep⟩⟩⟩) (by assumption) (by assumption) (by assumption) (dlt (by assumption)) (ult (by assumption)) ?_
  rintro _ h3 tk3 F3 _ ⟨ro, rfl, Vo⟩
  obtain ⟨oo, hoo, F3⟩ := F3.vec Vo
  kpt_turns
  rename Fm g L _ _ _ => F4
  have V4 := hoo.vec (F4.hasP (by ktu_off1L))
  have Vp := Vec.keeps hpg F4.keep
  have b1 := B_lt fl lw
  have b2 := B_lt fh lw
  have b3 := B_lt fl (cells k)
  have b4 := B_lt fh (cells k)
  unfold VecL at V4
  rw [(hcl k).1] at V4 b3 b4
  rw [hl] at Vp b1 b2
  refine e_spec0 (put_slice_spec ro p 3 (lo (cells k)) (hi (cells k)) (lo lw) (hi lw) t' (by decide) (by decide) b3 b4 b1 b2 V4 Vp) (by assumption) (by assumption) (by assumption) (dlt (by assumption)) (ult (by assumption)) ?_
  rintro _ h5 tk5 F5 _ ⟨rn, rfl, Vn⟩
  rw [← hl] at Vn
  obtain ⟨on, hon, F5⟩ := F5.vec (ls := lw) Vn
  kpt_turns
  rename Fm g L _ _ _ => F6
  refine c_eqvec (hon.vec (F6.hasP (by ktu_off1L))) (hoo.vec (F6.hasP (by ktu_off1L))) hc (hcl k).2 (by omega) ?_
  kpt_turns
  refine i_dec (fun q => ?_) (fun q => ?_)
  · kpt_turns
    exact Fin.ret F6 ⟨oi, F6.hasP (by ktu_off1L), kvi, hd, .inl ⟨rfl, q⟩⟩
  · kpt_turns
    rename Fm g L _ _ _ => F7
    refine d_notin hm (F7.keep _ _ hmg) hdm ?_
    intro _
    rw [show (!(valueAt [((1 : Int), Value.ref inner)] 1).isSome) = false from rfl]
    kpt_turns
    kpt_turns
    refine d_item (F7.keep _ _ hmg) hdm rfl ?_
    intro _
    kpt_turns
    refine d_set F7 (by ktu_off1L) hd (by omega) ?_
    intro h10 tk10 oi' F10 hd10
    kpt_turns
    exact Fin.ret F10 ⟨oi', F10.hasP (by ktu_off1L), _, hd10, .inr ⟨rn, rfl, hon.vec (F10.hasP (by ktu_off1L))⟩⟩
end

end
section
section
variable {M : Model} {prog : Program} {w : World} {A : Around} {E : Value → Shared → Prop} {s : Shared} {h : Heap} {tk : Nat} {x y : Str} {t u : Tok} {Q : Value → Shared → Prop}
theorem c_streqF (hb : (x == y) = false) (q : Q (.bool false) (At s h tk)) : wpAny (model prog w) A (compareOp .Eq (.str x t) (.str y u)) Q E (At s h tk) := c_streq hb q
theorem c_streqT (hb : (x == y) = true) (q : Q (.bool true) (At s h tk)) : wpAny (model prog w) A (compareOp .Eq (.str x t) (.str y u)) Q E (At s h tk) := c_streq hb q
end
local macro_rules | `(tactic| cell_call) => `(tactic| ((with_reducible show wpAny _ _ (compareOp .Eq (.str _ _) (.str _ _)) _ _ _); first | with_reducible refine c_streqF (by kernel_rfl!) ?_ | with_reducible refine c_streqT (by kernel_rfl!) ?_))
/-- what evaluation reads -/
structure Ctx (prog : Program) (w : World) (h : Heap) (ctx : Addr) (bits : List Nat) (cells : Int → List Nat) (msb lsb fi la : Int) : Prop where
  ex : ∃ st fr sigs vals mems sv sm vb t, Ob h ctx 708 [("store", .ref st), ("frame", .ref fr), ("now", .int 0 t)] ∧ h.IsList fr [Value.ref vb].toArray ∧ VecL h vb bits ∧ Stat h st sigs vals mems sv sm bits.length msb lsb fi la ∧ ValAt prog w h vals bits ∧ MemAt prog w h mems cells
  len : 0 < bits.length ∧ bits.length ≤ 100
  cod : ∀ c ∈ bits, c ≤ 3
  cel : ∀ k, (cells k).length = 3 ∧ ∀ c ∈ cells k, c ≤ 3
theorem Ctx.keeps {prog : Program} {w : World} {h h' : Heap} {ctx : Addr} {bits : List Nat} {cells : Int → List Nat} {msb lsb fi la : Int} (X : Ctx prog w h ctx bits cells msb lsb fi la) (k : h.StaysIn h') : Ctx prog w h' ctx bits cells msb lsb fi la := by
  obtain ⟨⟨st, fr, sigs, vals, mems, sv, sm, vb, t, a, b, c, d, e, f⟩, l, m, n⟩ := X
  exact ⟨⟨st, fr, sigs, vals, mems, sv, sm, vb, t, a.keeps k, b.at fun o e => k _ _ e, Vec.keeps c k, d.keeps k, e.keeps k, f.keeps k⟩, l, m, n⟩
/-- evaluated anywhere behind h the expression at e gives the vector l -/
def Ev (prog : Program) (w : World) (h : Heap) (e ctx : Addr) (k : Nat) (l : List Nat) : Prop := ∀ s : Shared, h.StaysIn s.heap → Spec prog w 501 [.ref e, .ref ctx] k s [] (IsVL l)
theorem Ev.keeps {prog : Program} {w : World} {h h' : Heap} {e ctx : Addr} {k : Nat} {l : List Nat} (x : Ev prog w h e ctx k l) (st : h.StaysIn h') : Ev prog w h' e ctx k l := fun s hs => x s fun b o e => hs b o (st b o e)
section
variable {prog : Program} {w : World} {h0 : Heap}
theorem ev_const {e ctx : Addr} {l : List Nat} (T : CT h0 e l) : Ev prog w h0 e ctx 1 l := by
  intro s hs
  obtain ⟨t0, t1, t2, t3, T⟩ := T.keeps hs
  refine s_defC (binds := [("e", .ref e), ("ctx", .ref ctx)]) (by k_is) (by k_is) (fun _ => BindsTo.of_eq rfl) ?_ (by decide) ?_
  · intro n x hx
    simp only [List.mem_cons, List.not_mem_nil, or_false] at hx
    rcases hx with rfl | rfl <;> first | exact .inl (by kernel_rfl!) | exact .inr ⟨by kernel_rfl!, by kernel_rfl!⟩
  intro A L h tk cells hh hd hu G F N Y
  have Y' : CellsAre _ [("ctx", L + 1)] cells := Y
  obtain ⟨o1, rfl, d1⟩ := Y'.one
  replace d1 : o1.data = .cell (some (.ref ctx)) := d1
  change wpAny _ _ (execs _ (EV _ _ L _ _ _ [("ctx", L + 1)])) _ _ _
  have F0 : Fm s.heap L h [("e", .ref e)] [(L + 1, o1)] := .ofCells _ F N (fun p hp => by rw [List.mem_singleton.mp hp]; kernel_rfl!) (by simp)
  generalize L + 1 = c1 at F0
  clear Y Y' N F
  kpt_turns
  rename Fm s.heap L _ _ _ => F1
  exact Fin.vl F1 rfl rfl rfl
theorem ev_sig {e ctx : Addr} {bits : List Nat} {cs : Int → List Nat} {msb lsb fi la : Int} (X : Ctx prog w h0 ctx bits cs msb lsb fi la) (T : ∃ t0 t1 t2 n, IsTup h0 e #[.str "sig" t0, .int n t1, .int 0 t2]) : Ev prog w h0 e ctx 8 bits := by
  intro s hs
  obtain ⟨t0, t1, t2, n, T⟩ := T
  replace T := T.keeps hs
  obtain ⟨⟨st, fr, sigs, vals, mems, sv, sm, vb, t, Ic, Ifr, Vb, S, V, _⟩, ⟨hl0, hl⟩, _, _⟩ := X.keeps hs
  obtain ⟨⟨ts, Is⟩, Isg, ⟨a, b, Iv⟩, _⟩ := id S
  refine s_defC (binds := [("e", .ref e), ("ctx", .ref ctx)]) (by k_is) (by k_is) (fun _ => BindsTo.of_eq rfl) ?_ (by decide) ?_
  · intro n x hx
    simp only [List.mem_cons, List.not_mem_nil, or_false] at hx
    rcases hx with rfl | rfl <;> first | exact .inl (by kernel_rfl!) | exact .inr ⟨by kernel_rfl!, by kernel_rfl!⟩
  intro A L h tk cells hh hd hu G F N Y
  have Y' : CellsAre _ [("ctx", L + 1)] cells := Y
  obtain ⟨o1, rfl, d1⟩ := Y'.one
  replace d1 : o1.data = .cell (some (.ref ctx)) := d1
  change wpAny _ _ (execs _ (EV _ _ L _ _ _ [("ctx", L + 1)])) _ _ _
  have F0 : Fm s.heap L h [("e", .ref e)] [(L + 1, o1)] := .ofCells _ F N (fun p hp => by rw [List.mem_singleton.mp hp]; kernel_rfl!) (by simp)
  generalize L + 1 = c1 at F0
  clear Y Y' N F
  kpt_turns
  rename Fm s.heap L _ _ _ => F1
  refine e_spec0 (get_spec t2 (StO.keeps ⟨ts, Is⟩ F1.keep) (Isg.at fun o e => F1.keep _ o e) (Iv.keeps F1.keep) (by omega) (V.keeps F1.keep)) (by assumption) (by assumption) (by assumption) (dlt (by assumption)) (ult (by assumption)) ?_
  rintro _ h2 tk2 F2 _ P
  exact Fin.ret F2 P
theorem ev_local {e ctx : Addr} {bits : List Nat} {cs : Int → List Nat} {msb lsb fi la : Int} (X : Ctx prog w h0 ctx bits cs msb lsb fi la) (T : ∃ t0 t1 t2 n, IsTup h0 e #[.str "local" t0, .int n t1, .int 0 t2]) : Ev prog w h0 e ctx 8 bits := by
  intro s hs
  obtain ⟨t0, t1, t2, n, T⟩ := T
  replace T := T.keeps hs
  obtain ⟨⟨st, fr, sigs, vals, mems, sv, sm, vb, t, Ic, Ifr, Vb, _⟩, _⟩ := X.keeps hs
  refine s_defC (binds := [("e", .ref e), ("ctx", .ref ctx)]) (by k_is) (by k_is) (fun _ => BindsTo.of_eq rfl) ?_ (by decide) ?_
  · intro n x hx
    simp only [List.mem_cons, List.not_mem_nil, or_false] at hx
    rcases hx with rfl | rfl <;> first | exact .inl (by kernel_rfl!) | exact .inr ⟨by kernel_rfl!, by kernel_rfl!⟩
  intro A L h tk cells hh hd hu G F N Y
  have Y' : CellsAre _ [("ctx", L + 1)] cells := Y
  obtain ⟨o1, rfl, d1⟩ := Y'.one
  replace d1 : o1.data = .cell (some (.ref ctx)) := d1
  change wpAny _ _ (execs _ (EV _ _ L _ _ _ [("ctx", L + 1)])) _ _ _
  have F0 : Fm s.heap L h [("e", .ref e)] [(L + 1, o1)] := .ofCells _ F N (fun p hp => by rw [List.mem_singleton.mp hp]; kernel_rfl!) (by simp)
  generalize L + 1 = c1 at F0
  clear Y Y' N F
  kpt_turns
  rename Fm s.heap L _ _ _ => F1
  have Ifr1 := Ifr.at fun o e => F1.keep _ o e
  with_reducible refine e_itemL Ifr1 (by decide) (by decide) rfl ?_
  exact Fin.ret F1 ⟨vb, rfl, Vec.keeps Vb F1.keep⟩
theorem ev_ext {e ctx b : Addr} {l : List Nat} {k n : Nat} {sg : Bool} (X : Ev prog w h0 b ctx k l) (h0l : 0 < l.length) (hl : l.length < n) (hn : n ≤ 100) (T : ∃ t0 t1, IsTup h0 e #[.str "ext" t0, .int n t1, .ref b, .bool sg]) : Ev prog w h0 e ctx (k + 4) (extL l n sg) := by
  intro s hs
  obtain ⟨t0, t1, T⟩ := T
  replace T := T.keeps hs
  refine s_defC (binds := [("e", .ref e), ("ctx", .ref ctx)]) (by k_is) (by k_is) (fun _ => BindsTo.of_eq rfl) ?_ (by decide) ?_
  · intro n x hx
    simp only [List.mem_cons, List.not_mem_nil, or_false] at hx
    rcases hx with rfl | rfl <;> first | exact .inl (by kernel_rfl!) | exact .inr ⟨by kernel_rfl!, by kernel_rfl!⟩
  intro A L h tk cells hh hd hu G F N Y
  have Y' : CellsAre _ [("ctx", L + 1)] cells := Y
  obtain ⟨o1, rfl, d1⟩ := Y'.one
  replace d1 : o1.data = .cell (some (.ref ctx)) := d1
  change wpAny _ _ (execs _ (EV _ _ L _ _ _ [("ctx", L + 1)])) _ _ _
  have F0 : Fm s.heap L h [("e", .ref e)] [(L + 1, o1)] := .ofCells _ F N (fun p hp => by rw [List.mem_singleton.mp hp]; kernel_rfl!) (by simp)
  generalize L + 1 = c1 at F0
  clear Y Y' N F
  kpt_turns
  rename Fm s.heap L _ _ _ => F1
  refine e_spec0 (X (At s _ _) fun c o e => F1.keep _ _ (hs _ _ e)) (by assumption) (by assumption) (by assumption) (dlt (by assumption)) (ult (by assumption)) ?_
  rintro _ h2 tk2 F2 _ ⟨r, rfl, V⟩
  kpt_turns
  refine e_spec0 (extend_spec l r n sg _ h0l hl (by omega) V) (by assumption) (by assumption) (by assumption) (dlt (by assumption)) (ult (by assumption)) ?_
  rintro _ h3 tk3 F3 _ P
  exact Fin.ret F3 P
theorem ev_slice {e ctx b : Addr} {l : List Nat} {k n : Nat} {i : Int} (X : Ev prog w h0 b ctx k l) (hl : l.length ≤ 100) (hn : n ≤ 100) (hi' : -1000 ≤ i ∧ i ≤ 1000) (T : ∃ t0 t1 t2, IsTup h0 e #[.str "slice" t0, .int n t1, .ref b, .int i t2]) : Ev prog w h0 e ctx (k + 5) (sliceL l i n) := by
  intro s hs
  obtain ⟨t0, t1, t2, T⟩ := T
  replace T := T.keeps hs
  refine s_defC (binds := [("e", .ref e), ("ctx", .ref ctx)]) (by k_is) (by k_is) (fun _ => BindsTo.of_eq rfl) ?_ (by decide) ?_
  · intro n x hx
    simp only [List.mem_cons, List.not_mem_nil, or_false] at hx
    rcases hx with rfl | rfl <;> first | exact .inl (by kernel_rfl!) | exact .inr ⟨by kernel_rfl!, by kernel_rfl!⟩
  intro A L h tk cells hh hd hu G F N Y
  have Y' : CellsAre _ [("ctx", L + 1)] cells := Y
  obtain ⟨o1, rfl, d1⟩ := Y'.one
  replace d1 : o1.data = .cell (some (.ref ctx)) := d1
  change wpAny _ _ (execs _ (EV _ _ L _ _ _ [("ctx", L + 1)])) _ _ _
  have F0 : Fm s.heap L h [("e", .ref e)] [(L + 1, o1)] := .ofCells _ F N (fun p hp => by rw [List.mem_singleton.mp hp]; kernel_rfl!) (by simp)
  generalize L + 1 = c1 at F0
  clear Y Y' N F
  kpt_turns
  rename Fm s.heap L _ _ _ => F1
  refine e_spec0 (X (At s _ _) fun c o e => F1.keep _ _ (hs _ _ e)) (by assumption) (by assumption) (by assumption) (dlt (by assumption)) (ult (by assumption)) ?_
  rintro _ h2 tk2 F2 _ ⟨r, rfl, V⟩
  kpt_turns
  refine e_spec0 (slice_vec_spec l r i n _ _ (by omega) hi' (by omega) V) (by assumption) (by assumption) (by assumption) (dlt (by assumption)) (ult (by assumption)) ?_
  rintro _ h3 tk3 F3 _ P
  refine Fin.ret F3 ?_
  unfold IsVL VecL
  rw [sliceL_length]; exact P
theorem whole_of_spec {s : Shared} {e ctx : Addr} {l : List Nat} {k : Nat} {sg : Bool} (X : Ev prog w s.heap e ctx k l) (h3 : ∀ c ∈ l, c ≤ 3) (hl0 : 0 < l.length) (hl : l.length ≤ 100) :
    Spec prog w 461 [.ref e, .bool sg, .ref ctx] (k + 3) s [] (fun r h' => match wholeL l sg with | some i => IsI i r h' | none => r = .none) := by
  refine s_def0 [("ctx", .ref ctx), ("signed", .bool sg), ("e", .ref e)] (by k_is) (by k_is) (fun _ => BindsTo.of_eq rfl) rfl ?_
  intro A g L h tk hh hd hu G F kb
  kpt_turns
  rename Fm g L _ _ _ => F1
  refine e_spec0 (X (At s _ _) fun c o e => kb.stay F1 _ _ e) (by assumption) (by assumption) (by assumption) (dlt (by assumption)) (ult (by assumption)) ?_
  rintro _ h2 tk2 F2 _ ⟨r, rfl, V⟩
  kpt_turns
  refine e_spec0 (to_int_spec l r sg h3 hl0 (by omega) V) (by assumption) (by assumption) (by assumption) (dlt (by assumption)) (ult (by assumption)) ?_
  rintro v h3 tk3 F3 _ P
  exact Fin.ret F3 P
end

end
section
local macro_rules | `(tactic| cell_call) => `(tactic| ((with_reducible show wpAny _ _ (compareOp .Eq (.str _ _) (.str _ _)) _ _ _); first | with_reducible refine c_streqF (by kernel_rfl!) ?_ | with_reducible refine c_streqT (by kernel_rfl!) ?_))
def pickV (l am : List Nat) (sg : Bool) (lsb step : Int) (n : Nat) : List Nat := match wholeL am sg with | some i => sliceL l ((i - lsb) * step) n | none => List.replicate n 3
def wordV (cells : Int → List Nat) (am : List Nat) (sg : Bool) (fi la : Int) : List Nat := match wholeL am sg with
  | some k => if (let p := if fi ≤ la then k - fi else fi - k; if p < 0 ∨ (if la - fi < 0 then -(la - fi) else la - fi) + 1 ≤ p then (-1 : Int) else p) < 0 then xxx else cells (let p := if fi ≤ la then k - fi else fi - k; if p < 0 ∨ (if la - fi < 0 then -(la - fi) else la - fi) + 1 ≤ p then (-1 : Int) else p)
  | none => xxx
theorem wholeL_le {am : List Nat} {sg : Bool} {i : Int} (h : wholeL am sg = some i) (hl : am.length ≤ 7) : -200 ≤ i ∧ i ≤ 200 := by
  have b : lo am < 2 ^ am.length := B_lt fl am
  have p : 2 ^ am.length ≤ 128 := (Nat.pow_le_pow_right (by decide) hl : 2 ^ am.length ≤ 2 ^ 7)
  have e : ((2 : Int) ^ am.length) = ((2 ^ am.length : Nat) : Int) := by simp
  unfold wholeL at h
  rw [e] at h
  generalize 2 ^ am.length = P at *
  split at h
  · have h := Option.some.inj h
    split at h <;> omega
  · cases h
section
variable {prog : Program} {w : World} {h0 : Heap}
theorem picked_ev {s : Shared} {e ctx b a : Addr} {l am : List Nat} {k n : Nat} {sg : Bool} {lsb step : Int} (Xb : Ev prog w s.heap b ctx k l) (Xa : Ev prog w s.heap a ctx k am) (h3 : ∀ c ∈ am, c ≤ 3) (ha0 : 0 < am.length) (ha : am.length ≤ 7) (hl : l.length ≤ 100) (hn : n ≤ 100)
    (hls : -100 ≤ lsb ∧ lsb ≤ 100) (hst : step = 1 ∨ step = -1) (T : ∃ t0 t1 t2 t3, IsTup s.heap e #[.str "pick" t0, .int n t1, .ref b, .ref a, .bool sg, .int lsb t2, .int step t3]) :
    Spec prog w 475 [.ref e, .ref ctx] (k + 6) s [] (IsVL (pickV l am sg lsb step n)) := by
  obtain ⟨t0, t1, t2, t3, T⟩ := T
  refine s_def0 [("ctx", .ref ctx), ("e", .ref e)] (by k_is) (by k_is) (fun _ => BindsTo.of_eq rfl) rfl ?_
  intro A g L h tk hh hd hu G F kb
  replace T := T.keeps kb.all
  kpt_turns
  rename Fm g L _ _ _ => F1
  refine e_spec0 (Xb (At s _ _) fun c o e => kb.stay F1 _ _ e) (by assumption) (by assumption) (by assumption) (dlt (by assumption)) (ult (by assumption)) ?_
  rintro _ h2 tk2 F2 _ ⟨r, rfl, V⟩
  obtain ⟨ov, hov, F2⟩ := F2.vec V
  kpt_turns
  rename Fm g L _ _ _ => F1
  refine e_spec0 (whole_of_spec (s := At s _ _) (Xa.keeps (kb.stay F1)) h3 ha0 (by omega)) (by assumption) (by assumption) (by assumption) (dlt (by assumption)) (ult (by assumption)) ?_
  rintro v h3 tk3 F3 _ P
  cases hw : wholeL am sg with
  | none =>
    rw [hw] at P
    dsimp only at P
    subst P
    kpt_turns
    refine e_spec0 (all_x_spec n _ (by omega)) (by assumption) (by assumption) (by assumption) (dlt (by assumption)) (ult (by assumption)) ?_
    rintro _ h5 tk5 F5 _ P
    rw [isV_x] at P
    refine Fin.ret F5 ?_
    unfold pickV
    rw [hw]; exact P
  | some i =>
    rw [hw] at P
    obtain ⟨t, rfl⟩ := P
    have hi' := wholeL_le hw ha
    have hb : -1000 ≤ (i - lsb) * step ∧ (i - lsb) * step ≤ 1000 := by rcases hst with rfl | rfl <;> omega
    kpt_turns
    refine o_mul (IntMulOk.of_right (by rcases hst with rfl | rfl <;> decide)) ?_
    intro _ _
    kpt_turns
    rename Fm g L _ _ _ => F1
    refine e_spec0 (slice_vec_spec l r _ n _ _ (by omega) hb (by omega) (hov.vec (F1.hasP (by ktu_off1L)))) (by assumption) (by assumption) (by assumption) (dlt (by assumption)) (ult (by assumption)) ?_
    rintro _ h5 tk5 F5 _ P
    refine Fin.ret F5 ?_
    unfold pickV
    rw [hw]
    dsimp only
    unfold IsVL VecL
    rw [sliceL_length]; exact P
theorem ev_pick {e ctx b a : Addr} {l am : List Nat} {k n : Nat} {sg : Bool} {lsb step : Int} (Xb : Ev prog w h0 b ctx k l) (Xa : Ev prog w h0 a ctx k am) (h3 : ∀ c ∈ am, c ≤ 3) (ha0 : 0 < am.length) (ha : am.length ≤ 7) (hl : l.length ≤ 100) (hn : n ≤ 100)
    (hls : -100 ≤ lsb ∧ lsb ≤ 100) (hst : step = 1 ∨ step = -1) (T : ∃ t0 t1 t2 t3, IsTup h0 e #[.str "pick" t0, .int n t1, .ref b, .ref a, .bool sg, .int lsb t2, .int step t3]) : Ev prog w h0 e ctx (k + 7) (pickV l am sg lsb step n) := by
  intro s hs
  have T0 := T
  obtain ⟨t0, t1, t2, t3, T⟩ := T
  replace T := T.keeps hs
  refine s_defC (binds := [("e", .ref e), ("ctx", .ref ctx)]) (by k_is) (by k_is) (fun _ => BindsTo.of_eq rfl) ?_ (by decide) ?_
  · intro n x hx
    simp only [List.mem_cons, List.not_mem_nil, or_false] at hx
    rcases hx with rfl | rfl <;> first | exact .inl (by kernel_rfl!) | exact .inr ⟨by kernel_rfl!, by kernel_rfl!⟩
  intro A L h tk cells hh hd hu G F N Y
  have Y' : CellsAre _ [("ctx", L + 1)] cells := Y
  obtain ⟨o1, rfl, d1⟩ := Y'.one
  replace d1 : o1.data = .cell (some (.ref ctx)) := d1
  change wpAny _ _ (execs _ (EV _ _ L _ _ _ [("ctx", L + 1)])) _ _ _
  have F0 : Fm s.heap L h [("e", .ref e)] [(L + 1, o1)] := .ofCells _ F N (fun p hp => by rw [List.mem_singleton.mp hp]; kernel_rfl!) (by simp)
  generalize L + 1 = c1 at F0
  clear Y Y' N F
  kpt_turns
  rename Fm s.heap L _ _ _ => F1
  have hs1 : h0.StaysIn _ := fun c o e => F1.keep _ _ (hs _ _ e)
  refine e_spec0 (picked_ev (s := At s _ _) (Xb.keeps hs1) (Xa.keeps hs1) h3 ha0 ha hl hn hls hst ⟨t0, t1, t2, t3, T.keeps F1.keep⟩) (by assumption) (by assumption) (by assumption) (dlt (by assumption)) (ult (by assumption)) ?_
  rintro _ h2 tk2 F2 _ P
  exact Fin.ret F2 P
theorem memory_word_ev {s : Shared} {e ctx a : Addr} {bits am : List Nat} {cells : Int → List Nat} {k : Nat} {sg : Bool} {msb lsb fi la : Int} (X : Ctx prog w s.heap ctx bits cells msb lsb fi la) (Xa : Ev prog w s.heap a ctx k am) (h3 : ∀ c ∈ am, c ≤ 3) (ha0 : 0 < am.length) (ha : am.length ≤ 7)
    (T : ∃ t0 t1 t2, IsTup s.heap e #[.str "word" t0, .int 3 t1, .int 1 t2, .ref a, .bool sg]) :
    Spec prog w 468 [.ref e, .ref ctx] (k + 9) s [] (IsVL (wordV cells am sg fi la)) := by
  obtain ⟨t0, t1, t2, T⟩ := T
  refine s_def0 [("ctx", .ref ctx), ("e", .ref e)] (by k_is) (by k_is) (fun _ => BindsTo.of_eq rfl) rfl ?_
  intro A g L h tk hh hd hu G F kb
  replace T := T.keeps kb.all
  obtain ⟨⟨st, fr, sigs, vals, mems, sv, sm, vb, t, Ic, Ifr, Vb, S, V, Mm⟩, _⟩ := X.keeps kb.all
  obtain ⟨⟨ts, Is⟩, Isg, _, c, d, u1, u2, Im⟩ := id S
  kpt_turns
  rename Fm g L _ _ _ => F1
  refine e_spec0 (whole_of_spec (s := At s _ _) (Xa.keeps (kb.stay F1)) h3 ha0 (by omega)) (by assumption) (by assumption) (by assumption) (dlt (by assumption)) (ult (by assumption)) ?_
  rintro v h3 tk3 F3 _ P
  cases hw : wholeL am sg with
  | none =>
    rw [hw] at P
    dsimp only at P
    subst P
    kpt_turns
    refine e_spec0 (all_x_spec 3 _ (by decide)) (by assumption) (by assumption) (by assumption) (dlt (by assumption)) (ult (by assumption)) ?_
    rintro _ h5 tk5 F5 _ P
    rw [isV_x] at P
    refine Fin.ret F5 ?_
    unfold wordV
    rw [hw]; exact P
  | some i =>
    rw [hw] at P
    obtain ⟨t, rfl⟩ := P
    kpt_turns
    rename Fm g L _ _ _ => F1
    have Isg1 := Isg.at fun o e => F1.keep _ o e
    with_reducible refine e_itemL Isg1 (by decide) (by decide) rfl ?_
    obtain ⟨_, _, _, _, _, _, _, _, _, _, Imo⟩ := id Im
    kpt_turns
    refine e_spec0 (place_spec sm i _ (Im.keeps F1.keep)) (by assumption) (by assumption) (by assumption) (dlt (by assumption)) (ult (by assumption)) ?_
    rintro _ h4 tk4 F4 _ ⟨t4, rfl⟩
    unfold wordV
    rw [hw]
    dsimp only
    generalize (if (if fi ≤ la then i - fi else fi - i) < 0 ∨ (if la - fi < 0 then -(la - fi) else la - fi) + 1 ≤ (if fi ≤ la then i - fi else fi - i) then (-1 : Int) else (if fi ≤ la then i - fi else fi - i)) = p
    kpt_turns
    refine i_dec (fun q => ?_) (fun q => ?_)
    · kpt_turns
      refine e_spec0 (all_x_spec 3 _ (by decide)) (by assumption) (by assumption) (by assumption) (dlt (by assumption)) (ult (by assumption)) ?_
      rintro _ h5 tk5 F5 _ P
      rw [isV_x] at P
      refine Fin.ret F5 ?_
      rw [if_pos q]; exact P
    · kpt_turns
      rename Fm g L _ _ _ => F1
      refine e_spec0 (word_spec _ p _ (StO.keeps ⟨ts, Is⟩ F1.keep) (Isg.at fun o e => F1.keep _ o e) (Im.keeps F1.keep) (Mm.keeps F1.keep)) (by assumption) (by assumption) (by assumption) (dlt (by assumption)) (ult (by assumption)) ?_
      rintro _ h5 tk5 F5 _ P
      refine Fin.ret F5 ?_
      rw [if_neg q]; exact P
theorem ev_word {e ctx a : Addr} {bits am : List Nat} {cs : Int → List Nat} {k : Nat} {sg : Bool} {msb lsb fi la : Int} (X : Ctx prog w h0 ctx bits cs msb lsb fi la) (Xa : Ev prog w h0 a ctx k am) (h3 : ∀ c ∈ am, c ≤ 3) (ha0 : 0 < am.length) (ha : am.length ≤ 7)
    (T : ∃ t0 t1 t2, IsTup h0 e #[.str "word" t0, .int 3 t1, .int 1 t2, .ref a, .bool sg]) : Ev prog w h0 e ctx (k + 10) (wordV cs am sg fi la) := by
  intro s hs
  obtain ⟨t0, t1, t2, T⟩ := T
  replace T := T.keeps hs
  refine s_defC (binds := [("e", .ref e), ("ctx", .ref ctx)]) (by k_is) (by k_is) (fun _ => BindsTo.of_eq rfl) ?_ (by decide) ?_
  · intro n x hx
    simp only [List.mem_cons, List.not_mem_nil, or_false] at hx
    rcases hx with rfl | rfl <;> first | exact .inl (by kernel_rfl!) | exact .inr ⟨by kernel_rfl!, by kernel_rfl!⟩
  intro A L h tk cells hh hd hu G F N Y
  have Y' : CellsAre _ [("ctx", L + 1)] cells := Y
  obtain ⟨o1, rfl, d1⟩ := Y'.one
  replace d1 : o1.data = .cell (some (.ref ctx)) := d1
  change wpAny _ _ (execs _ (EV _ _ L _ _ _ [("ctx", L + 1)])) _ _ _
  have F0 : Fm s.heap L h [("e", .ref e)] [(L + 1, o1)] := .ofCells _ F N (fun p hp => by rw [List.mem_singleton.mp hp]; kernel_rfl!) (by simp)
  generalize L + 1 = c1 at F0
  clear Y Y' N F
  kpt_turns
  rename Fm s.heap L _ _ _ => F1
  have hs1 : h0.StaysIn _ := fun c o e => F1.keep _ _ (hs _ _ e)
  refine e_spec0 (memory_word_ev (s := At s _ _) (X.keeps hs1) (Xa.keeps hs1) h3 ha0 ha ⟨t0, t1, t2, T.keeps F1.keep⟩) (by assumption) (by assumption) (by assumption) (dlt (by assumption)) (ult (by assumption)) ?_
  rintro _ h2 tk2 F2 _ P
  exact Fin.ret F2 P
theorem conditional_ev {s : Shared} {e ctx a b d : Addr} {lc lt lf : List Nat} {k : Nat} (Xa : Ev prog w s.heap a ctx k lc) (Xb : Ev prog w s.heap b ctx k lt) (Xd : Ev prog w s.heap d ctx k lf) (h3 : ∀ c ∈ lc, c ≤ 3) (ht3 : ∀ c ∈ lt, c ≤ 3) (hf3 : ∀ c ∈ lf, c ≤ 3)
    (hlc : lc.length ≤ 100) (hlt : lt.length ≤ 100) (he : lt.length = lf.length) (T : ∃ t0 t1, IsTup s.heap e #[.str "cond" t0, .int 3 t1, .ref a, .ref b, .ref d]) : Spec prog w 482 [.ref e, .ref ctx] (k + 4) s [] (IsVL (chooseL lc lt lf)) := by
  obtain ⟨t0, t1, T⟩ := T
  refine s_def0 [("ctx", .ref ctx), ("e", .ref e)] (by k_is) (by k_is) (fun _ => BindsTo.of_eq rfl) rfl ?_
  intro A g L h tk hh hd hu G F kb
  replace T := T.keeps kb.all
  kpt_turns
  rename Fm g L _ _ _ => F1
  refine e_spec0 (Xa (At s _ _) fun c o e => kb.stay F1 _ _ e) (by assumption) (by assumption) (by assumption) (dlt (by assumption)) (ult (by assumption)) ?_
  rintro _ h2 tk2 F2 _ ⟨r, rfl, V⟩
  obtain ⟨ov, hov, F2⟩ := F2.vec V
  kpt_turns
  rename Fm g L _ _ _ => F1
  refine e_spec0 (truth_spec lc r h3 (by omega) (hov.vec (F1.hasP (by ktu_off1L)))) (by assumption) (by assumption) (by assumption) (dlt (by assumption)) (ult (by assumption)) ?_
  rintro _ h3' tk3 F3 _ ⟨t3, rfl⟩
  kpt_turns
  refine i_dec (fun q1 => ?_) (fun q1 => ?_)
  · kpt_turns
    rename Fm g L _ _ _ => F1
    refine e_spec0 (Xb (At s _ _) fun c o e => kb.stay F1 _ _ e) (by assumption) (by assumption) (by assumption) (dlt (by assumption)) (ult (by assumption)) ?_
    rintro _ h4 tk4 F4 _ P
    refine Fin.ret F4 ?_
    unfold chooseL
    rw [if_pos (by exact_mod_cast q1)]; exact P
  · kpt_turns
    refine i_dec (fun q0 => ?_) (fun q0 => ?_)
    · kpt_turns
      rename Fm g L _ _ _ => F1
      refine e_spec0 (Xd (At s _ _) fun c o e => kb.stay F1 _ _ e) (by assumption) (by assumption) (by assumption) (dlt (by assumption)) (ult (by assumption)) ?_
      rintro _ h4 tk4 F4 _ P
      refine Fin.ret F4 ?_
      unfold chooseL
      rw [if_neg (fun q => q1 (by exact_mod_cast q)), if_pos (by exact_mod_cast q0)]; exact P
    · kpt_turns
      rename Fm g L _ _ _ => F1
      refine e_spec0 (Xb (At s _ _) fun c o e => kb.stay F1 _ _ e) (by assumption) (by assumption) (by assumption) (dlt (by assumption)) (ult (by assumption)) ?_
      rintro _ h4 tk4 F4 _ ⟨r4, rfl, V4⟩
      obtain ⟨o4, ho4, F4⟩ := F4.vec V4
      kpt_turns
      rename Fm g L _ _ _ => F1
      refine e_spec0 (Xd (At s _ _) fun c o e => kb.stay F1 _ _ e) (by assumption) (by assumption) (by assumption) (dlt (by assumption)) (ult (by assumption)) ?_
      rintro _ h5 tk5 F5 _ ⟨r5, rfl, V5⟩
      kpt_turns
      refine e_spec0 (choose_spec lc lt lf r r4 r5 h3 ht3 hf3 (by omega) (by omega) he (hov.vec (F5.hasP (by ktu_off1L))) (ho4.vec (F5.hasP (by ktu_off1L))) V5) (by assumption) (by assumption) (by assumption) (dlt (by assumption)) (ult (by assumption)) ?_
      rintro _ h6 tk6 F6 _ P
      exact Fin.ret F6 P
theorem ev_cond {e ctx a b d : Addr} {lc lt lf : List Nat} {k : Nat} (Xa : Ev prog w h0 a ctx k lc) (Xb : Ev prog w h0 b ctx k lt) (Xd : Ev prog w h0 d ctx k lf) (h3 : ∀ c ∈ lc, c ≤ 3) (ht3 : ∀ c ∈ lt, c ≤ 3) (hf3 : ∀ c ∈ lf, c ≤ 3)
    (hlc : lc.length ≤ 100) (hlt : lt.length ≤ 100) (he : lt.length = lf.length) (T : ∃ t0 t1, IsTup h0 e #[.str "cond" t0, .int 3 t1, .ref a, .ref b, .ref d]) : Ev prog w h0 e ctx (k + 5) (chooseL lc lt lf) := by
  intro s hs
  obtain ⟨t0, t1, T⟩ := T
  replace T := T.keeps hs
  refine s_defC (binds := [("e", .ref e), ("ctx", .ref ctx)]) (by k_is) (by k_is) (fun _ => BindsTo.of_eq rfl) ?_ (by decide) ?_
  · intro n x hx
    simp only [List.mem_cons, List.not_mem_nil, or_false] at hx
    rcases hx with rfl | rfl <;> first | exact .inl (by kernel_rfl!) | exact .inr ⟨by kernel_rfl!, by kernel_rfl!⟩
  intro A L h tk cells hh hd hu G F N Y
  have Y' : CellsAre _ [("ctx", L + 1)] cells := Y
  obtain ⟨o1, rfl, d1⟩ := Y'.one
  replace d1 : o1.data = .cell (some (.ref ctx)) := d1
  change wpAny _ _ (execs _ (EV _ _ L _ _ _ [("ctx", L + 1)])) _ _ _
  have F0 : Fm s.heap L h [("e", .ref e)] [(L + 1, o1)] := .ofCells _ F N (fun p hp => by rw [List.mem_singleton.mp hp]; kernel_rfl!) (by simp)
  generalize L + 1 = c1 at F0
  clear Y Y' N F
  kpt_turns
  rename Fm s.heap L _ _ _ => F1
  have hs1 : h0.StaysIn _ := fun c o e => F1.keep _ _ (hs _ _ e)
  refine e_spec0 (conditional_ev (s := At s _ _) (Xa.keeps hs1) (Xb.keeps hs1) (Xd.keeps hs1) h3 ht3 hf3 hlc hlt he ⟨t0, t1, T.keeps F1.keep⟩) (by assumption) (by assumption) (by assumption) (dlt (by assumption)) (ult (by assumption)) ?_
  rintro _ h2 tk2 F2 _ P
  exact Fin.ret F2 P
end

end
section
local macro_rules | `(tactic| cell_call) => `(tactic| ((with_reducible show wpAny _ _ (compareOp .Eq (.str _ _) (.str _ _)) _ _ _); first | with_reducible refine c_streqF (by kernel_rfl!) ?_ | with_reducible refine c_streqT (by kernel_rfl!) ?_))
theorem Pick.app {p : Addr × Obj} {b b' : List (Addr × Obj)} (P : Pick p b b') : ∀ ext : List (Addr × Obj), Pick p (ext ++ b) (ext ++ b')
  | [] => P
  | _ :: r => .there (P.app r)
local macro_rules | `(tactic| ktu_off1L) => `(tactic| first | exact Pick.here | ((apply Pick.there); ktu_off1L) | ((with_reducible apply Pick.app); ktu_off1L))
/-- objects that are vectors' tuples -/
inductive VOs : List (Addr × Obj) → List (List Nat) → Prop
  | nil : VOs [] []
  | cons {a : Addr} {o : Obj} {l : List Nat} {b : List (Addr × Obj)} {ls : List (List Nat)} : VO o l → VOs b ls → VOs ((a, o) :: b) (l :: ls)
section
variable {prog : Program} {w : World} {h0 : Heap}
theorem ev_cat {e ctx tp a b : Addr} {l1 l2 : List Nat} {k : Nat} (Xa : Ev prog w h0 a ctx k l1) (Xb : Ev prog w h0 b ctx k l2) (hz : l1.length + l2.length ≤ 1000) (T : ∃ t0 n t1, IsTup h0 e #[.str "cat" t0, .int n t1, .ref tp]) (Tp : IsTup h0 tp #[.ref a, .ref b]) :
    Ev prog w h0 e ctx (k + 3) (l2 ++ l1) := by
  intro s hs
  obtain ⟨t0, n, t1, T⟩ := T
  replace T := T.keeps hs
  replace Tp := Tp.keeps hs
  refine s_defC (binds := [("e", .ref e), ("ctx", .ref ctx)]) (by k_is) (by k_is) (fun _ => BindsTo.of_eq rfl) ?_ (by decide) ?_
  · intro n x hx
    simp only [List.mem_cons, List.not_mem_nil, or_false] at hx
    rcases hx with rfl | rfl <;> first | exact .inl (by kernel_rfl!) | exact .inr ⟨by kernel_rfl!, by kernel_rfl!⟩
  intro A L h tk cells hh hd hu G F N Y
  have Y' : CellsAre _ [("ctx", L + 1)] cells := Y
  obtain ⟨o1, rfl, d1⟩ := Y'.one
  replace d1 : o1.data = .cell (some (.ref ctx)) := d1
  change wpAny _ _ (execs _ (EV _ _ L _ _ _ [("ctx", L + 1)])) _ _ _
  have F0 : Fm s.heap L h [("e", .ref e)] [(L + 1, o1)] := .ofCells _ F N (fun p hp => by rw [List.mem_singleton.mp hp]; kernel_rfl!) (by simp)
  generalize L + 1 = c1 at F0
  clear Y Y' N F
  kpt_turns
  refine e_comp (by with_unfolding_all rfl) ?_
  kpt_turns
  rename Fm s.heap L _ _ _ => F1
  refine c_tuple (vs := [.ref a, .ref b]) (fun i ys ext => ys = (ext.map fun p => Value.ref p.1).reverse ∧ VOs ext (([l1, l2].take i).reverse) ∧ ys.length = i) hh F1 Tp (by simp) ⟨rfl, .nil, rfl⟩ (fun i ys ext x => x.2.2) ?_ ?_
  · rintro i v C h tk nm I oI p2 D zs k' ext hi hvi ⟨rfl, hv, hzl⟩ F
    have hX : ∃ x l, v = .ref x ∧ Ev prog w h0 x ctx k l ∧ ([l1, l2].take (i + 1)).reverse = l :: ([l1, l2].take i).reverse := by
      have : i = 0 ∨ i = 1 := by simp only [List.length_cons, List.length_nil] at hi; omega
      rcases this with rfl | rfl
      · exact ⟨a, l1, (Option.some.inj hvi).symm, Xa, rfl⟩
      · exact ⟨b, l2, (Option.some.inj hvi).symm, Xb, rfl⟩
    obtain ⟨x, l, rfl, X, el⟩ := hX
    refine wpAny_assign_Name ?_
    kpt_turns
    rename Fm s.heap C _ _ _ => F2
    refine e_spec0 (X (At s _ _) fun c o e => F2.keep _ _ (hs _ _ e)) (by assumption) (by assumption) (by assumption) (dlt (by assumption)) (ult (by assumption)) ?_
    rintro _ h3 tk3 F3 _ ⟨r, rfl, V⟩
    obtain ⟨ov, hov, F3⟩ := F3.vec V
    refine CEl.mk ((r, ov) :: ext) F3 (by tb_rel) ⟨by simp, ?_, by rw [List.length_append, hzl]; rfl⟩
    rw [el]; exact .cons hov hv
  · rintro D C oC h tk k' zs ext ⟨rfl, hv, hzl⟩ F z hn
    have hv : VOs ext [l2, l1] := hv
    cases hv with | @cons r2 o2 _ _ _ hv2 hv => ?_
    cases hv with | @cons r1 o1' _ _ _ hv1 hv => ?_
    cases hv
    simp only [List.map_cons, List.map_nil, List.reverse_cons, List.reverse_nil, List.nil_append, List.cons_append] at F
    refine cp_plain F z hn fun h2 F2 => ?_
    kpt_turns
    refine e_spec0 (concat_spec (s := At s _ _) [(r1, l1), (r2, l2)] D (by simp; omega) ?_ (F2.lstP (by ktu_off1L))) (by assumption) (by assumption) (by assumption) (dlt (by assumption)) (ult (by assumption)) ?_
    · intro p hp
      simp only [List.mem_cons, List.not_mem_nil, or_false] at hp
      rcases hp with rfl | rfl
      · exact hv1.vec (F2.hasP (by ktu_off1L))
      · exact hv2.vec (F2.hasP (by ktu_off1L))
    rintro _ h3 tk3 F3 _ P
    refine Fin.ret F3 ?_
    have e : catL [(r1, l1), (r2, l2)] = l2 ++ l1 := by simp [catL]
    rw [e] at P; exact P
end

end
section
section
variable {M : Model} {prog : Program} {w : World} {A : Around} {E : Value → Shared → Prop} {s : Shared} {h h' g : Heap} {tk : Nat} {L : Addr} {l : List (Str × Value)} {bag bag' bag'' : List (Addr × Obj)}
/-- two objects of the bag turned -/
theorem Fm.set2 (F : Fm g L h l bag) {a b : Addr} {o o' q q' : Obj} (P : Pick (a, o) bag bag') (P' : Pick (b, q) bag' bag'') (kb : KeepsBut h h' [a, b]) (e : h'.get? a = some o') (e' : h'.get? b = some q') (z : isT o = false) (z' : isT q = false) : Fm g L h' l ((a, o') :: (b, q') :: bag'') := by
  obtain ⟨p1, p2, p3⟩ := P.out
  obtain ⟨r1, r2, r3⟩ := P'.out
  have nd' := (p3 F.nd).2
  have F2 : Fm g L h l bag'' := ⟨F.fr, fun p hp => F.bg p (p2 p (r2 p hp)), (r3 nd').2⟩
  have f := F.bg _ p1
  have f' := F.bg _ (p2 _ r1)
  have off : ∀ p ∈ bag'', p.1 ≠ a ∧ p.1 ≠ b := fun p hp => by
    have fp := (F2.bg p hp).1
    constructor
    · intro w
      cases hT : isT p.2 with
      | false => exact (p3 F.nd).1 z p (r2 p hp) hT w
      | true => rw [w, f.1] at fp; rw [← Option.some.inj fp] at hT; dsimp only at hT; rw [z] at hT; cases hT
    · intro w
      cases hT : isT p.2 with
      | false => exact (r3 nd').1 z' p hp hT w
      | true => rw [w, f'.1] at fp; rw [← Option.some.inj fp] at hT; dsimp only at hT; rw [z'] at hT; cases hT
  have hab : b ≠ a := (p3 F.nd).1 z _ r1 z'
  have F3 : Fm g L h' l bag'' := F2.but kb (fun c hc => by
    rcases List.mem_cons.mp hc with rfl | hc
    · exact ⟨(f.2 z).2, (f.2 z).1⟩
    · rw [List.mem_singleton.mp hc]; exact ⟨(f'.2 z').2, (f'.2 z').1⟩) fun p hp hm => by
    rcases List.mem_cons.mp hm with e | hm
    · exact (off p hp).1 e
    · exact (off p hp).2 (List.mem_singleton.mp hm)
  refine (F3.add e' fun _ => ⟨(f'.2 z').1, (f'.2 z').2, fun p hp _ => (off p hp).2⟩).add e fun _ => ⟨(f.2 z).1, (f.2 z).2, fun p hp _ => ?_⟩
  rcases List.mem_cons.mp hp with rfl | hp
  · exact hab
  · exact (off p hp).1
/-- an object that is new since h -/
theorem Fm.addN {h0 : Heap} (F : Fm g L h l bag) {bag0 : List (Addr × Obj)} {l0 : List (Str × Value)} (F0 : Fm g L h0 l0 bag0) (hb : ∀ p ∈ bag, ∃ o, h0.get? p.1 = some o) {a : Addr} {o : Obj} (n : h0.get? a = none) (e : h.get? a = some o) : Fm g L h l ((a, o) :: bag) :=
  F.add e fun _ => ⟨F0.new n, F0.fresh n, fun q hq _ w => by obtain ⟨o, ho⟩ := hb q hq; rw [w, n] at ho; cases ho⟩
end
section
variable {prog : Program} {w : World} {s : Shared}
theorem add_signal_spec {des sl bp : Addr} {ob : Obj} {vs : List Value} {n : Nat} {kvs : List (Str × Value)} {path : Str} {tp : Tok} {kd wd sg mb lb at_ : Value} {a1 a2 a3 a4 a5 a6 a7 a8 : Value}
    (hS : ∀ h', KeepsBut s.heap h' [sl, bp] → Ob h' des 623 (desAL (.ref sl) (.ref bp) a1 a2 a3 a4 a5 a6 a7 a8)) (h1 : s.heap.get? sl = some (LO vs n)) (h2 : s.heap.get? bp = some ob) (hd : SD prog w ob kvs) (hne : sl ≠ bp) (hv : vs.length ≤ 100) (hk : kvs.length ≤ 100) :
    Spec prog w 585 [.ref des, .str path tp, kd, wd, sg, mb, lb, at_] 8 s [sl, bp] (fun r h' => ∃ x dx es nn n' ob', r = .ref x ∧ s.heap.get? x = none ∧ s.heap.get? dx = none ∧ x ≠ dx ∧ h'.get? x = some (instObj 560 dx) ∧ h'.get? dx = some (dictOf es nn) ∧
      (∃ t, Rep es (sigAL (.int vs.length t) (.str path tp) kd wd sg mb lb .none .none .none at_ (.bool false))) ∧ h'.get? sl = some (LO (vs ++ [.ref x]) n') ∧ h'.get? bp = some ob' ∧ ∃ v, SD prog w ob' (stored kvs path v)) := by
  have hTb := isT_dict hd
  refine s_def [("at", at_), ("lsb", lb), ("msb", mb), ("signed", sg), ("width", wd), ("kind", kd), ("path", .str path tp), ("self", .ref des)] (by k_is) (by k_is) (fun _ => BindsTo.of_eq rfl) rfl [(sl, LO vs n), (bp, ob)] (by
    intro p hp
    simp only [List.mem_cons, List.not_mem_nil, or_false] at hp
    rcases hp with rfl | rfl
    · exact h1
    · exact h2) (muts_of (by simpa using hne)) ?_
  intro A g L h tk hh hd' hu G F kb
  have Ig := hS g kb
  kpt_turns
  rename Fm g L _ _ _ => F1
  with_reducible refine b_len (F1.lstP (by ktu_off1L)) (by rw [sizeLine_eq]; omega) ?_
  intro t0 _
  kpt_turns
  rename Fm g L _ _ _ => F1
  refine m_make (fun _ _ es => ∃ t, Rep es (sigAL (.int vs.length t0) (.str path tp) kd wd sg mb lb .none .none .none (.int (-1) t) (.bool false))) G F1 hh (k := 1) (by omega) (by omega) (by k_is) (by k_is) (by k_is)
    (fun s' x dx e1 e2 e3 _ => sig_init_spec x dx _ _ _ _ _ _ _ e1 e2 e3) ?_
  intro x dx h1' h2' tk2 es nn F2 R hst hall hx0 hdx0
  obtain ⟨t1, R⟩ := R
  kpt_turns
  rename Fm g L _ _ _ => F3
  refine g_set G F3 (by ktu_off1L) (F3.hasP (by ktu_off1L)) R (Nat.le_of_ble_eq_true (by kernel_rfl!)) (by k_is) (by k_is) (by k_is) (by k_is) ?_
  intro h4 tk4 es4 nn4 F4 R4
  kpt_turns
  with_reducible refine m_app (by assumption) (by ktu_off1L) (by rw [sizeLine_eq]; omega) ?_
  intro _ _ _
  kpt_turns
  rename Fm g L _ _ _ => F5
  refine g_attr G F5 ⟨dx, es4, nn4, F5.hasP (by ktu_off1L), F5.hasP (by ktu_off1L), R4⟩ (by lcg_off) rfl (by k_is) (by k_is) (by k_is) (by k_is) ?_
  intro _
  kpt_turns
  refine d_setS (by assumption) (by ktu_off1L) hd (by omega) ?_
  intro h6 tk6 o6 F6 hd6
  kpt_turns
  rename Fm g L _ _ _ => F7
  have ne1 : x ∉ List.map (fun p => p.1) [(sl, LO vs n), (bp, ob)] := by
    have e1 := F3.neP (a := x) (b := sl) (by ktu_off1L) (by ktu_off1L)
    have e2 := F3.neP (a := x) (b := bp) (by ktu_off1L) (by ktu_off1L) rfl hTb
    simp [e1, e2]
  have ne2 : dx ∉ List.map (fun p => p.1) [(sl, LO vs n), (bp, ob)] := by
    have e1 := F3.neP (a := dx) (b := sl) (by ktu_off1L) (by ktu_off1L)
    have e2 := F3.neP (a := dx) (b := bp) (by ktu_off1L) (by ktu_off1L) rfl hTb
    simp [e1, e2]
  exact Fin.ret F7 ⟨x, dx, _, _, _, _, rfl, kb.none (F3.freshP (a := x) (by ktu_off1L)) ne1, kb.none (F3.freshP (a := dx) (by ktu_off1L)) ne2, F3.neP (a := x) (b := dx) (by ktu_off1L) (by ktu_off1L), F7.hasP (by ktu_off1L), F7.hasP (by ktu_off1L), ⟨_, R4⟩, F7.hasP (by ktu_off1L), F7.hasP (by ktu_off1L), _, hd6⟩
end

end
section
/-- law's own text, as the written part has it -/
structure LawParts (w : World) where
  (b : List Stmt) (sc : Scope) (name qual : Str) (params : Arguments) (dV kV doc pm cdv ct oc : Value) (an od : Option Addr) (osl : Array (Option Value))
  h : (Mine.hd.heap_39 w.params).lookup 778 = some ⟨oc, od, .func (fnOf name qual params b sc dV kV doc pm an cdv ct), osl⟩
noncomputable def lawParts (w : World) : LawParts w := ⟨_, _, _, _, _, _, _, _, _, _, _, _, _, _, _, by k_is⟩
/-- law's body from the k-th statement on -/
noncomputable def lawB (w : World) (k : Nat) : List Stmt := (lawParts w).b.drop k
/-- law's names -/
noncomputable def lawE (w : World) (fnA : Addr) (cdV : Value) (L c1 c2 c3 : Addr) : Env := EV ((lawParts w).qual ++ ".<locals>.") (lawParts w).sc L (some fnA) (some L) cdV [("bits", c1), ("lsb", c2), ("msb", c3)]
section
variable {prog : Program} {w : World} {A : Around} {E : Value → Shared → Prop} {s : Shared} {h g : Heap} {tk : Nat} {L : Addr} {l : List (Str × Value)} {bag bag' : List (Addr × Obj)}
theorem Fm.inH (F : Fm g L h l bag) {r : Addr} {o o' : Obj} (P : Pick (r, o) bag bag') : ∀ p ∈ ((r, o') :: bag'), ∃ q, h.get? p.1 = some q := by
  intro p hp
  rcases List.mem_cons.mp hp with rfl | hp
  · exact ⟨_, F.hasP P⟩
  · exact ⟨_, F.has (P.out.2.1 p hp)⟩
theorem e_next {r : Addr} {o : Obj} {Q : Value → Shared → Prop} (G : Gd w g) (F : Fm g L h l bag) (P : Pick (r, o) bag bag') (ho : RowO o) (hh : A.handled = none) (hd : A.depth + 9 < recursionLimit) (hu : A.units + 8 * 9 < cLine)
    (q : ∀ h' tk' o' (c : Nat) t, Fm g L h' l ((r, o') :: bag') → RowO o' → Q (.int c t) (At s h' tk')) : wpAny (model prog w) A (call (.ref 726) [.ref r]) Q E (At s h tk) := by
  refine e_spec1 (next_spec r o (F.hasP P) ho) G F P ho.nt hh hd hu ?_
  rintro _ h' tk' o' F' _ ⟨ho', c, _, t, rfl⟩
  exact q _ _ _ _ _ F' ho'
theorem e_range {r : Addr} {o : Obj} {Q : Value → Shared → Prop} (G : Gd w g) (F : Fm g L h l bag) (P : Pick (r, o) bag bag') (ho : RowO o) (hh : A.handled = none) (hd : A.depth + 10 < recursionLimit) (hu : A.units + 8 * 10 < cLine)
    (q : ∀ h' tk' o' a b p t0 t1, Fm g L h' l ((r, o') :: bag') → RowO o' → -5 ≤ a ∧ a ≤ 6 ∧ -5 ≤ b ∧ b ≤ 6 → IsTup h' p #[.int a t0, .int b t1] → Q (.ref p) (At s h' tk')) : wpAny (model prog w) A (call (.ref 761) [.ref r]) Q E (At s h tk) := by
  refine e_spec1 (range_spec r o (F.hasP P) ho) G F P ho.nt hh hd hu ?_
  rintro _ h' tk' o' F' _ ⟨ho', a, b, p, t0, t1, x1, x2, x3, x4, rfl, T⟩
  exact q _ _ _ _ _ _ _ _ F' ho' ⟨x1, x2, x3, x4⟩ T
theorem e_bits {r : Addr} {o : Obj} {wd : Nat} {t : Tok} {X : Int} {Q : Value → Shared → Prop} (G : Gd w g) (F : Fm g L h l bag) (P : Pick (r, o) bag bag') (ho : RowO o) (hX : X = wd) (hw : wd ≤ 100) (hh : A.handled = none) (hd : A.depth + 10 < recursionLimit) (hu : A.units + 8 * 10 < cLine)
    (q : ∀ h' tk' o' a vs n ls, Fm g L h' l ((a, LO vs n) :: (r, o') :: bag') → RowO o' → NA vs ls → ls.length = wd → (∀ c ∈ ls, c ≤ 3) → Q (.ref a) (At s h' tk')) : wpAny (model prog w) A (call (.ref 733) [.ref r, .int X t]) Q E (At s h tk) := by
  subst hX
  refine e_spec1 (bits_spec r o wd t (F.hasP P) ho hw) G F P ho.nt hh hd hu ?_
  rintro _ h' tk' o' F' _ ⟨ho', a, ls, vs, n, rfl, e0, e1, N, x1, x2⟩
  exact q _ _ _ _ _ _ _ (F'.addN F (F.inH P) e0 e1) ho' N x1 x2
end

end
section
section
variable {prog : Program} {w : World} {A : Around} {E : Value → Shared → Prop} {s : Shared} {h g : Heap} {tk : Nat} {L c1 c2 c3 : Addr} {fnA : Addr} {cdV : Value}
/-- what is drawn -/
structure Drawn (ob o1 o2 o3 : Obj) (D : Addr) (vsb vsa : List Value) (lb am : List Nat) (msb lsb fi la : Int) (wd : Nat) : Prop where
  row : RowO ob
  d1 : o1.data = .cell (some (.ref D))
  d2 : ∃ t, o2.data = .cell (some (.int lsb t))
  d3 : ∃ t, o3.data = .cell (some (.int msb t))
  nb : NA vsb lb
  lnb : (lb.length : Int) = (if msb - lsb < 0 then -(msb - lsb) else msb - lsb) + 1
  cb : ∀ c ∈ lb, c ≤ 3
  na : NA vsa am
  lna : 0 < am.length ∧ am.length ≤ 7
  ca : ∀ c ∈ am, c ≤ 3
  rg : -5 ≤ msb ∧ msb ≤ 6 ∧ -5 ≤ lsb ∧ lsb ≤ 6
  rm : -5 ≤ fi ∧ fi ≤ 6 ∧ -5 ≤ la ∧ la ≤ 6
  lw : 1 ≤ wd ∧ wd ≤ 6
theorem seg1 {D0 : Addr} {vs0 : List Value} {ns : List Int} {o1 o2 o3 : Obj} {u1 u2 u3 : Option Value} {Q : Flow → Shared → Prop} (hh : A.handled = none) (hd : A.depth + 100 < recursionLimit) (hu : A.units + 8 * 100 < cLine) (G : Gd w g)
    (F : Fm g L h [("script", .ref D0)] [(c1, o1), (c2, o2), (c3, o3)]) (hD : g.IsList D0 vs0.toArray) (hv : IntsAre vs0 ns) (hl : ns.length ≤ 63)
    (d1 : o1.data = .cell u1) (d2 : o2.data = .cell u2) (d3 : o3.data = .cell u3)
    (K : ∀ h' tk' row D Am ob o1 o2 o3 vsb nb vsa na lb am msb lsb fi la t3 t4 (sg : Bool) (wd : Nat) tw, Drawn ob o1 o2 o3 D vsb vsa lb am msb lsb fi la wd →
      Fm g L h' [("wide", .int wd tw), ("signed", .bool sg), ("amount", .ref Am), ("first", .int fi t3), ("last", .int la t4), ("row", .ref row)] [(row, ob), (Am, LO vsa na), (D, LO vsb nb), (c1, o1), (c2, o2), (c3, o3)] →
      wpAny (model prog w) A (execs (lawB w 8) (lawE w fnA cdV L c1 c2 c3)) Q E (At s h' tk')) :
    wpAny (model prog w) A (execs (lawB w 0) (lawE w fnA cdV L c1 c2 c3)) Q E (At s h tk) := by
  unfold lawB
  conv in List.drop _ _ => whnf
  unfold lawE
  kpt_turns
  refine e_spec0 (row_spec D0 vs0 ns (hD.at fun o e => F.keep _ o e) hv hl) (by assumption) (by assumption) (by assumption) (dlt (by assumption)) (ult (by assumption)) ?_
  rintro _ h1 tk1 F1 _ ⟨row, ob, rfl, e0, e1, ho⟩
  have F1 := F1.addN F (fun p hp => ⟨_, F.has hp⟩) e0 e1
  kpt_turns
  rename Fm g L _ _ _ => F2
  refine e_range G F2 (by ktu_off1L) ho hh (dlt (by assumption)) (ult (by assumption)) ?_
  intro h3 tk3 ob3 msb lsb p t0 t1 F3 ho3 rg T
  refine a_unp2 hh F3 T ?_
  intro h4 F4
  kpt_turns
  rename Fm g L _ _ _ => F5
  rename _ = Data.cell (some (Value.int msb t0)) => d3'
  rename _ = Data.cell (some (Value.int lsb t1)) => d2'
  with_reducible refine b_abs ?_
  intro _ _
  kpt_turns
  obtain ⟨nb, hnb⟩ : ∃ n : Nat, (if msb - lsb < 0 then -(msb - lsb) else msb - lsb) + 1 = n := ⟨((if msb - lsb < 0 then -(msb - lsb) else msb - lsb) + 1).toNat, by split <;> omega⟩
  have hnb' : nb ≤ 12 := by split at hnb <;> omega
  refine e_bits G F5 (by ktu_off1L) ho3 hnb (by omega) hh (dlt (by assumption)) (ult (by assumption)) ?_
  intro h6 tk6 ob6 D vsb n6 lb F6 ho6 Nb lnb cb
  kpt_turns
  rename Fm g L _ _ _ => F7
  rename _ = Data.cell (some (Value.ref D)) => d1'
  refine e_range G F7 (by ktu_off1L) ho6 hh (dlt (by assumption)) (ult (by assumption)) ?_
  intro h8 tk8 ob8 fi la p8 t8 u8 F8 ho8 rm T8
  refine a_unp2 hh F8 T8 ?_
  intro h9 F9
  kpt_turns
  rename Fm g L _ _ _ => F10
  refine e_next G F10 (by ktu_off1L) ho8 hh (dlt (by assumption)) (ult (by assumption)) ?_
  intro h11 tk11 ob11 c11 t11 F11 ho11
  kpt_turns
  rename Fm g L _ _ _ => F12
  obtain ⟨na, hna⟩ : ∃ n : Nat, (1 : Int) + (c11 : Int) % 7 = n := ⟨1 + c11 % 7, by omega⟩
  have hna' : 0 < na ∧ na ≤ 7 := by omega
  refine e_bits G F12 (by ktu_off1L) ho11 hna (by omega) hh (dlt (by assumption)) (ult (by assumption)) ?_
  intro h13 tk13 ob13 Am vsa n13 am F13 ho13 Na lna ca
  cell_call
  rename Fm g L _ _ _ => F14
  refine s_ifj (fun s' => ∃ h' tk' ob' Am vsa n am o1 o2 o3, s' = At s h' tk' ∧ RowO ob' ∧ NA vsa am ∧ am.length = na ∧ (∀ c ∈ am, c ≤ 3) ∧ o1.data = .cell (some (.ref D)) ∧ o2.data = .cell (some (.int lsb t1)) ∧ o3.data = .cell (some (.int msb t0)) ∧
    Fm g L h' [("amount", .ref Am), ("first", .int fi t8), ("last", .int la u8), ("row", .ref row)] [(row, ob'), (Am, LO vsa n), (D, LO vsb n6), (c1, o1), (c2, o2), (c3, o3)]) ?_ ?_
  · kpt_turns
    refine e_next G F14 (by ktu_off1L) ho13 hh (dlt (by assumption)) (ult (by assumption)) ?_
    intro h15 tk15 ob15 c15 t15 F15 ho15
    kpt_turns
    refine i_dec (fun q => ?_) (fun q => ?_)
    · have hz := Na.length
      refine s_comp (by with_unfolding_all rfl) ?_
      kpt_turns
      refine c_list (vs := vsa) (fun i zs ext => ext = [] ∧ zs.length = i ∧ NA zs ((am.take i).map fun b => b % 2)) hh F15 (fun C h nm b F hb => F.lst (hb _ (.tail _ (.head _)))) (by omega) ⟨rfl, rfl, .nil⟩ (fun i ys ext x => x.2.1) ?_ ?_
      · rintro i v C h tk nm I oI p2 D2 zs k ext hi hvi ⟨rfl, hzl, hz2⟩ F
        have hi' : i < am.length := by omega
        obtain ⟨t, hvt⟩ := Na.get hi'
        rw [hvt] at hvi
        obtain rfl := Option.some.inj hvi
        simp only [List.nil_append] at F
        refine wpAny_assign_Name ?_
        kpt_turns
        rename Fm g C _ _ _ => F2
        refine CEl.mk [] F2 (by tb_rel) ⟨rfl, by simp [hzl], ?_⟩
        rw [← List.take_append_getElem hi', List.map_append, show ((am.getD i 0 : Nat) : Int) % 2 = ((am.getD i 0 % 2 : Nat) : Int) by omega]
        have e : am.getD i 0 = am[i] := by simp [List.getD_eq_getElem?_getD, hi']
        rw [e]
        exact hz2.snoc _ _
      · rintro D2 C oC h tk k zs ext ⟨rfl, hzl, hz2⟩ F z hn
        simp only [List.nil_append] at F
        refine cp_name (by kernel_rfl!) F z hn fun h2 tk2 F2 => ?_
        rw [hz, List.take_length] at hz2
        kpt_turns
        refine ⟨rfl, _, _, _, _, _, _, _, _, _, _, rfl, ho15, hz2, by simp [lna], ?_, d1', d2', d3', F2.sub _ _ (by tb_start) (by tb_rel)⟩
        intro c hc
        obtain ⟨b, _, rfl⟩ := List.mem_map.mp hc
        omega
    · exact ⟨_, _, _, _, _, _, _, _, _, _, rfl, ho15, Na, lna, ca, d1', d2', d3', F15.sub _ _ (by tb_start) (by tb_rel)⟩
  · rintro _ ⟨h16, tk16, ob16, Am, vsa, n16, am, oo1, oo2, oo3, rfl, ho16, Na, lna, ca, d1', d2', d3', F16⟩
    kpt_turns
    refine e_next G F16 (by ktu_off1L) ho16 hh (dlt (by assumption)) (ult (by assumption)) ?_
    intro h17 tk17 ob17 c17 t17 F17 ho17
    kpt_turns
    rename Fm g L _ _ _ => F18
    refine e_next G F18 (by ktu_off1L) ho17 hh (dlt (by assumption)) (ult (by assumption)) ?_
    intro h19 tk19 ob19 c19 t19 F19 ho19
    iterate 4 cell_call
    rename Fm g L _ _ _ => F20
    obtain ⟨wd, hwd⟩ : ∃ n : Nat, (1 : Int) + (c19 : Int) % 6 = n := ⟨1 + c19 % 6, by omega⟩
    rw [hwd] at F20
    exact K _ _ _ _ _ _ _ _ _ _ _ _ _ _ _ _ _ _ _ _ _ _ _ _ ⟨ho19, d1', ⟨_, d2'⟩, ⟨_, d3'⟩, Nb, by rw [lnb]; exact hnb.symm, cb, Na, by omega, ca, rg, rm, by omega⟩ F20
end

end
section
section
variable {prog : Program} {w : World} {A : Around} {E : Value → Shared → Prop} {s : Shared} {h g : Heap} {tk : Nat} {L c1 c2 c3 : Addr} {fnA : Addr} {cdV : Value} {l : List (Str × Value)} {bag b1 b2 b3 b4 : List (Addr × Obj)}
theorem Fm.ob {x C dx : Addr} {es : List DictEntry} {n : Nat} {al : List (Str × Value)} (F : Fm g L h l bag) (P : Pick (x, instObj C dx) bag b1) (P' : Pick (dx, dictOf es n) b1 b2) (R : Rep es al) : Ob h x C al := ⟨dx, es, n, F.hasP P, F.has (P.out.2.1 _ P'.out.1), R⟩
theorem e_addsig {des dd sl bp : Addr} {es : List DictEntry} {nd n : Nat} {ob : Obj} {vs : List Value} {kvs : List (Str × Value)} {path : Str} {tp : Tok} {kd wd sg mb lb at_ a1 a2 a3 a4 a5 a6 a7 a8 : Value} {Q : Value → Shared → Prop} (G : Gd w g) (F : Fm g L h l bag)
    (P1 : Pick (sl, LO vs n) bag b1) (P2 : Pick (bp, ob) b1 b2) (P3 : Pick (des, instObj 623 dd) b2 b3) (P4 : Pick (dd, dictOf es nd) b3 b4) (R : Rep es (desAL (.ref sl) (.ref bp) a1 a2 a3 a4 a5 a6 a7 a8)) (hd : SD prog w ob kvs) (hv : vs.length ≤ 100) (hk : kvs.length ≤ 100)
    (hh : A.handled = none) (hd' : A.depth + 8 < recursionLimit) (hu : A.units + 8 * 8 < cLine)
    (q : ∀ x dx es' nn n' ob' t h' tk', Fm g L h' l ((dx, dictOf es' nn) :: (x, instObj 560 dx) :: (sl, LO (vs ++ [.ref x]) n') :: (bp, ob') :: b2) → Rep es' (sigAL (.int vs.length t) (.str path tp) kd wd sg mb lb .none .none .none at_ (.bool false)) → (∃ v, SD prog w ob' (stored kvs path v)) → Q (.ref x) (At s h' tk')) :
    wpAny (model prog w) A (call (.ref 585) [.ref des, .str path tp, kd, wd, sg, mb, lb, at_]) Q E (At s h tk) := by
  have zb := isT_dict hd
  have m3 := P3.out.1
  have m4 := P3.out.2.1 _ P4.out.1
  have n1 := (P1.out.2.2 F.nd)
  have n2 := P2.out.2.2 n1.2
  have hS : ∀ h', KeepsBut h h' [sl, bp] → Ob h' des 623 (desAL (.ref sl) (.ref bp) a1 a2 a3 a4 a5 a6 a7 a8) := fun h' kb => by
    have off : ∀ q ∈ b2, isT q.2 = false → q.1 ∉ [sl, bp] := fun q hq z hm => by
      rcases List.mem_cons.mp hm with e | hm
      · exact n1.1 rfl q (P2.out.2.1 _ hq) z e
      · exact n2.1 zb q hq z (List.mem_singleton.mp hm)
    exact ⟨dd, es, nd, kb _ _ (F.has (P1.out.2.1 _ (P2.out.2.1 _ m3))) (off _ m3 rfl), kb _ _ (F.has (P1.out.2.1 _ (P2.out.2.1 _ m4))) (off _ m4 rfl), R⟩
  have f1 := F.bg _ P1.out.1
  have f2 := F.bg _ (P1.out.2.1 _ P2.out.1)
  have hne : sl ≠ bp := F.neP P1 P2 rfl zb
  refine wpAny_call (add_signal_spec (s := At s h tk) hS f1.1 f2.1 hd hne hv hk A g _ hh hd' hu G F.keep (fun a ha => ?_) ?_)
  · rcases List.mem_cons.mp ha with rfl | ha
    · exact (f1.2 rfl).2
    · rw [List.mem_singleton.mp ha]; exact (f2.2 zb).2
  · rintro _ h' tk' kb ⟨x, dx, es', nn, n', ob', rfl, x0, dx0, xd, hx, hdx, ⟨t, R'⟩, hsl, hbp, v, hob⟩
    have F1 := F.set2 P1 P2 kb hsl hbp rfl zb
    have hb : ∀ p ∈ ((sl, LO (vs ++ [.ref x]) n') :: (bp, ob') :: b2), ∃ o, h.get? p.1 = some o := by
      intro p hp
      rcases List.mem_cons.mp hp with rfl | hp
      · exact ⟨_, f1.1⟩
      rcases List.mem_cons.mp hp with rfl | hp
      · exact ⟨_, f2.1⟩
      · exact ⟨_, F.has (P1.out.2.1 _ (P2.out.2.1 _ hp))⟩
    have F2 := F1.addN F hb x0 hx
    refine q x dx es' nn n' ob' t h' tk' (F2.add hdx fun _ => ⟨F.new dx0, F.fresh dx0, fun p hp _ => ?_⟩) R' ⟨v, hob⟩
    rcases List.mem_cons.mp hp with rfl | hp
    · exact xd
    · intro e
      obtain ⟨o, ho⟩ := hb p hp
      have dx0' : h.get? dx = none := dx0
      rw [e, dx0'] at ho; cases ho
/-- new objects of a made object -/
theorem Fm.add2 {h1 : Heap} {bag0 : List (Addr × Obj)} {l0 : List (Str × Value)} (F : Fm g L h l bag) (F0 : Fm g L h1 l0 bag0) (hb : ∀ p ∈ bag, ∃ o, h1.get? p.1 = some o) {a b : Addr} {oa ob : Obj} (ea : h.get? a = some oa) (eb : h.get? b = some ob) (na : h1.get? a = none) (nb : h1.get? b = none) (hne : a ≠ b) :
    Fm g L h l ((a, oa) :: (b, ob) :: bag) := by
  refine (F.addN F0 hb nb eb).add ea fun _ => ⟨F0.new na, F0.fresh na, fun p hp _ e => ?_⟩
  rcases List.mem_cons.mp hp with rfl | hp
  · exact hne e.symm
  · obtain ⟨o, ho⟩ := hb p hp
    rw [e, na] at ho; cases ho
/-- a signal among the objects -/
def SigB (b : List (Addr × Obj)) (x : Addr) (key width msb lsb : Int) (first last : Value) : Prop := ∃ t0 t1 t2 t3 t4 path sg init at_ sc dx es n, (x, instObj 560 dx) ∈ b ∧ (dx, dictOf es n) ∈ b ∧ Rep es (sigAL (.int key t0) path (.str "reg" t1) (.int width t2) sg (.int msb t3) (.int lsb t4) first last init at_ sc)
/-- the design and the store among the objects -/
def StatB (b : List (Addr × Obj)) (st sigs vals mems sv sm : Addr) (nb : Nat) (msb lsb fi la : Int) : Prop :=
  (∃ t dst es n, (st, instObj 665 dst) ∈ b ∧ (dst, dictOf es n) ∈ b ∧ Rep es [("signals", .ref sigs), ("values", .ref vals), ("memories", .ref mems), ("random_seed", .int 1 t)]) ∧ (∃ n, (sigs, LO [.ref sv, .ref sm] n) ∈ b) ∧
  (∃ x y, SigB b sv 0 nb msb lsb x y) ∧ ∃ c d t1 t2, SigB b sm 1 3 c d (.int fi t1) (.int la t2)
theorem SigB.sig {b : List (Addr × Obj)} {x : Addr} {key width msb lsb : Int} {first last : Value} (S : SigB b x key width msb lsb first last) (k : ∀ p ∈ b, isT p.2 = false → h.get? p.1 = some p.2) : SigO h x key width msb lsb first last := by
  obtain ⟨t0, t1, t2, t3, t4, path, sg, init, at_, sc, dx, es, n, m1, m2, R⟩ := S
  exact ⟨t0, t1, t2, t3, t4, path, sg, init, at_, sc, dx, es, n, k _ m1 rfl, k _ m2 rfl, R⟩
theorem StatB.stat {b : List (Addr × Obj)} {st sigs vals mems sv sm : Addr} {nb : Nat} {msb lsb fi la : Int} (S : StatB b st sigs vals mems sv sm nb msb lsb fi la) (k : ∀ p ∈ b, isT p.2 = false → h.get? p.1 = some p.2) : Stat h st sigs vals mems sv sm nb msb lsb fi la := by
  obtain ⟨⟨t, dst, es, n, m1, m2, R⟩, ⟨n2, m3⟩, ⟨x, y, S1⟩, c, d, t1, t2, S2⟩ := S
  exact ⟨⟨t, dst, es, n, k _ m1 rfl, k _ m2 rfl, R⟩, ⟨_, k _ m3 rfl, rfl, n2, rfl⟩, ⟨x, y, S1.sig k⟩, c, d, t1, t2, S2.sig k⟩
/-- what stays when one object of the bag turns -/
theorem StatB.but {b : List (Addr × Obj)} {st sigs vals mems sv sm : Addr} {nb : Nat} {msb lsb fi la : Int} (S : StatB b st sigs vals mems sv sm nb msb lsb fi la) (F : Fm g L h l bag) {m : Addr} {om : Obj} (P : Pick (m, om) bag b1) (z : isT om = false) (hb : ∀ p ∈ b, p ∈ b1) :
    ∀ h', KeepsBut h h' [m] → Stat h' st sigs vals mems sv sm nb msb lsb fi la := fun h' kb =>
  S.stat fun p hp zp => kb _ _ (F.has (P.out.2.1 _ (hb p hp))) fun q => (P.out.2.2 F.nd).1 z p (hb p hp) zp (List.mem_singleton.mp q)
end

end
section
section
variable {prog : Program} {w : World} {A : Around} {E : Value → Shared → Prop} {s : Shared} {h g : Heap} {tk : Nat} {L c1 c2 c3 : Addr} {fnA : Addr} {cdV : Value}
theorem seg2 {row D Am : Addr} {ob o1 o2 o3 : Obj} {vsb vsa : List Value} {nb na wd : Nat} {lb am : List Nat} {msb lsb fi la : Int} {t3 t4 tw : Tok} {sg : Bool} {Q : Flow → Shared → Prop} (hh : A.handled = none) (hd : A.depth + 100 < recursionLimit) (hu : A.units + 8 * 100 < cLine) (G : Gd w g)
    (X : Drawn ob o1 o2 o3 D vsb vsa lb am msb lsb fi la wd)
    (F : Fm g L h [("wide", .int wd tw), ("signed", .bool sg), ("amount", .ref Am), ("first", .int fi t3), ("last", .int la t4), ("row", .ref row)] [(row, ob), (Am, LO vsa na), (D, LO vsb nb), (c1, o1), (c2, o2), (c3, o3)])
    (K : ∀ h' tk' st sigs vals mems sv sm words base, StatB base st sigs vals mems sv sm lb.length msb lsb fi la → (words == sysModules) = false → (mems == sysModules) = false → (vals == sysModules) = false →
      Fm g L h' [("words", .ref words), ("store", .ref st), ("memory", .ref sm), ("vector", .ref sv), ("wide", .int wd tw), ("signed", .bool sg), ("amount", .ref Am), ("first", .int fi t3), ("last", .int la t4), ("row", .ref row)]
        ((row, ob) :: (words, emptyDict) :: (mems, emptyDict) :: (vals, emptyDict) :: (Am, LO vsa na) :: (D, LO vsb nb) :: (c1, o1) :: (c2, o2) :: (c3, o3) :: base) →
      wpAny (model prog w) A (execs (lawB w 15) (lawE w fnA cdV L c1 c2 c3)) Q E (At s h' tk')) :
    wpAny (model prog w) A (execs (lawB w 8) (lawE w fnA cdV L c1 c2 c3)) Q E (At s h tk) := by
  have d1 := X.d1
  obtain ⟨u2, d2⟩ := X.d2
  obtain ⟨u3, d3⟩ := X.d3
  have hlen : vsb.length = lb.length := X.nb.length
  have hlb : lb.length ≤ 20 := by
    have hl := X.lnb
    have := X.rg
    split at hl <;> omega
  unfold lawB
  conv in List.drop _ _ => whnf
  unfold lawE
  kpt_turns
  refine m_make (fun h1 h2 es => ∃ sl bp a1 a2 a3 a4 a5 a6 a7 a8 n2, Rep es (desAL (.ref sl) (.ref bp) a1 a2 a3 a4 a5 a6 a7 a8) ∧ h2.get? sl = some (LO [] n2) ∧ h2.get? bp = some emptyDict ∧ h1.get? sl = none ∧ h1.get? bp = none ∧ sl ≠ bp) G F hh (k := 1) (by omega) (by omega) (by k_is) (by k_is) (by k_is)
    (fun s' x dx e1 e2 e3 _ => design_init_spec x dx e1 e2 e3) ?_
  rintro x dx h1 h2 tk2 es n F2 ⟨sl, bp, a1, a2, a3, a4, a5, a6, a7, a8, n2, R, e1, e2, e3, e4, e5⟩ hst hall hx0 hdx0
  have F3 := F2.add2 (F.grow hst) hall e1 e2 e3 e4 e5
  clear F2 hst hall hx0 hdx0 e1 e2 e3 e4 e5
  kpt_turns
  rename Fm g L _ _ _ => F4
  refine g_meth G F4 (F4.ob (by ktu_off1L) (by ktu_off1L) R) (by kernel_rfl!) (by k_is) (by k_is) (by k_is) ?_
  kpt_turns
  rename Fm g L _ _ _ => F5
  with_reducible refine b_len (F5.lstP (by ktu_off1L)) (by rw [sizeLine_eq]; omega) ?_
  intro tl _
  rw [hlen]
  kpt_turns
  rename Fm g L _ _ _ => F6
  refine e_addsig G F6 (sl := sl) (bp := bp) (by ktu_off1L) (by ktu_off1L) (by ktu_off1L) (by ktu_off1L) R dict_new (by simp) (by simp) hh (dlt (by assumption)) (ult (by assumption)) ?_
  intro sv dsv esv nsv nsl ob7 t7 h7 tk7 F7 Rv hob7
  obtain ⟨v7, hob7⟩ := hob7
  clear F6
  kpt_turns
  rename Fm g L _ _ _ => F8
  refine g_meth G F8 (F8.ob (x := x) (by ktu_off1L) (by ktu_off1L) R) (by kernel_rfl!) (by k_is) (by k_is) (by k_is) ?_
  kpt_turns
  rename Fm g L _ _ _ => F9
  refine e_addsig G F9 (sl := sl) (bp := bp) (by ktu_off1L) (by ktu_off1L) (by ktu_off1L) (by ktu_off1L) R hob7 (by simp) (Nat.le_trans (stored_length_le _ _ _) (by decide)) hh (dlt (by assumption)) (ult (by assumption)) ?_
  intro sm dsm esm nsm nsl' ob10 t10 h10 tk10 F10 Rm hob10
  kpt_turns
  rename Fm g L _ _ _ => F11
  refine g_set G F11 (by ktu_off1L) (F11.hasP (by ktu_off1L)) Rm (Nat.le_of_ble_eq_true (by kernel_rfl!)) (by k_is) (by k_is) (by k_is) (by k_is) ?_
  intro h12 tk12 esm nsm F12 Rm
  kpt_turns
  rename Fm g L _ _ _ => F13
  refine g_set G F13 (by ktu_off1L) (F13.hasP (by ktu_off1L)) Rm (Nat.le_of_ble_eq_true (by kernel_rfl!)) (by k_is) (by k_is) (by k_is) (by k_is) ?_
  intro h14 tk14 esm nsm F14 Rm
  kpt_turns
  rename Fm g L _ _ _ => F15
  refine g_attr G F15 (F15.ob (x := x) (by ktu_off1L) (by ktu_off1L) R) (by lcg_off) rfl (by k_is) (by k_is) (by k_is) (by k_is) ?_
  intro _
  kpt_turns
  refine m_make (fun h1 h2 es => ∃ vals mems t, Rep es [("signals", .ref sl), ("values", .ref vals), ("memories", .ref mems), ("random_seed", .int 1 t)] ∧
      h2.get? vals = some emptyDict ∧ h2.get? mems = some emptyDict ∧ h1.get? vals = none ∧ h1.get? mems = none ∧ vals ≠ mems ∧ (vals == sysModules) = false ∧ (mems == sysModules) = false) G F15 hh (k := 1) (by omega) (by omega) (by k_is) (by k_is) (by k_is)
    (fun s' x dx e1 e2 e3 _ => store_init_spec x dx sl e1 e2 e3) ?_
  rintro st dst h16 h17 tk17 est nst F17 ⟨vals, mems, ts, Rs, e1, e2, e3, e4, e5, e6, e7⟩ hst hall _ _
  have F18 := F17.add2 (F15.grow hst) hall e1 e2 e3 e4 e5
  clear F17 hst hall e1 e2 e3 e4 e5
  iterate 4 cell_call
  rename Fm g L _ _ _ => F19
  rename (_ == sysModules) = false => e8
  refine K _ _ st sl vals mems sv sm _ [(st, instObj 665 dst), (dst, dictOf est nst), (sl, LO [.ref sv, .ref sm] nsl'), (sv, instObj 560 dsv), (dsv, dictOf esv nsv), (sm, instObj 560 dsm), (dsm, dictOf esm nsm)] ?_ e8 e7 e6 (F19.sub _ _ (by tb_start) (by tb_rel))
  refine ⟨⟨ts, dst, est, nst, .head _, .tail _ (.head _), Rs⟩, ⟨nsl', .tail _ (.tail _ (.head _))⟩, ⟨_, _, _, _, _, _, _, _, _, _, _, _, dsv, esv, nsv, .tail _ (.tail _ (.tail _ (.head _))), .tail _ (.tail _ (.tail _ (.tail _ (.head _)))), Rv⟩,
    2, 0, t3, t4, _, _, _, _, _, _, _, _, _, _, dsm, esm, nsm, .tail _ (.tail _ (.tail _ (.tail _ (.tail _ (.head _))))), .tail _ (.tail _ (.tail _ (.tail _ (.tail _ (.tail _ (.head _)))))), Rm⟩
end

end
section
theorem valueAt_store {K : Type} [DecidableEq K] : ∀ (kvs : List (K × Value)) (k j : K) (v : Value), valueAt (stored kvs k v) j = if j = k then some v else valueAt kvs j := by
  intro kvs k j v
  have h1 : ∀ l : List (K × Value), valueAt (l ++ [(k, v)]) j = (valueAt l j).or (if j = k then some v else none) := by
    intro l
    induction l with
    | nil => by_cases e : k = j <;> simp [valueAt, e, eq_comm]
    | cons p r ih => by_cases e : p.1 = j <;> simp_all [valueAt]
  have h2 : ∀ l : List (K × Value), valueAt (l.map fun kv => if kv.1 = k then (kv.1, v) else kv) j = if j = k then (valueAt l j).map (fun _ => v) else valueAt l j := by
    intro l
    induction l with
    | nil => simp [valueAt]
    | cons p r ih =>
      by_cases e : p.1 = k <;> by_cases e2 : p.1 = j <;> by_cases e3 : j = k <;> simp_all [valueAt]
  have h3 : ∀ l : List (K × Value), (l.any fun kv => kv.1 = k) = (valueAt l k).isSome := by
    intro l
    induction l with
    | nil => rfl
    | cons p r ih => by_cases e : p.1 = k <;> simp_all [valueAt]
  unfold stored
  rw [h3]
  cases hv : valueAt kvs k with
  | none =>
    rw [if_neg (by simp), h1]
    by_cases e : j = k
    · subst e; rw [hv]; simp
    · simp [e]
  | some u =>
    rw [if_pos (by simp), h2]
    by_cases e : j = k
    · subst e; rw [hv]; simp
    · simp [e]
/-- the memory's dicts -/
def MemI (prog : Program) (w : World) (om : Obj) (inn : Option (Addr × Obj)) (ext : List (Addr × Obj)) (cells : Int → List Nat) (i : Nat) : Prop := match inn with
  | none => ID prog w om [] ∧ ∀ k, cells k = xxx
  | some p => (p.1 == sysModules) = false ∧ ID prog w om [((1 : Int), Value.ref p.1)] ∧ ∃ kvi, ID prog w p.2 kvi ∧ kvi.length ≤ i ∧ ∀ k, (valueAt kvi k = none ∧ cells k = xxx) ∨ ∃ r o, valueAt kvi k = some (.ref r) ∧ VO o (cells k) ∧ (r, o) ∈ ext
section
variable {prog : Program} {w : World} {A : Around} {E : Value → Shared → Prop} {s : Shared} {h g : Heap} {tk : Nat} {L : Addr} {l : List (Str × Value)} {bag : List (Addr × Obj)}
theorem e_setmem {st sigs vals mems sv sm p : Addr} {nb i : Nat} {lw : List Nat} {msb lsb fi la k : Int} {om : Obj} {inn : Option (Addr × Obj)} {ext base : List (Addr × Obj)} {cells : Int → List Nat} {t t' t'' : Tok} {Q : Value → Shared → Prop} (G : Gd w g)
    (F : Fm g L h l ((mems, om) :: (inn.toList ++ bag))) (S : StatB base st sigs vals mems sv sm nb msb lsb fi la) (hb : ∀ q ∈ base, q ∈ bag) (he : ∀ q ∈ ext, q ∈ bag) (M : MemI prog w om inn ext cells i) (hi : i ≤ 50) (hm : (mems == sysModules) = false)
    (hcl : ∀ j, (cells j).length = 3 ∧ ∀ c ∈ cells j, c ≤ 3) (hl : lw.length = 3) (hc : ∀ c ∈ lw, c ≤ 3) (hp : VecL h p lw) (hk : 0 ≤ k ∧ k < (if la - fi < 0 then -(la - fi) else la - fi) + 1)
    (hh : A.handled = none) (hd' : A.depth + 9 < recursionLimit) (hu : A.units + 8 * 9 < cLine)
    (q : ∀ v h' tk' om' inn' tups, Fm g L h' l ((mems, om') :: (inn'.toList ++ (tups ++ bag))) → MemI prog w om' inn' (tups ++ ext) (fun j => if j = k then lw else cells j) (i + 1) → Q v (At s h' tk')) :
    wpAny (model prog w) A (call (.ref 662) [.ref st, .int 1 t, .int k t'', .int 0 t', .ref p]) Q E (At s h tk) := by
  cases inn with
  | none =>
    obtain ⟨hd, hx⟩ := M
    have F0 : Fm g L h l ((mems, om) :: bag) := F
    have f := F0.bg _ (.head _)
    have z := isT_dict hd
    refine wpAny_call (set_new_spec (s := At s h tk) t t' t'' p (S.but F0 .here z hb) hl hc f.1 hd hm hp hk A g _ hh hd' hu G F.keep (fun a ha => by rw [List.mem_singleton.mp ha]; exact (f.2 z).2) ?_)
    rintro r h' tk' kb ⟨om', e, P⟩
    have F1 := F0.set .here kb e z
    rcases P with ⟨hd2, rfl⟩ | ⟨inner, oi, r', hd2, e2, n2, hm2, hd3, V⟩
    · refine q _ h' tk' om' none [] F1 ⟨hd2, fun j => ?_⟩
      dsimp only
      split
      · rfl
      · exact hx j
    · have F2 := F1.addN F0 (fun p hp => ?_) n2 e2
      · obtain ⟨o, ho, F3⟩ := F2.vec V
        refine q _ h' tk' om' (some (inner, oi)) [(r', o)] (F3.subb _ (by tb_rel)) ⟨hm2, hd2, _, hd3, by simp, fun j => ?_⟩
        dsimp only
        by_cases e3 : j = k
        · subst e3
          exact .inr ⟨r', o, by simp [valueAt], by rw [if_pos rfl]; exact ho, .head _⟩
        · exact .inl ⟨by simp [valueAt, Ne.symm e3], by rw [if_neg e3]; exact hx j⟩
      · rcases List.mem_cons.mp hp with rfl | hp
        · exact ⟨_, f.1⟩
        · exact ⟨_, F0.has (.tail _ hp)⟩
  | some pi =>
    obtain ⟨inner, oi⟩ := pi
    obtain ⟨hm2, hdm, kvi, hdi, hz, hcells⟩ := M
    have F0 : Fm g L h l ((mems, om) :: (inner, oi) :: bag) := F
    have f := F0.bg _ (.tail _ (.head _))
    have z := isT_dict hdi
    have zm := isT_dict hdm
    have ne : mems ≠ inner := F0.neP .here .here zm z
    refine wpAny_call (set_old_spec (s := At s h tk) (cells := cells) t t' t'' p (fun h' kb => ⟨S.but F0 (.there .here) z (fun p hp => .tail _ (hb p hp)) h' kb, kb _ _ (F0.has (.head _)) (by simpa using ne)⟩) hl hc hdm hm f.1 hdi (by omega) hm2
      (fun j => (hcells j).imp id fun ⟨r, o, e, v, m⟩ => ⟨r, e, v.vec (F0.has (.tail _ (.tail _ (he _ m))))⟩) hcl hp hk A g _ hh hd' hu G F.keep (fun a ha => by rw [List.mem_singleton.mp ha]; exact (f.2 z).2) ?_)
    rintro r h' tk' kb ⟨oi', e, kvi', hd2, P⟩
    have F1 := F0.set (.there .here) kb e z
    rcases P with ⟨rfl, rfl⟩ | ⟨r', rfl, V⟩
    · refine q _ h' tk' om (some (inner, oi')) [] (F1.subb _ (by tb_rel)) ⟨hm2, hdm, _, hd2, by omega, fun j => ?_⟩
      dsimp only
      by_cases e3 : j = k
      · subst e3; rw [if_pos rfl]; exact hcells j
      · rw [if_neg e3]; exact hcells j
    · obtain ⟨o, ho, F3⟩ := F1.vec V
      refine q _ h' tk' om (some (inner, oi')) [(r', o)] (F3.subb _ (by tb_rel)) ⟨hm2, hdm, _, hd2, Nat.le_trans (stored_length_le _ _ _) (by omega), fun j => ?_⟩
      dsimp only
      rw [valueAt_store]
      by_cases e3 : j = k
      · subst e3; rw [if_pos rfl, if_pos rfl]; exact .inr ⟨r', o, rfl, ho, .head _⟩
      · rw [if_neg e3, if_neg e3]
        exact (hcells j).imp id fun ⟨r, o, e, v, m⟩ => ⟨r, o, e, v, .tail _ m⟩
end

end
section
/-- the words loop's state -/
structure LS where
  (ob ow om : Obj) (inn : Option (Addr × Obj)) (ext : List (Addr × Obj)) (kvw : List (Int × Value)) (cells : Int → List Nat)
/-- what the words loop keeps -/
structure LI (prog : Program) (w : World) (fi la : Int) (i : Nat) (x : LS) : Prop where
  row : RowO x.ob
  wd : ID prog w x.ow x.kvw ∧ x.kvw.length ≤ i
  mem : MemI prog w x.om x.inn x.ext x.cells i
  wds : ∀ k, (valueAt x.kvw k = none ∧ x.cells k = xxx) ∨ ∃ r vs n, valueAt x.kvw k = some (.ref r) ∧ (r, LO vs n) ∈ x.ext ∧ NA vs (x.cells k)
  cel : ∀ k, (x.cells k).length = 3 ∧ ∀ c ∈ x.cells k, c ≤ 3
  out : ∀ k, ¬ (0 ≤ k ∧ k < (if fi - la < 0 then -(fi - la) else fi - la) + 1) → x.cells k = xxx
theorem MemI.mono {prog : Program} {w : World} {om : Obj} {inn : Option (Addr × Obj)} {ext ext' : List (Addr × Obj)} {cells : Int → List Nat} {i : Nat} (M : MemI prog w om inn ext cells i) (h : ∀ p ∈ ext, p ∈ ext') : MemI prog w om inn ext' cells i := by
  cases inn with
  | none => exact M
  | some p =>
    obtain ⟨a, b, kvi, c, d, e⟩ := M
    exact ⟨a, b, kvi, c, d, fun k => (e k).imp id fun ⟨r, o, x, y, z⟩ => ⟨r, o, x, y, h _ z⟩⟩
section
variable {prog : Program} {w : World} {A : Around} {E : Value → Shared → Prop} {s : Shared} {h g : Heap} {tk : Nat} {L c1 c2 c3 : Addr} {fnA : Addr} {cdV : Value}
theorem Fm.mvInn {l : List (Str × Value)} {inn : Option (Addr × Obj)} {m x a r i : Addr × Obj} {e : List (Addr × Obj)} (F : Fm g L h l (m :: x :: a :: r :: i :: (inn.toList ++ e))) : Fm g L h l (m :: (inn.toList ++ (x :: a :: r :: i :: e))) := by
  cases inn with
  | none => exact F
  | some q =>
    rw [Option.toList_some, List.cons_append, List.nil_append] at F ⊢
    exact F.subb _ (.cons .here (.cons (.there (.there (.there (.there .here)))) .refl))
abbrev lsBag (row words mems : Addr) (rest : List (Addr × Obj)) (x : LS) : List (Addr × Obj) := (row, x.ob) :: (words, x.ow) :: (mems, x.om) :: (x.inn.toList ++ (x.ext ++ rest))
theorem seg3 {row D Am st sigs vals mems sv sm words : Addr} {ob o1 o2 o3 : Obj} {vsb vsa : List Value} {nb na wd : Nat} {lb am : List Nat} {msb lsb fi la : Int} {t3 t4 tw : Tok} {sg : Bool} {base : List (Addr × Obj)} {Q : Flow → Shared → Prop} (hh : A.handled = none) (hd : A.depth + 100 < recursionLimit) (hu : A.units + 8 * 100 < cLine) (G : Gd w g)
    (X : Drawn ob o1 o2 o3 D vsb vsa lb am msb lsb fi la wd) (S : StatB base st sigs vals mems sv sm lb.length msb lsb fi la) (m1 : (words == sysModules) = false) (m2 : (mems == sysModules) = false)
    (F : Fm g L h [("words", .ref words), ("store", .ref st), ("memory", .ref sm), ("vector", .ref sv), ("wide", .int wd tw), ("signed", .bool sg), ("amount", .ref Am), ("first", .int fi t3), ("last", .int la t4), ("row", .ref row)]
        ((row, ob) :: (words, emptyDict) :: (mems, emptyDict) :: (vals, emptyDict) :: (Am, LO vsa na) :: (D, LO vsb nb) :: (c1, o1) :: (c2, o2) :: (c3, o3) :: base))
    (K : ∀ h' tk' n x, n ≤ 4 → LI prog w fi la n x →
      Fm g L h' [("words", .ref words), ("store", .ref st), ("memory", .ref sm), ("vector", .ref sv), ("wide", .int wd tw), ("signed", .bool sg), ("amount", .ref Am), ("first", .int fi t3), ("last", .int la t4), ("row", .ref row)]
        (lsBag row words mems ((vals, emptyDict) :: (Am, LO vsa na) :: (D, LO vsb nb) :: (c1, o1) :: (c2, o2) :: (c3, o3) :: base) x) →
      wpAny (model prog w) A (execs (lawB w 16) (lawE w fnA cdV L c1 c2 c3)) Q E (At s h' tk')) :
    wpAny (model prog w) A (execs (lawB w 15) (lawE w fnA cdV L c1 c2 c3)) Q E (At s h tk) := by
  have ho := X.row
  have rm := X.rm
  generalize hrest : ((vals, emptyDict) :: (Am, LO vsa na) :: (D, LO vsb nb) :: (c1, o1) :: (c2, o2) :: (c3, o3) :: base) = rest at F K
  have hbr : ∀ q ∈ base, q ∈ rest := by intro q hq; rw [← hrest]; exact .tail _ (.tail _ (.tail _ (.tail _ (.tail _ (.tail _ hq)))))
  unfold lawB
  conv in List.drop _ _ => whnf
  unfold lawE
  kpt_turns
  refine e_next G F (by ktu_off1L) ho hh (dlt (by assumption)) (ult (by assumption)) ?_
  intro h1 tk1 ob1 c1' t1 F1 ho1
  kpt_turns
  obtain ⟨N, hN⟩ : ∃ n : Nat, (1 : Int) + (c1' : Int) % 4 = n := ⟨1 + c1' % 4, by omega⟩
  have hN4 : N ≤ 4 := by omega
  refine l_range (n := N) (σ := LS) (fun _ => [("words", .ref words), ("store", .ref st), ("memory", .ref sm), ("vector", .ref sv), ("wide", .int wd tw), ("signed", .bool sg), ("amount", .ref Am), ("first", .int fi t3), ("last", .int la t4), ("row", .ref row)]) (lsBag row words mems rest)
    (LI prog w fi la) ⟨ob1, emptyDict, emptyDict, none, [], [], fun _ => xxx⟩ (by assumption) (by kernel_rfl!) hN (by omega) F1 (by tb_start) (by tb_rel) ⟨ho1, ⟨dict_new, Nat.le_refl _⟩, ⟨dict_new, fun _ => rfl⟩, fun _ => .inl ⟨rfl, rfl⟩, fun _ => ⟨rfl, (by decide : ∀ c ∈ xxx, c ≤ 3)⟩, fun _ _ => rfl⟩ ?_ ?_
  · rintro i t ⟨ob, ow, om, inn, ext, kvw, cells⟩ h tk I oI hi J F
    obtain ⟨ho, ⟨hw, hwl⟩, hmem, hwds, hcel, hout⟩ := J
    dsimp only at ho hw hwl hmem hwds hcel hout
    unfold lsBag at F
    dsimp only at F
    kpt_turns
    refine e_next G F (by ktu_off1L) ho hh (dlt (by assumption)) (ult (by assumption)) ?_
    intro h2 tk2 ob2 c2' t2 F2 ho2
    kpt_turns
    with_reducible refine b_abs ?_
    intro _ _
    kpt_turns
    refine o_mod (by split <;> omega) ?_
    intro _ _
    kpt_turns
    rename Fm g L _ _ _ => F3
    obtain ⟨sp, hsp⟩ : ∃ n : Int, (c2' : Int) % ((if fi - la < 0 then -(fi - la) else fi - la) + 1) = n := ⟨_, rfl⟩
    have hsp' : 0 ≤ sp ∧ sp < (if fi - la < 0 then -(fi - la) else fi - la) + 1 := by
      rw [← hsp]; exact ⟨Int.emod_nonneg _ (by split <;> omega), Int.emod_lt_of_pos _ (by split <;> omega)⟩
    have hsp2 : 0 ≤ sp ∧ sp < (if la - fi < 0 then -(la - fi) else la - fi) + 1 := by
      refine ⟨hsp'.1, ?_⟩
      have := hsp'.2
      split at this <;> split <;> omega
    rw [hsp] at F3
    refine e_bits (wd := 3) G F3 (by ktu_off1L) ho2 rfl (by decide) hh (dlt (by assumption)) (ult (by assumption)) ?_
    intro h4 tk4 ob4 a vs4 n4 lw F4 ho4 Nw lw3 cw
    kpt_turns
    refine d_set F4 (d := words) (by ktu_off1L) hw (by omega) ?_
    intro h5 tk5 ow5 F5 hw5
    kpt_turns
    obtain ⟨⟨ts, Is⟩, _, _, cc, dd, u1, u2, S4⟩ := S.stat (h := h5) (fun q hq _ => (F5.bg q (by simp [hbr q hq])).1)
    obtain ⟨q0, q1, q2, q3, q4, q5, q6, q7, q8, q9, I4⟩ := S4
    refine g_meth G F5 Is (by kernel_rfl!) (by k_is) (by k_is) (by k_is) ?_
    kpt_turns
    refine g_attr G F5 I4 (by lcg_off) rfl (by k_is) (by k_is) (by k_is) (by k_is) ?_
    intro _
    kpt_turns
    refine d_item (F5.hasP (by ktu_off1L)) hw5 (by rw [valueAt_store, if_pos rfl]) ?_
    intro _
    kpt_turns
    refine e_spec0 (made_spec a vs4 lw (F5.lstP (by ktu_off1L)) Nw (by omega) cw) G F5 hh (dlt (by assumption)) (ult (by assumption)) ?_
    rintro _ h6 tk6 F6 _ ⟨p, rfl, V6⟩
    have F7 := (F6.subb ((mems, om) :: (words, ow5) :: (a, LO vs4 n4) :: (row, ob4) :: (I, oI) :: (inn.toList ++ (ext ++ rest))) (by tb_rel)).mvInn
    clear F6
    kpt_turns
    refine e_setmem G F7 S (fun q hq => by simp [hbr q hq]) (ext := ext) (fun q hq => by simp [hq]) hmem (by omega) m2 hcel lw3 cw V6 hsp2 hh (dlt (by assumption)) (ult (by assumption)) ?_
    intro v h8 tk8 om8 inn8 tups F8 M8
    kpt_turns
    have F9 := F8.subb ((I, oI) :: (row, ob4) :: (words, ow5) :: (mems, om8) :: (inn8.toList ++ (tups ++ ((a, LO vs4 n4) :: (ext ++ rest))))) (.cons (.there (.app (.app (.there (.there (.there .here))) tups) inn8.toList)) (.cons (.there (.app (.app (.there (.there .here)) tups) inn8.toList)) (.cons (.there (.app (.app .here tups) inn8.toList)) (.cons .here .refl))))
    refine Turn.next (⟨ob4, ow5, om8, inn8, tups ++ ((a, LO vs4 n4) :: ext), stored kvw sp (.ref a), fun j => if j = sp then lw else cells j⟩ : LS) F9 (by tb_start) (by unfold lsBag; dsimp only; rw [List.append_assoc, List.cons_append]; exact Sel.refl) ⟨ho4, ⟨hw5, Nat.le_trans (stored_length_le _ _ _) (by omega)⟩, M8.mono ?_, ?_, ?_, ?_⟩
    · intro q hq
      rcases List.mem_append.mp hq with hq | hq
      · exact List.mem_append_left _ hq
      · exact List.mem_append_right _ (.tail _ hq)
    · intro j
      dsimp only
      rw [valueAt_store]
      by_cases e : j = sp
      · rw [if_pos e, if_pos e]
        exact .inr ⟨a, vs4, n4, rfl, List.mem_append_right _ (.head _), Nw⟩
      · rw [if_neg e, if_neg e]
        exact (hwds j).imp id fun ⟨r, vs, n, e1, e2, e3⟩ => ⟨r, vs, n, e1, List.mem_append_right _ (.tail _ e2), e3⟩
    · intro j
      dsimp only
      by_cases e : j = sp
      · rw [if_pos e]; exact ⟨lw3, cw⟩
      · rw [if_neg e]; exact hcel j
    · intro j hj
      dsimp only
      rw [if_neg (fun e => hj (by rw [e]; exact hsp'))]
      exact hout j hj
  · rintro x h tk J F
    cell_call
    exact K _ _ N x hN4 J F
end

end
section
section
variable {prog : Program} {w : World} {A : Around} {E : Value → Shared → Prop} {s : Shared} {h g : Heap} {tk : Nat} {L c1 c2 c3 : Addr} {fnA : Addr} {cdV : Value}
theorem Fm.lsOut {l : List (Str × Value)} {row words mems : Addr} {v1 v2 v3 v4 v5 v6 : Addr × Obj} {base : List (Addr × Obj)} {x : LS} (F : Fm g L h l (lsBag row words mems (v1 :: v2 :: v3 :: v4 :: v5 :: v6 :: base) x)) :
    Fm g L h l ((row, x.ob) :: v1 :: v2 :: v3 :: v4 :: v5 :: v6 :: (words, x.ow) :: (mems, x.om) :: (x.inn.toList ++ (x.ext ++ base))) :=
  F.subb _ (.cons .here (.cons (.there (.there (.app (.app .here x.ext) x.inn.toList))) (.cons (.there (.there (.app (.app .here x.ext) x.inn.toList))) (.cons (.there (.there (.app (.app .here x.ext) x.inn.toList)))
    (.cons (.there (.there (.app (.app .here x.ext) x.inn.toList))) (.cons (.there (.there (.app (.app .here x.ext) x.inn.toList))) (.cons (.there (.there (.app (.app .here x.ext) x.inn.toList))) .refl)))))))
theorem seg4 {row D Am st sigs vals mems sv sm words : Addr} {ob o1 o2 o3 : Obj} {vsb vsa : List Value} {nb na wd n : Nat} {lb am : List Nat} {msb lsb fi la : Int} {t3 t4 tw : Tok} {sg : Bool} {base : List (Addr × Obj)} {x : LS} {Q : Flow → Shared → Prop} (hh : A.handled = none) (hd : A.depth + 100 < recursionLimit) (hu : A.units + 8 * 100 < cLine) (G : Gd w g)
    (X : Drawn ob o1 o2 o3 D vsb vsa lb am msb lsb fi la wd) (S : StatB base st sigs vals mems sv sm lb.length msb lsb fi la) (m2 : (mems == sysModules) = false) (m3 : (vals == sysModules) = false) (hn : n ≤ 4) (J : LI prog w fi la n x)
    (F : Fm g L h [("words", .ref words), ("store", .ref st), ("memory", .ref sm), ("vector", .ref sv), ("wide", .int wd tw), ("signed", .bool sg), ("amount", .ref Am), ("first", .int fi t3), ("last", .int la t4), ("row", .ref row)]
        (lsBag row words mems ((vals, emptyDict) :: (Am, LO vsa na) :: (D, LO vsb nb) :: (c1, o1) :: (c2, o2) :: (c3, o3) :: base) x))
    (K : ∀ h' tk' ctx const ow kvw cells ob, RowO ob → (∀ h, (∀ p ∈ const, h.get? p.1 = some p.2) → Ctx prog w h ctx lb cells msb lsb fi la ∧ h.IsList D vsb.toArray ∧ h.IsList Am vsa.toArray ∧ (∃ c d e f, SigO h sv 0 lb.length c d e f) ∧ (∃ c d e f, SigO h sm 1 3 c d e f) ∧ h.get? words = some ow ∧ ID prog w ow kvw ∧
        ∀ k, (valueAt kvw k = none ∧ cells k = xxx) ∨ ∃ r vs, valueAt kvw k = some (.ref r) ∧ h.IsList r vs.toArray ∧ NA vs (cells k)) →
      (∀ k, ¬ (0 ≤ k ∧ k < (if fi - la < 0 then -(fi - la) else fi - la) + 1) → cells k = xxx) →
      Fm g L h' [("ctx", .ref ctx), ("words", .ref words), ("memory", .ref sm), ("vector", .ref sv), ("wide", .int wd tw), ("signed", .bool sg), ("amount", .ref Am), ("first", .int fi t3), ("last", .int la t4), ("row", .ref row)] ((row, ob) :: (c1, o1) :: (c2, o2) :: (c3, o3) :: const) →
      wpAny (model prog w) A (execs (lawB w 18) (lawE w fnA cdV L c1 c2 c3)) Q E (At s h' tk')) :
    wpAny (model prog w) A (execs (lawB w 16) (lawE w fnA cdV L c1 c2 c3)) Q E (At s h tk) := by
  have F := F.lsOut
  have d1 := X.d1
  obtain ⟨u2, d2⟩ := X.d2
  obtain ⟨u3, d3⟩ := X.d3
  obtain ⟨⟨ts, Is⟩, _, ⟨_, _, Sv⟩, _⟩ := S.stat (h := h) (fun q hq _ => (F.bg q (by simp [hq])).1)
  obtain ⟨q0, q1, q2, q3, q4, q5, q6, q7, q8, q9, Iv⟩ := Sv
  have hlb : 0 < lb.length ∧ lb.length ≤ 20 := by
    have hl := X.lnb
    have := X.rg
    split at hl <;> omega
  unfold lawB
  conv in List.drop _ _ => whnf
  unfold lawE
  kpt_turns
  refine g_meth G F Is (by kernel_rfl!) (by k_is) (by k_is) (by k_is) ?_
  kpt_turns
  refine g_attr G F Iv (by lcg_off) rfl (by k_is) (by k_is) (by k_is) (by k_is) ?_
  intro _
  kpt_turns
  refine e_spec0 (made_spec D vsb lb (F.lstP (by ktu_off1L)) X.nb (by omega) X.cb) G F hh (dlt (by assumption)) (ult (by assumption)) ?_
  rintro _ h1 tk1 F1 _ ⟨p, rfl, V1⟩
  kpt_turns
  refine e_spec1 (set_val_spec _ _ p (S.but F1 (.there .here) rfl (by intro q hq; simp [hq])) hlb.1 (by omega) X.cb (F1.hasP (a := vals) (.there .here)) dict_new m3 V1) G F1 (.there .here) rfl hh (dlt (by assumption)) (ult (by assumption)) ?_
  rintro _ h2 tk2 ov F2 _ ⟨kvs, hv2, P2⟩
  obtain ⟨tv, htv, F2⟩ : ∃ tv, ((tv = [] ∧ kvs = [] ∧ lb = List.replicate lb.length 3) ∨ ∃ r o, tv = [(r, o)] ∧ kvs = [((0 : Int), Value.ref r)] ∧ VO o lb) ∧
      Fm g L h2 [("words", .ref words), ("store", .ref st), ("memory", .ref sm), ("vector", .ref sv), ("wide", .int wd tw), ("signed", .bool sg), ("amount", .ref Am), ("first", .int fi t3), ("last", .int la t4), ("row", .ref row)]
        ((vals, ov) :: (row, x.ob) :: (Am, LO vsa na) :: (D, LO vsb nb) :: (c1, o1) :: (c2, o2) :: (c3, o3) :: (words, x.ow) :: (mems, x.om) :: (tv ++ (x.inn.toList ++ (x.ext ++ base)))) := by
    rcases P2 with ⟨e1, e2⟩ | ⟨r, e1, V⟩
    · exact ⟨[], .inl ⟨rfl, e1, e2⟩, F2⟩
    · obtain ⟨o, ho, F3⟩ := F2.vec V
      exact ⟨[(r, o)], .inr ⟨r, o, rfl, e1, ho⟩, F3.subb _ (by rw [List.cons_append, List.nil_append]; tb_rel)⟩
  kpt_turns
  rename Fm g L _ _ _ => F3
  refine e_spec0 (made_spec D vsb lb (F3.lstP (by ktu_off1L)) X.nb (by omega) X.cb) G F3 hh (dlt (by assumption)) (ult (by assumption)) ?_
  rintro _ h4 tk4 F4 _ ⟨vb, rfl, V4⟩
  obtain ⟨ovb, hovb, F4⟩ := F4.vec V4
  kpt_turns
  rename Fm g L _ _ _ => F5
  refine m_make (fun _ _ es => ∃ t, Rep es [("store", .ref st), ("frame", _), ("now", .int 0 t)]) G F5 hh (k := 1) (by omega) (by omega) (by k_is) (by k_is) (by k_is)
    (fun s' x dx e1 e2 e3 _ => ctx_init_spec x dx _ _ e1 e2 e3) ?_
  rintro ctx dctx h6 h7 tk7 esc nsc F7 ⟨tc, Rc⟩ _ _ _ _
  iterate 1 cell_call
  rename Fm g L _ _ _ => F8
  refine K _ _ ctx ((dctx, dictOf esc nsc) :: (ctx, instObj 708 dctx) :: (_, LO [.ref vb] 0) :: (vb, ovb) :: (vals, ov) :: (Am, LO vsa na) :: (D, LO vsb nb) :: (words, x.ow) :: (mems, x.om) :: (tv ++ (x.inn.toList ++ (x.ext ++ base)))) x.ow x.kvw x.cells x.ob J.row ?_ J.out (F8.sub _ _ (by tb_start) (by tb_rel))
  intro h hc
  have S1 := S.stat (h := h) (fun p hp _ => hc p (by simp [hp]))
  have lst : ∀ {a vs n}, (a, LO vs n) ∈ ((dctx, dictOf esc nsc) :: (ctx, instObj 708 dctx) :: (_, LO [.ref vb] 0) :: (vb, ovb) :: (vals, ov) :: (Am, LO vsa na) :: (D, LO vsb nb) :: (words, x.ow) :: (mems, x.om) :: (tv ++ (x.inn.toList ++ (x.ext ++ base)))) → h.IsList a vs.toArray := fun m => ⟨_, hc _ m, rfl, _, rfl⟩
  refine ⟨⟨⟨st, _, sigs, vals, mems, sv, sm, vb, tc, ⟨dctx, esc, nsc, hc _ (.tail _ (.head _)), hc _ (.head _), Rc⟩, lst (.tail _ (.tail _ (.head _))), hovb.vec (hc (vb, ovb) (by simp)), S1, ⟨ov, kvs, hc (vals, ov) (by simp), hv2, m3, ?_, ?_⟩, ?_⟩, by omega, X.cb, J.cel⟩, lst (n := nb) (by simp), lst (n := na) (by simp), ⟨_, _, _, _, S1.2.2.1.choose_spec.choose_spec⟩, ?_, hc (words, x.ow) (by simp), J.wd.1, ?_⟩
  · rcases htv with ⟨_, e, _⟩ | ⟨_, _, _, e, _⟩ <;> rw [e] <;> simp
  · rcases htv with ⟨_, e, e2⟩ | ⟨r, o, e1, e, V⟩
    · exact .inl ⟨by rw [e]; rfl, e2⟩
    · exact .inr ⟨r, by rw [e]; rfl, V.vec (hc (r, o) (by simp [e1]))⟩
  · have M := J.mem
    have hin : ∀ p ∈ x.inn, h.get? p.1 = some p.2 := by
      intro p hp
      have q : p ∈ x.inn.toList := Option.mem_toList.mpr hp
      refine hc p ?_
      simp only [List.mem_cons, List.mem_append, q, true_or, or_true]
    have hex : ∀ p ∈ x.ext, h.get? p.1 = some p.2 := fun p hp => hc p (by simp [hp])
    have hmm := hc (mems, x.om) (by simp)
    cases hi : x.inn with
    | none =>
      rw [hi] at M
      exact ⟨x.om, [], hmm, M.1, m2, .inl ⟨rfl, M.2⟩⟩
    | some p =>
      rw [hi] at M
      obtain ⟨a, b, kvi, c, d, e⟩ := M
      exact ⟨x.om, _, hmm, b, m2, .inr ⟨p.1, p.2, kvi, rfl, hin p (by rw [hi]; rfl), c, a, fun k => (e k).imp id fun ⟨r, o, e1, e2, e3⟩ => ⟨r, e1, e2.vec (hex _ e3)⟩⟩⟩
  · obtain ⟨_, _, _, c, d, t1, t2, S4⟩ := S1
    exact ⟨_, _, _, _, S4⟩
  · intro k
    exact (J.wds k).imp id fun ⟨r, vs, n, e1, e2, e3⟩ => ⟨r, vs, e1, lst (n := n) (by simp [e2]), e3⟩
end

end
section
/-- the whole numbers from a on -/
def upI (a : Int) (n : Nat) : List Int := (List.range n).map fun (i : Nat) => a + (i : Int)
theorem upI_length (a : Int) (n : Nat) : (upI a n).length = n := by simp [upI]
theorem intsAre_items : ∀ {vs : List Value} {ns : List Int}, vs.length = ns.length → (∀ i v, vs[i]? = some v → ∃ t, v = Value.int (ns.getD i 0) t) → IntsAre vs ns
  | [], [], _, _ => .nil
  | v :: vs, n :: ns, hl, h => by
    obtain ⟨t, e⟩ := h 0 v rfl
    rw [e]
    exact .cons n t (intsAre_items (by simpa using hl) fun i u q => by simpa using h (i + 1) u (by simpa using q))
section
variable {M : Model} {prog : Program} {w : World} {A : Around} {E : Value → Shared → Prop} {s : Shared} {h g : Heap} {tk : Nat} {L : Addr} {fn fr : Option Addr} {l : List (Str × Value)} {bag bag' : List (Addr × Obj)} {name : Str} {scope : Scope} {cd : Value} {cl : List (Str × Addr)} {env : Env}
theorem b_range2 {a b : Int} {t u : Tok} {Q : Value → Shared → Prop} (F : Fm g L h l bag) (q : ∀ r h' t' tk', Fm g L h' l bag → IsRange h' r a b 1 t u t' → Q (.ref r) (At s h' tk')) :
    wpAny (model prog w) A (call (.type "range") [.int a t, .int b u]) Q E (At s h tk) := by
  refine call_range_2 ?_
  change Q (.ref h.objs.size) (At s (h.push { cls := .type "range", data := .fields #[.int a t, .int b u, .int 1 tk] }) (tk + 1))
  exact q h.objs.size _ tk _ (F.grow fun b o e => Heap.get?_push_of_some _ e) (Heap.get?_push_size _ rfl)
theorem b_lrange {a b : Int} {t u t' : Tok} {r : Addr} (n : Nat) {Q : Value → Shared → Prop} (hh : A.handled = none) (F : Fm g L h l bag) (hr : IsRange h r a b 1 t u t') (hab : b = a + n) (ha : -1000000 ≤ a ∧ a ≤ 1000000) (hn : n ≤ 1000)
    (q : ∀ D h' tk' vs k, Fm g L h' l ((D, LO vs k) :: bag) → IntsAre vs (upI a n) → Q (.ref D) (At s h' tk')) :
    wpAny (model prog w) A (call (.type "list") [.ref r]) Q E (At s h tk) := by
  subst hab
  have hsz : Builtin.Range.rangeSize a (a + n) 1 = (n : Int) := by rw [rangeSize_nat]; omega
  refine call_list_range (s := At s h tk) (n := n) hh hr (small_one (by omega) (by omega) (by omega) (by omega)) hsz (by omega) fun h' tk' acc c hk hD hacc => ?_
  have e : ({ cls := .type "list", dict := none, data := .seq acc c, slots := #[] } : Obj) = LO acc.toList c := by simp [LO]
  rw [e] at hD
  refine q h.objs.size h' tk' acc.toList c (F.more hk (Heap.get?_none_of_le (Nat.le_refl _)) hD) (intsAre_items (by rw [upI_length]; exact hacc.1) fun i v hi => ?_)
  obtain ⟨t, rfl⟩ := hacc.2 i v (by simpa using hi)
  have hlt : i < n := by
    have : i < acc.toList.length := by
      rcases Nat.lt_or_ge i acc.toList.length with z | z
      · exact z
      · rw [List.getElem?_eq_none z] at hi; cases hi
    rw [← hacc.1]; simpa using this
  exact ⟨t, by simp [upI, List.getD_eq_getElem?_getD, hlt]⟩
theorem o_ladd {D1 D2 : Addr} {vs us : List Value} {n1 n2 : Nat} {Q : Value → Shared → Prop} (F : Fm g L h l bag) (h1 : h.get? D1 = some (LO vs n1)) (h2 : h.get? D2 = some (LO us n2)) (hz : vs.length + us.length ≤ sizeLine)
    (q : ∀ D h', Fm g L h' l ((D, LO (vs ++ us) 0) :: bag) → Q (.ref D) (At s h' tk)) : wpAny (model prog w) A (binaryOp .Add (.ref D1) (.ref D2)) Q E (At s h tk) := by
  refine P.add_list (s := At s h tk) h1 h2 ?_ (by rw [List.size_toArray, List.size_toArray]; exact hz)
  have := q h.objs.size _ (F.push _)
  simpa [LO] using this
theorem foldl_rep : ∀ (n : Nat) (vs : Array Value) (acc : Array Value), List.foldl (fun x1 x2 => x1 ++ x2) acc (List.replicate n vs) = acc ++ ((List.replicate n vs.toList).flatten).toArray
  | 0, vs, acc => by simp
  | n + 1, vs, acc => by rw [List.replicate_succ, List.foldl_cons, foldl_rep n vs, Array.append_assoc, List.replicate_succ, List.flatten_cons]; congr 1; simp [← List.append_toArray]
theorem lmul_any {D : Addr} {its : Array Value} {k : Nat} {X : Int} {u : Tok} {Q : Value → Shared → Prop} (hl : h.get? D = some { cls := .type "list", dict := none, data := .seq its k, slots := #[] }) (hlo : -(2 ^ 63 : Int) ≤ X) (hhi : X < 2 ^ 63) (hsz : its.size * X.toNat ≤ 2 ^ 24)
    (q : Q (.ref h.objs.size) (At s (h.push { cls := .type "list", data := .seq (List.foldl (fun x1 x2 => x1 ++ x2) #[] (List.replicate (if its.isEmpty = true then 0 else X.toNat) its)) }) tk)) : wpAny (model prog w) A (binaryOp .Mult (.ref D) (.int X u)) Q E (At s h tk) :=
  wpAny_binaryOp_repeat_ref (T := "list") (U := "int") (s := At s h tk) (by decide) ⟨_, hl, rfl⟩ (fun s' => typeIs_int s' X u) noFill_list_mul PySem.F.fills_int_mul PySem.F.slot_int_rmul repeat_list PySem.F.slot_int_index.lookup
    (call_meets PySem.F.slot_int_rmul (typeIs_int _ X u) PySem.F.entry_int_rmul (PySem.F.args_int_rmul_2 _ _) (int___rmul___int_list X u D its k)
      ⟨hl, rfl, ⟨_, hl, rfl⟩, call_meets PySem.F.slot_list_mul ⟨_, hl, rfl⟩ PySem.F.entry_list_mul (PySem.F.args_list_mul_2 _ _)
        (AutoListH.list___mul___list_int_3 D its k X u (by simp [Builtin.List.listFitsIndex]; omega) (by omega) (by simp [Builtin.List.listTooLong, sizeLine]; omega))
        ⟨hl, q⟩⟩)
theorem o_lmul1 {D : Addr} {v : Value} {k n : Nat} {X : Int} {u : Tok} {Q : Value → Shared → Prop} (F : Fm g L h l bag) (hl : h.get? D = some (LO [v] k)) (hX : X = n) (hn : n ≤ 1000)
    (q : ∀ D' h', Fm g L h' l ((D', LO (List.replicate n v) 0) :: bag) → Q (.ref D') (At s h' tk)) : wpAny (model prog w) A (binaryOp .Mult (.ref D) (.int X u)) Q E (At s h tk) := by
  have e : List.foldl (fun x1 x2 => x1 ++ x2) #[] (List.replicate (if ([v].toArray).isEmpty = true then 0 else X.toNat) [v].toArray) = (List.replicate n v).toArray := by
    rw [foldl_rep, hX]; simp
  have hsz : [v].toArray.size = 1 := rfl
  replace hl : h.get? D = some { cls := .type "list", dict := none, data := .seq [v].toArray k, slots := #[] } := hl
  generalize [v].toArray = its at e hsz hl
  refine lmul_any hl (by omega) (by omega) (by rw [hsz]; omega) ?_
  rw [e]
  exact q h.objs.size _ (F.push _)
theorem st_uptoT {value slice : Expr} {D r : Addr} {vs : List Value} {k : Int} {t : Tok} {ops : List Value} {Q : Value → Shared → Prop} (F : Fm g L h l bag) (hm : Pick (r, slO .none (.int k t) .none) bag bag') (hl : h.IsList D vs.toArray) (hk : 0 ≤ k) (hz : vs.length ≤ sizeLine)
    (hs : subscripted slice false (.ref D) (.ref r) = operate ops (getItem (.ref D) (.ref r)))
    (q : ∀ a h', h.get? a = none → Fm g L h' l ((a, LO (vs.take k.toNat) 0) :: bag) → Q (.ref a) (At s h' tk)) : wpAny (model prog w) A (subscriptTail value slice (.ref D) (.ref r)) Q E (At s h tk) := by
  refine tail_any (Heap.IsList.typeIs (s := At s h tk) hl) list_getitem_lookup (wpAny_getItem_list_slice (s := At s h tk) hl ⟨_, F.has hm.out.1, rfl, rfl⟩ .none (.int _ _) .none (by simp) ?_ (by rw [List.size_toArray]; exact hz)) hs
  obtain ⟨n, rfl⟩ : ∃ n : Nat, k = n := ⟨k.toNat, by omega⟩
  rw [slicePick_upto' vs.toArray n]
  exact q h.objs.size _ (Heap.get?_none_of_le (Nat.le_refl _)) (F.push _)
abbrev vecD (l : List Nat) : PyData := .tuple ([(l.length : Int), lo l, hi l].map PyData.int)
theorem c_nevec {a b : Addr} {l : List Nat} {Q : Value → Shared → Prop} (ha : VecL h a l) (hb : VecL h b l) (hu : A.units + 64 < cLine) (q : Q (.bool false) (At s h tk)) : wpAny (model prog w) A (compareOp .NotEq (.ref a) (.ref b)) Q E (At s h tk) := by
  refine ne_dataH_same (s := At s h tk) (reads_vec ha) (reads_vec hb) (shaped_tup _) (shaped_tup _) hu (by simp only [PySem.SeqAt.noMix]; exact noMix_ints _ _) ?_
  rw [PySem.Spec.same_self]; exact q
theorem c_ne3 {a b : Addr} {a1 a2 a3 b1 b2 b3 : Value} {d1 d2 d3 : PyData} {e1 e2 e3 f1 f2 f3 : List Addr} {Q : Value → Shared → Prop} (ha : h.IsList a #[a1, a2, a3]) (hb : h.IsList b #[b1, b2, b3]) (x1 : Reads h a1 d1 e1) (x2 : Reads h a2 d2 e2) (x3 : Reads h a3 d3 e3) (y1 : Reads h b1 d1 f1) (y2 : Reads h b2 d2 f2) (y3 : Reads h b3 d3 f3)
    (z1 : PyData.depth d1 ≤ 60 ∧ PyData.canLay0 d1 = true ∧ PySem.SeqAt.noMix d1 d1 = true) (z2 : PyData.depth d2 ≤ 60 ∧ PyData.canLay0 d2 = true ∧ PySem.SeqAt.noMix d2 d2 = true) (z3 : PyData.depth d3 ≤ 60 ∧ PyData.canLay0 d3 = true ∧ PySem.SeqAt.noMix d3 d3 = true)
    (hu : A.units + 64 < cLine) (q : Q (.bool false) (At s h tk)) : wpAny (model prog w) A (compareOp .NotEq (.ref a) (.ref b)) Q E (At s h tk) := by
  obtain ⟨o, ho, hc, n, hd⟩ := ha
  obtain ⟨o', ho', hc', n', hd'⟩ := hb
  have ra := Reads.list ho hc hd (.cons x1 (.cons x2 (.cons x3 .nil)))
  have rb := Reads.list ho' hc' hd' (.cons y1 (.cons y2 (.cons y3 .nil)))
  have sh : PySem.SeqAt.shaped (.list [d1, d2, d3]) = true := by
    show (PyData.canLay0 _ && decide (PyData.depth _ ≤ 64)) = true
    rw [Bool.and_eq_true]
    refine ⟨by simp only [PyData.canLay0, PyData.canLayAll0, z1.2.1, z2.2.1, z3.2.1, Bool.and_true], decide_eq_true ?_⟩
    have := z1.1
    have := z2.1
    have := z3.1
    simp only [PyData.depth, PyData.depthAll]; omega
  refine ne_dataH_same (s := At s h tk) ra rb sh sh hu ?_ ?_
  · simp only [PySem.SeqAt.noMix, PySem.SeqAt.noMixAll, z1.2.2, z2.2.2, z3.2.2, Bool.and_true]
  · rw [PySem.Spec.same_self]; exact q
theorem vecD_z (l : List Nat) : PyData.depth (vecD l) ≤ 60 ∧ PyData.canLay0 (vecD l) = true ∧ PySem.SeqAt.noMix (vecD l) (vecD l) = true := by
  have := PySem.W.depthAll_ints [(l.length : Int), lo l, hi l]
  exact ⟨by simp only [vecD, PyData.depth]; omega, by simp only [vecD, PyData.canLay0]; exact PySem.W.canLayAll0_ints _, by simp only [vecD, PySem.SeqAt.noMix]; exact noMix_ints _ _⟩
theorem c_nevec3 {a b a1 a2 a3 b1 b2 b3 : Addr} {l1 l2 l3 : List Nat} {Q : Value → Shared → Prop} (ha : h.IsList a #[.ref a1, .ref a2, .ref a3]) (hb : h.IsList b #[.ref b1, .ref b2, .ref b3]) (x1 : VecL h a1 l1) (x2 : VecL h a2 l2) (x3 : VecL h a3 l3) (y1 : VecL h b1 l1) (y2 : VecL h b2 l2) (y3 : VecL h b3 l3)
    (hu : A.units + 64 < cLine) (q : Q (.bool false) (At s h tk)) : wpAny (model prog w) A (compareOp .NotEq (.ref a) (.ref b)) Q E (At s h tk) :=
  c_ne3 ha hb (reads_vec x1) (reads_vec x2) (reads_vec x3) (reads_vec y1) (reads_vec y2) (reads_vec y3) (vecD_z l1) (vecD_z l2) (vecD_z l3) hu q
theorem c_inN {D : Addr} {vs : List Value} {ls : List Nat} {K : Int} {t : Tok} (k : Nat) {Q : Value → Shared → Prop} (hl : h.IsList D vs.toArray) (hv : NA vs ls) (hK : K = k) (q : Q (.bool (decide (k ∈ ls))) (At s h tk)) :
    wpAny (model prog w) A (compareOp .In (.int K t) (.ref D)) Q E (At s h tk) := by
  subst hK
  refine in_list_ints (s := At s h tk) hl hv ?_
  have e : (ls.map fun (n : Nat) => (n : Int)).any (· == (k : Int)) = decide (k ∈ ls) := by
    rw [Bool.eq_iff_iff]
    simp only [List.any_map, List.any_eq_true, decide_eq_true_eq, Function.comp, beq_iff_eq]
    constructor
    · rintro ⟨n, hn, e⟩
      have : n = k := by exact_mod_cast e
      rw [← this]; exact hn
    · exact fun hk => ⟨k, hk, rfl⟩
  rw [e]; exact q
theorem s_ifj2 {test : Expr} {body orelse : List Stmt} {pos : Pos} {rest : List Stmt} {Q : Flow → Shared → Prop} {s : Shared} (R : Shared → Prop)
    (q : wpAny M A (isTrue test env (eval test env)) (fun b s₂ => if b = true then wpAny M A (execs body env) (fun fl s' => fl = .next ∧ R s') E s₂ else wpAny M A (execs orelse env) (fun fl s' => fl = .next ∧ R s') E s₂) E s)
    (q2 : ∀ s', R s' → wpAny M A (execs rest env) Q E s') : wpAny M A (execs (.If test body orelse pos :: rest) env) Q E s := by
  refine s_if (wpAny_mono q (fun b s₂ x => ?_) fun _ _ x => x)
  cases b with
  | true => exact wpAny_mono x (fun fl s' ⟨e, r⟩ => by subst e; exact k_next (q2 _ r)) fun _ _ x => x
  | false => exact wpAny_mono x (fun fl s' ⟨e, r⟩ => by subst e; exact k_next (q2 _ r)) fun _ _ x => x
end
section
variable {M : Model} {prog : Program} {w : World} {A : Around} {E : Value → Shared → Prop} {s : Shared} {h g : Heap} {tk : Nat} {L : Addr} {fn fr : Option Addr} {l : List (Str × Value)} {bag bag' : List (Addr × Obj)} {name : Str} {scope : Scope} {cd : Value} {cl : List (Str × Addr)} {env : Env}
theorem Fm.frm {m : Str → Option Value} (F : Fr g L h m) (nm : List (Str × Value)) (e : ∀ p ∈ nm, m p.1 = some p.2) : Fm g L h nm [] := ⟨⟨m, F, fun _ _ q => e _ (lk_mem q)⟩, fun _ h => (nomatch h), .nil⟩
/-- over zip of two lists, two names; the element changes nothing -/
theorem c_zip {use : Option (Value → Sem Unit)} {Q : Value → Shared → Prop} {elt iter : Expr} {x y : Str} {p1 p2 tp : Pos} {kt : Nat} {csc : Scope} {cpos : Pos} {ccl : List (Str × Addr)} {l1 l2 : Addr} {xs ys : List Value} (J : Nat → List Value → Prop) (hh : A.handled = none) (F : Fm g L h l bag) (hl1 : h.IsList l1 xs.toArray) (hl2 : h.IsList l2 ys.toArray) (hn : xs.length ≤ 1000)
    (hx : csc.names.lookup x = some .local) (hy : csc.names.lookup y = some .local) (hxy : (x == y) = false) (j0 : J 0 []) (hJ : ∀ i zs, J i zs → zs.length = i)
    (turn : ∀ i u v C h tk zs, xs[i]? = some u → ys[i]? = some v → J i zs → Fm g C h [(y, v), (x, u)] [] →
      wpAny (model prog w) A (eval elt (EV name (relabel csc (EV name scope L fn fr cd cl)) C none fr cd ccl)) (fun z s₃ => ∃ tk', s₃ = At s h tk' ∧ J (i + 1) (zs ++ [z])) (fun _ _ => False) (At s h tk))
    (done : ∀ D C oC h tk k zs, J (min xs.length ys.length) zs → Fm g L h l ((C, oC) :: (D, LO zs k) :: bag) → isT oC = false → (∃ m, h.Ns C m) → compPost (model prog w) A E use Q (.ref D) C (.ok .next) (At s h tk))
    (hcell : csc.names.all (fun x => x.2 != .cell) = true := by kernel_rfl!) (hk : csc.kind = .function := by kernel_rfl!) :
    wpAny (model prog w) A (call (.type "zip") [.ref l1, .ref l2]) (fun xv s₁ => wpAny (model prog w) A (pyIter xv) (fun it s₂ => CompGo prog w A E use Q elt (.Tuple [.Name x p1, .Name y p2] kt tp) iter csc cpos ccl (EV name scope L fn fr cd cl) it s₂) E s₁) E (At s h tk) := by
  have hlt1 : l1 < h.objs.size := by obtain ⟨o, ho, _⟩ := hl1; exact Heap.lt_size ho
  have hlt2 : l2 < h.objs.size := by obtain ⟨o, ho, _⟩ := hl2; exact Heap.lt_size ho
  have Dd : ZipApart (h.objs.size + 4) (h.objs.size + 2) (h.objs.size + 3) h.objs.size (h.objs.size + 1) l1 l2 := PySem.W.ktu_apart _ _ _ hlt1 hlt2
  refine call_zip_2 (s := At s h tk) hl1 hl2 fun h1 hz hTI hTO hi1 hi2 hsz hkk => ?_
  change wpAny (model prog w) A (pyIter (.ref (h.objs.size + 4))) _ E (At s h1 tk)
  refine wpAny_pyIter_zip (s := At s h1 tk) hz ?_
  have W := WalksT.zip2 (prog := prog) (w := w) hh _ _ _ _ _ _ _ Dd xs.toArray ys.toArray
  have hvx : xs.toArray.size = xs.length := List.size_toArray ..
  have hvy : ys.toArray.size = ys.length := List.size_toArray ..
  rw [hvx, hvy] at W
  obtain ⟨n, hnn⟩ : ∃ n, n = min xs.length ys.length := ⟨_, rfl⟩
  rw [← hnn] at W done
  have F1 : Fm g L h1 l bag := F.grow hkk
  have st1 : IsZip h1 (h.objs.size + 4) (h.objs.size + 2) (h.objs.size + 3) .none ∧ IsPair h1 (h.objs.size + 2) (.ref h.objs.size) (.ref (h.objs.size + 1)) ∧ (∃ a b, IsPair h1 (h.objs.size + 3) a b) ∧ h1.IsListIter h.objs.size l1 0 ∧ h1.IsListIter (h.objs.size + 1) l2 0 ∧ h1.IsList l1 xs.toArray ∧ h1.IsList l2 ys.toArray :=
    ⟨hz, hTI, ⟨_, _, hTO⟩, hi1, hi2, hl1.at fun o e => hkk _ o e, hl2.at fun o e => hkk _ o e⟩
  have newz : ∀ b ∈ [h.objs.size + 4, h.objs.size + 3, h.objs.size, h.objs.size + 1], h.get? b = none := by
    intro b hb
    refine Heap.get?_none_of_le ?_
    simp only [List.mem_cons, List.not_mem_nil, or_false] at hb
    rcases hb with rfl | rfl | rfl | rfl <;> omega
  have gw : ∀ b ∈ [h.objs.size + 4, h.objs.size + 3, h.objs.size, h.objs.size + 1], g.get? b = none ∧ b ≠ L := fun b hb => ⟨F.fresh (newz b hb), F.new (newz b hb)⟩
  have bw : ∀ p ∈ bag, p.1 ∉ [h.objs.size + 4, h.objs.size + 3, h.objs.size, h.objs.size + 1] := fun p hp hm => by
    have z := (F.bg p hp).1
    rw [newz _ hm] at z; cases z
  -- the new list and the frame
  unfold CompGo
  refine wpAny_newObj_type ?_ (Nat.zero_le _)
  have F2 : Fm g L (h1.push (LO [] 0)) l ((h1.objs.size, LO [] 0) :: bag) := F1.push _
  have k2 : h1.StaysIn (h1.push (LO [] 0)) := fun b o e => Heap.get?_push_of_some _ e
  show wpAny _ _ _ _ _ (At s (h1.push (LO [] 0)) tk)
  have hDsz : h.objs.size + 5 ≤ h1.objs.size := Nat.le_of_eq hsz.symm
  have hD0 : h1.get? h1.objs.size = none := Heap.get?_none_of_le (Nat.le_refl _)
  have hszc : (h1.push (LO [] 0)).objs.size = h1.objs.size + 1 := Heap.size_push _ _
  generalize h1.push (LO [] 0) = h2 at F2 k2 hszc
  generalize h1.objs.size = D at F2 hDsz hD0 hszc
  refine wpAny_newFunctionEnv (fun x hx => by simpa using List.all_eq_true.mp hcell x hx) (by intro y hy; simp at hy) (fun h3 hns hsb => ?_) hk
  dsimp only at hns hsb ⊢
  have hC2 : h2.get? h2.objs.size = none := Heap.get?_none_of_le (Nat.le_refl _)
  have k23 : h2.StaysIn h3 := fun b o e => hsb.extBut b o (fun q => by rw [q, hC2] at e; cases e) (Heap.get?_push_of_some _ e)
  have hCL := F2.new hC2
  have hCg := F2.fresh hC2
  have hDL : D ≠ L := F1.new hD0
  have hDg : g.get? D = none := F1.fresh hD0
  have hzC : g.objs.size ≤ h2.objs.size := by
    obtain ⟨o, ho⟩ := F2.here
    exact Nat.le_of_lt (Nat.lt_of_le_of_lt F2.lt (Heap.lt_size ho))
  have hCs : h.objs.size + 5 ≤ h2.objs.size := by omega
  generalize h2.objs.size = C at hns hsb hC2 hCL hCg hszc hzC hCs
  have hDC : D ≠ C := by rw [hszc]; exact Nat.ne_of_lt (Nat.lt_succ_self _)
  have bC : ∀ p ∈ bag, p.1 ≠ C := fun p hp e => by
    have := Heap.lt_size (F.bg p hp).1
    rw [e] at this
    exact absurd this (Nat.not_lt.mpr (by omega))
  have fpC : ∀ b ∈ [h.objs.size + 4, h.objs.size + 2, h.objs.size + 3, h.objs.size, h.objs.size + 1, l1, l2], b ≠ C ∧ b ≠ D := by
    intro b hb
    simp only [List.mem_cons, List.not_mem_nil, or_false] at hb
    constructor <;> (refine Nat.ne_of_lt ?_; rcases hb with rfl | rfl | rfl | rfl | rfl | rfl | rfl <;> first | omega | exact Nat.lt_of_lt_of_le hlt1 (by omega) | exact Nat.lt_of_lt_of_le hlt2 (by omega))
  have wC : ∀ b ∈ [h.objs.size + 4, h.objs.size + 3, h.objs.size, h.objs.size + 1], b ≠ C ∧ b ≠ D := by
    intro b hb
    simp only [List.mem_cons, List.not_mem_nil, or_false] at hb
    constructor <;> (refine Nat.ne_of_lt ?_; rcases hb with rfl | rfl | rfl | rfl <;> omega)
  have CW : C ∉ [h.objs.size + 4, h.objs.size + 3, h.objs.size, h.objs.size + 1] := fun e => (wC _ e).1 rfl
  have DW : D ∉ [h.objs.size + 4, h.objs.size + 3, h.objs.size, h.objs.size + 1] := fun e => (wC _ e).2 rfl
  have st3 := W.frame 0 _ _ st1 fun b _ o e => k23 b o (k2 b o e)
  have F3 := F2.grow k23
  clear hz hTI hTO hi1 hi2 F1 F2
  generalize h.objs.size = S0 at *
  have loop : codeAny (model prog w) A (.compLoop (.ListComp elt [⟨.Tuple [.Name x p1, .Name y p2] kt tp, iter, [], 0⟩] csc cpos) 0 (.ref (S0 + 4)) (.ref D) (EV name (relabel csc (EV name scope L fn fr cd cl)) C none fr cd ccl))
      (compPost (model prog w) A E use Q (.ref D) C) (At s h3 (tk + 0)) := by
    refine PyProof.Rows.LCp.codeAny_compLoop_pair (fun k s' => ∃ i h tk m zs kk, s' = At s h tk ∧ i ≤ n ∧ k = n - i ∧
      (IsZip h (S0 + 4) (S0 + 2) (S0 + 3) .none ∧ IsPair h (S0 + 2) (.ref S0) (.ref (S0 + 1)) ∧ (∃ a b, IsPair h (S0 + 3) a b) ∧ h.IsListIter S0 l1 i ∧ h.IsListIter (S0 + 1) l2 i ∧ h.IsList l1 xs.toArray ∧ h.IsList l2 ys.toArray) ∧
      h.Ns C m ∧ Fm g L h l ((D, LO zs kk) :: bag) ∧ J i zs) ?_ n ⟨0, h3, _, _, [], 0, rfl, Nat.zero_le _, rfl, st3, hns, F3, j0⟩
    rintro k s' ⟨i, h, tk, m, zs, kk, rfl, hi, rfl, st, hC, F, j⟩
    have offb : ∀ p ∈ ((D, LO zs kk) :: bag), p.1 ∉ [S0 + 4, S0 + 3, S0, S0 + 1] := fun p hp => by
      rcases List.mem_cons.mp hp with rfl | hp
      · exact DW
      · exact bw p hp
    by_cases hlt : i < n
    · refine W.item i (At s h tk) _ _ hlt st fun T vals h4 tk4 hP hT0 hT hM hkp => ?_
      obtain ⟨u, v, hu, hv, rfl⟩ := hP
      have F4 := F.but (h' := h4) (mu := [S0 + 4, S0 + 3, S0, S0 + 1]) (fun b o e n => hkp b o n e) gw offb
      have hC4 : h4.Ns C m := hC.at' fun o e => hkp _ o CW e
      refine W.go _ _ _ i T (At s h4 tk4) _ _ hM fun h5 st5 hkp5 => ?_
      have F5 := F4.but (h' := h5) (mu := [S0 + 4, S0 + 3, S0, S0 + 1]) (fun b o e n => hkp5 b o n e) gw offb
      have hC5 : h5.Ns C m := hC4.at' fun o e => hkp5 _ o CW e
      have hT5 : IsTup h5 T #[u, v] := by
        obtain ⟨o, ho, hc, n, hd⟩ := hT
        exact ⟨o, hkp5 _ o (W.apart _ _ _ hM) ho, hc, n, hd⟩
      refine assign_Tuple_tuple (s := At s h5 tk4) hh hT5 rfl rfl fun h6 he => ?_
      have k56 := stays_extBut he
      refine assignInOrder_cons (wpAny_assign_Name (wpAny_storeName_local (lookup_relabel_local hx) (hC5.at' fun o e => k56 _ o e) (fun h7 hn7 hs7 => ?_) (by simp [EV, relabel, hk])))
      refine assignInOrder_cons (wpAny_assign_Name (wpAny_storeName_local (lookup_relabel_local hy) hn7 (fun h8 hn8 hs8 => ?_) (by simp [EV, relabel, hk])))
      refine assignInOrder_nil ?_
      have k58 : ∀ b o, b ≠ C → h5.get? b = some o → h8.get? b = some o := fun b o hb e => hs8.extBut b o hb (hs7.extBut b o hb (k56 b o e))
      have st8 := W.frame _ _ _ st5 fun b hb o e => k58 b o (fpC b hb).1 e
      have F8 : Fm g L h8 l ((D, LO zs kk) :: bag) := F5.but (mu := [C]) (fun b o e n => k58 b o (fun q => n (by rw [q]; exact .head _)) e) (fun b hb => by rw [List.mem_singleton.mp hb]; exact ⟨hCg, hCL⟩) fun p hp q => by
        have q := List.mem_singleton.mp q
        rcases List.mem_cons.mp hp with rfl | hp
        · exact hDC q
        · exact bC p hp q
      have FC : Fm g C h8 [(y, v), (x, u)] [] := Fm.frm ⟨hn8, F8.keep, hzC⟩ _ fun p hp => by
        have hne : ¬ x = y := by simpa using hxy
        simp only [List.mem_cons, List.not_mem_nil, or_false] at hp
        rcases hp with rfl | rfl
        · simp
        · simp [hne]
      have FC' := FC
      refine no_exc (wpAny_mono (turn i u v C h8 _ zs (by simpa using hu) (by simpa using hv) j FC') (fun z s₃ q => ?_) fun _ _ x => x)
      obtain ⟨tk9, rfl, j9⟩ := q
      have hy' := hJ _ _ j
      have zD := F8.has (.head _)
      obtain ⟨n', F9⟩ := F8.turn (f := fun xs => xs.push z) (vs' := zs ++ [z]) .here (by simp)
      have hs9 : Heap.SameBut D h8 (h8.update D (Obj.mapSeq fun xs => xs.push z)) := Heap.SameBut.update ..
      refine call_meets PySem.F.slot_list_append (s := At s h8 tk9) ⟨_, zD, rfl⟩ PySem.F.entry_list_append (PySem.F.args_list_append_2 _ _) (PySem.AutoListH.list_append_list_val_0 D _ kk z (by rw [List.size_toArray, sizeLine_eq]; omega)) ⟨zD, ?_⟩
      refine ⟨n - (i + 1), by omega, i + 1, _, _, _, zs ++ [z], n', rfl, hlt, rfl, W.frame _ _ _ st8 fun b hb o e => hs9.extBut b o (fpC b hb).2 e, hn8.at' fun o e => hs9.extBut _ o (Ne.symm hDC) e, F9, j9⟩
    · have hi' : i = n := by omega
      subst hi'
      refine W.done (At s h tk) _ _ st fun h' tk' hkp => ?_
      have F' := F.but (h' := h') (mu := [S0 + 4, S0 + 3, S0, S0 + 1]) (fun b o e n => hkp b o n e) gw offb
      have hC' : h'.Ns C m := hC.at' fun o e => hkp _ o CW e
      obtain ⟨oC, es, ep, hoC, hdC, hrC⟩ := id hC'
      have hCT : isT oC = false := by unfold isT; rw [hdC]
      exact done D C oC h' tk' kk zs j (F'.add hoC fun _ => ⟨hCL, hCg, fun q hq _ => by
        rcases List.mem_cons.mp hq with rfl | hq
        · exact hDC
        · exact bC q hq⟩) hCT ⟨m, hC'⟩
  exact codeAny_compStart_list loop (W.self 0 _ _ _ st3 loop)
end

end
section
def shL (msb lsb : Int) (wd : Nat) : Int := if lsb ≤ msb then 0 else (wd : Int) - 1
def stepL (msb lsb : Int) : Int := if lsb ≤ msb then 1 else -1
def idxV (o : Option Int) (v : Value) : Prop := match o with | some i => ∃ t, v = .int i t | none => v = .none
theorem pickV_none {l am : List Nat} {sg : Bool} (h : wholeL am sg = none) (a b : Int) (n : Nat) : pickV l am sg a b n = List.replicate n 3 := by unfold pickV; rw [h]
theorem pickV_some {l am : List Nat} {sg : Bool} {i : Int} (h : wholeL am sg = some i) (a b : Int) (n : Nat) : pickV l am sg a b n = sliceL l ((i - a) * b) n := by unfold pickV; rw [h]
theorem pickL_length (l : List Nat) (msb lsb : Int) (ns : List Int) : (pickL l msb lsb ns).length = ns.length := by
  unfold pickL; rw [List.length_map]; split <;> simp
theorem pick_law {l : List Nat} {msb lsb a k : Int} {n : Nat} (h : ∀ j : Nat, j < n → (if lsb ≤ msb then a + j - lsb else lsb - (a + (n - 1 - j : Nat))) = k + j) : pickL l msb lsb (upI a n) = sliceL l k n := by
  refine List.ext_getElem (by rw [pickL_length, upI_length, sliceL_length]) fun j h1 h2 => ?_
  rw [sliceL_length] at h2
  have hj := h j h2
  simp only [pickL, sliceL, List.getElem_map, List.getElem_range]
  unfold atD
  by_cases hm : lsb ≤ msb
  · rw [if_pos hm] at hj ⊢
    have hm' : ¬ msb < lsb := by omega
    simp only [if_neg hm', upI, List.getElem_map, List.getElem_range]
    rw [hj]
  · rw [if_neg hm] at hj ⊢
    have hm' : msb < lsb := by omega
    simp only [if_pos hm', List.getElem_reverse, upI, List.getElem_map, List.getElem_range, List.length_map, List.length_range]
    rw [hj]
theorem pick_one {l am : List Nat} {sg : Bool} {i msb lsb : Int} (h : wholeL am sg = some i) : pickL l msb lsb [i] = pickV l am sg lsb (stepL msb lsb) 1 := by
  rw [pickV_some h, show [i] = upI i 1 by simp [upI]]
  refine pick_law fun j hj => ?_
  unfold stepL
  split <;> omega
theorem pick_up {l am : List Nat} {sg : Bool} {i msb lsb : Int} (wd : Nat) (h : wholeL am sg = some i) : pickL l msb lsb (upI i wd) = pickV l am sg (lsb - shL msb lsb wd) (stepL msb lsb) wd := by
  rw [pickV_some h]
  refine pick_law fun j hj => ?_
  unfold stepL shL
  split <;> omega
theorem pick_down {l am : List Nat} {sg : Bool} {i msb lsb : Int} (wd : Nat) (h : wholeL am sg = some i) : pickL l msb lsb (upI (i - wd + 1) wd) = pickV l am sg (lsb + wd - 1 - shL msb lsb wd) (stepL msb lsb) wd := by
  rw [pickV_some h]
  refine pick_law fun j hj => ?_
  unfold stepL shL
  split <;> omega
theorem atI_le {l : List Nat} (h : ∀ c ∈ l, c ≤ 3) (k : Int) : atI l k ≤ 3 := by
  unfold atI
  split
  · exact getD_le h _
  · decide
theorem sliceL_le {l : List Nat} (h : ∀ c ∈ l, c ≤ 3) (k : Int) (n : Nat) : ∀ c ∈ sliceL l k n, c ≤ 3 := by
  intro c hc
  obtain ⟨j, _, rfl⟩ := List.mem_map.mp hc
  exact atI_le h _
theorem word_law {cells : Int → List Nat} {am : List Nat} {sg : Bool} {fi la k : Int} (out : ∀ k, ¬ (0 ≤ k ∧ k < (if fi - la < 0 then -(fi - la) else fi - la) + 1) → cells k = xxx) (h : wholeL am sg = some k) :
    wordV cells am sg fi la = cells (if fi ≤ la then k - fi else fi - k) := by
  unfold wordV
  rw [h]
  dsimp only
  generalize (if fi ≤ la then k - fi else fi - k) = p
  by_cases hp : p < 0 ∨ (if la - fi < 0 then -(la - fi) else la - fi) + 1 ≤ p
  · rw [if_pos hp, if_pos (by decide), out]
    rintro ⟨h1, h2⟩
    rcases hp with hp | hp
    · omega
    · split at h2 <;> split at hp <;> omega
  · rw [if_neg hp, if_neg (fun q => hp (.inl q))]
theorem word_none {cells : Int → List Nat} {am : List Nat} {sg : Bool} {fi la : Int} (h : wholeL am sg = none) : wordV cells am sg fi la = xxx := by unfold wordV; rw [h]
theorem word_len {cells : Int → List Nat} {am : List Nat} {sg : Bool} {fi la : Int} (hc : ∀ k, (cells k).length = 3 ∧ ∀ c ∈ cells k, c ≤ 3) : (wordV cells am sg fi la).length = 3 ∧ ∀ c ∈ wordV cells am sg fi la, c ≤ 3 := by
  have hx : xxx.length = 3 ∧ ∀ c ∈ xxx, c ≤ 3 := ⟨rfl, by decide⟩
  unfold wordV
  cases wholeL am sg with
  | none => exact hx
  | some k =>
    dsimp only
    generalize (if fi ≤ la then k - fi else fi - k) = p
    generalize (if p < 0 ∨ (if la - fi < 0 then -(la - fi) else la - fi) + 1 ≤ p then (-1 : Int) else p) = q
    by_cases h : q < 0
    · rw [if_pos h]; exact hx
    · rw [if_neg h]; exact hc _
theorem ext_law {l : List Nat} {c : Nat} (hl : l.length ≤ 20) : (l ++ List.replicate 20 c).take 20 = l ++ List.replicate (20 - l.length) c := by
  rw [List.take_append, List.take_of_length_le hl, List.take_replicate]
  congr 2; omega
theorem choose_law {am W f : List Nat} (ha : ∀ c ∈ am, c ≤ 3) : chooseL am W f = if 1 ∈ am then W else if 2 ∈ am ∨ 3 ∈ am then mixL W f else f := by
  unfold chooseL truthL
  by_cases h1 : 1 ∈ am
  · rw [if_pos h1, if_pos rfl, if_pos h1]
  · simp only [if_neg h1]
    by_cases h0 : ∀ c ∈ am, c = 0
    · have : ¬ (2 ∈ am ∨ 3 ∈ am) := by
        rintro (q | q)
        · have := h0 _ q; omega
        · have := h0 _ q; omega
      rw [if_pos h0, if_neg this]; simp
    · have : (2 ∈ am ∨ 3 ∈ am) := by
        apply Classical.byContradiction
        intro n
        refine h0 fun c hc => ?_
        have := ha c hc
        have n1 : ¬ c = 1 := fun e => h1 (e ▸ hc)
        have n2 : ¬ c = 2 := fun e => n (.inl (e ▸ hc))
        have n3 : ¬ c = 3 := fun e => n (.inr (e ▸ hc))
        omega
      rw [if_neg h0, if_pos this]; simp
theorem mixL_le (l m : List Nat) : ∀ c ∈ mixL l m, c ≤ 3 := by
  intro c hc
  unfold mixL at hc
  obtain ⟨i, hi, rfl⟩ := List.mem_iff_getElem.mp hc
  simp only [List.getElem_zipWith]
  split <;> omega
section
variable {prog : Program} {w : World} {h g : Heap} {L : Addr} {l : List (Str × Value)} {bag : List (Addr × Obj)}
theorem Ev.mono {e ctx : Addr} {k k' : Nat} {l : List Nat} (x : Ev prog w h e ctx k l) (hk : k ≤ k') : Ev prog w h e ctx k' l := fun s hs => (x s hs).mono hk fun _ _ _ p => p
/-- the object is the tuple of a constant -/
def CO (o : Obj) (l : List Nat) : Prop := isT o = true ∧ o.cls = .type "tuple" ∧ ∃ t0 t1 t2 t3 n, o.data = .seq #[.str "const" t0, .int l.length t1, .int (lo l) t2, .int (hi l) t3] n
theorem CO.ct {r : Addr} {o : Obj} {l : List Nat} (x : CO o l) (e : h.get? r = some o) : CT h r l := let ⟨_, c, t0, t1, t2, t3, n, d⟩ := x; ⟨t0, t1, t2, t3, o, e, c, n, d⟩
theorem Fm.ct {r : Addr} {ls : List Nat} (F : Fm g L h l bag) (V : CT h r ls) : ∃ o, CO o ls ∧ Fm g L h l ((r, o) :: bag) := by
  obtain ⟨t0, t1, t2, t3, o, ho, hc, n, hd⟩ := V
  have hT : isT o = true := by unfold isT; rw [hd, hc]; rfl
  exact ⟨o, ⟨hT, hc, t0, t1, t2, t3, n, hd⟩, F.addT ho hT⟩
end

end
section
/-- what the objects that turn no more tell -/
def KC (prog : Program) (w : World) (const : List (Addr × Obj)) (ctx D Am sv sm words : Addr) (vsb vsa : List Value) (lb : List Nat) (cells : Int → List Nat) (msb lsb fi la : Int) (ow : Obj) (kvw : List (Int × Value)) : Prop :=
  ∀ h : Heap, (∀ p ∈ const, h.get? p.1 = some p.2) → Ctx prog w h ctx lb cells msb lsb fi la ∧ h.IsList D vsb.toArray ∧ h.IsList Am vsa.toArray ∧ (∃ c d e f, SigO h sv 0 lb.length c d e f) ∧ (∃ c d e f, SigO h sm 1 3 c d e f) ∧ h.get? words = some ow ∧ ID prog w ow kvw ∧
    ∀ k, (valueAt kvw k = none ∧ cells k = xxx) ∨ ∃ r vs, valueAt kvw k = some (.ref r) ∧ h.IsList r vs.toArray ∧ NA vs (cells k)
theorem Fm.cst {g h : Heap} {L : Addr} {l : List (Str × Value)} {bag const : List (Addr × Obj)} (F : Fm g L h l bag) (hb : ∀ p ∈ const, p ∈ bag) : ∀ p ∈ const, h.get? p.1 = some p.2 := fun p hp => (F.bg p (hb p hp)).1
section
variable {prog : Program} {w : World} {A : Around} {E : Value → Shared → Prop} {s : Shared} {h g : Heap} {tk : Nat} {L c1 c2 c3 : Addr} {fnA : Addr} {cdV : Value}
theorem seg5 {row D Am ctx sv sm words : Addr} {ob o1 o2 o3 ow : Obj} {vsb vsa : List Value} {wd : Nat} {lb am : List Nat} {msb lsb fi la : Int} {t3 t4 tw : Tok} {sg : Bool} {const : List (Addr × Obj)} {kvw : List (Int × Value)} {cells : Int → List Nat} {ob0 : Obj} {Q : Flow → Shared → Prop} (hh : A.handled = none) (hd : A.depth + 100 < recursionLimit) (hu : A.units + 8 * 100 < cLine) (G : Gd w g)
    (X : Drawn ob0 o1 o2 o3 D vsb vsa lb am msb lsb fi la wd) (C : KC prog w const ctx D Am sv sm words vsb vsa lb cells msb lsb fi la ow kvw)
    (F : Fm g L h [("ctx", .ref ctx), ("words", .ref words), ("memory", .ref sm), ("vector", .ref sv), ("wide", .int wd tw), ("signed", .bool sg), ("amount", .ref Am), ("first", .int fi t3), ("last", .int la t4), ("row", .ref row)] ((row, ob) :: (c1, o1) :: (c2, o2) :: (c3, o3) :: const))
    (K : ∀ h' tk' iv ts, idxV (wholeL am sg) iv →
      Fm g L h' [("step", .int (stepL msb lsb) ts), ("index", iv), ("ctx", .ref ctx), ("words", .ref words), ("memory", .ref sm), ("vector", .ref sv), ("wide", .int wd tw), ("signed", .bool sg), ("amount", .ref Am), ("first", .int fi t3), ("last", .int la t4), ("row", .ref row)] ((row, ob) :: (c1, o1) :: (c2, o2) :: (c3, o3) :: const) →
      wpAny (model prog w) A (execs (lawB w 20) (lawE w fnA cdV L c1 c2 c3)) Q E (At s h' tk')) :
    wpAny (model prog w) A (execs (lawB w 18) (lawE w fnA cdV L c1 c2 c3)) Q E (At s h tk) := by
  have d1 := X.d1
  obtain ⟨u2, d2⟩ := X.d2
  obtain ⟨u3, d3⟩ := X.d3
  unfold lawB
  conv in List.drop _ _ => whnf
  unfold lawE
  kpt_turns
  obtain ⟨_, _, hAm, _⟩ := C h (F.cst (by intro p hp; repeat (first | exact hp | apply List.Mem.tail)))
  refine e_spec0 (whole_spec Am vsa am sg hAm X.na X.lna.1 (by have := X.lna.2; omega) X.ca) G F hh (dlt (by assumption)) (ult (by assumption)) ?_
  rintro iv h1 tk1 F1 _ P
  have hiv : idxV (wholeL am sg) iv := by
    unfold idxV
    cases hw : wholeL am sg with
    | none => rw [hw] at P; exact P
    | some i => rw [hw] at P; exact P
  clear P
  iterate 1 cell_call
  rename Fm g L _ _ _ => F2
  cell_call
  refine e_cut (s := s) F2 (fun v => ∃ t, v = .int (stepL msb lsb) t) (h1 := ?_) ?_
  · kpt_turns
    refine i_dec (fun q => ?_) (fun q => ?_)
    · kpt_turns
      exact ⟨⟨_, by unfold stepL; rw [if_pos q]⟩, _, _, rfl, F2⟩
    · kpt_turns
      exact ⟨⟨_, by unfold stepL; rw [if_neg q]⟩, _, _, rfl, F2⟩
  rintro _ h3 tk3 ⟨ts, rfl⟩ F3
  iterate 1 cell_call
  rename Fm g L _ _ _ => F4
  exact K _ _ _ _ hiv F4
end

end
section
theorem Fm.dr1 {g h : Heap} {L : Addr} {l : List (Str × Value)} {a b : Addr × Obj} {r : List (Addr × Obj)} (F : Fm g L h l (a :: b :: r)) : Fm g L h l (a :: r) := F.subb _ (.cons .here (.drop .refl))
theorem muts_perm {b b' : List (Addr × Obj)} (p : b.Perm b') : (muts b).Perm (muts b') := by
  induction p with
  | nil => exact .nil
  | cons x _ ih =>
    rw [muts, muts]
    cases isT x.2 with
    | true => exact ih
    | false => exact .cons _ ih
  | swap x y l =>
    simp only [muts]
    cases isT x.2 <;> cases isT y.2 <;> first | exact .refl _ | exact .swap ..
  | trans _ _ a b => exact a.trans b
theorem Fm.perm {g h : Heap} {L : Addr} {l : List (Str × Value)} {b b' : List (Addr × Obj)} (F : Fm g L h l b) (p : b.Perm b') : Fm g L h l b' := ⟨F.fr, fun q hq => F.bg q (p.mem_iff.mpr hq), (muts_perm p).nodup_iff.mp F.nd⟩
theorem Fm.rot3 {g h : Heap} {L : Addr} {l : List (Str × Value)} {x y z c1 c2 c3 : Addr × Obj} {ext b : List (Addr × Obj)} (F : Fm g L h l (x :: y :: z :: (ext ++ (c1 :: c2 :: c3 :: b)))) : Fm g L h l (c1 :: c2 :: c3 :: x :: y :: z :: (ext ++ b)) := by
  have p : ((x :: y :: z :: ext) ++ [c1, c2, c3] ++ b).Perm ([c1, c2, c3] ++ (x :: y :: z :: ext) ++ b) := List.perm_append_comm.append_right b
  refine F.perm ?_
  simpa using p
theorem Fm.tor3 {g h : Heap} {L : Addr} {l : List (Str × Value)} {v x y z c1 c2 c3 : Addr × Obj} {ext b : List (Addr × Obj)} (F : Fm g L h l (v :: c1 :: c2 :: c3 :: x :: y :: z :: (ext ++ b))) : Fm g L h l (x :: y :: z :: ((v :: ext) ++ (c1 :: c2 :: c3 :: b))) := by
  have p : ([v, c1, c2, c3] ++ [x, y, z] ++ (ext ++ b)).Perm ([x, y, z] ++ [v, c1, c2, c3] ++ (ext ++ b)) := List.perm_append_comm.append_right _
  have p2 : ([c1, c2, c3] ++ ext ++ b).Perm (ext ++ [c1, c2, c3] ++ b) := (List.perm_append_comm).append_right _
  rw [List.append_assoc ext] at p2
  have q : (x :: y :: z :: v :: c1 :: c2 :: c3 :: (ext ++ b)).Perm (x :: y :: z :: v :: (ext ++ c1 :: c2 :: c3 :: b)) := .cons _ (.cons _ (.cons _ (.cons _ p2)))
  exact F.perm (List.Perm.trans p q)
theorem NA.n3 (t : Tok) : NA [.int 3 t] [3] := NA.snoc .nil 3 t
theorem NA.rep3 (t : Tok) : ∀ n : Nat, NA (List.replicate n (.int 3 t)) (List.replicate n 3)
  | 0 => .nil
  | n + 1 => by rw [List.replicate_succ, List.replicate_succ]; exact IntsAre.cons 3 t (NA.rep3 t n)
theorem NA.xxx (t0 t1 t2 : Tok) : NA [.int 3 t0, .int 3 t1, .int 3 t2] xxx := IntsAre.cons 3 t0 (.cons 3 t1 (.cons 3 t2 .nil))
theorem NA.n102 (t0 t1 t2 : Tok) : NA [.int 1 t0, .int 0 t1, .int 2 t2] [1, 0, 2] := IntsAre.cons 1 t0 (.cons 0 t1 (.cons 2 t2 .nil))
theorem rep3_le (n : Nat) : ∀ c ∈ List.replicate n 3, c ≤ 3 := by intro c hc; rw [List.eq_of_mem_replicate hc]; exact Nat.le_refl _
noncomputable def forB (w : World) : List Stmt := match lawB w 20 with | .For _ _ body _ _ :: _ => body | _ => []
noncomputable def forK (w : World) (k : Nat) : List Stmt := (forB w).drop k
noncomputable def nmL (ctx words sm sv Am row : Addr) (wd : Nat) (tw t3 t4 ts : Tok) (fi la st : Int) (sg : Bool) (iv : Value) : List (Str × Value) :=
  [("step", .int st ts), ("index", iv), ("ctx", .ref ctx), ("words", .ref words), ("memory", .ref sm), ("vector", .ref sv), ("wide", .int wd tw), ("signed", .bool sg), ("amount", .ref Am), ("first", .int fi t3), ("last", .int la t4), ("row", .ref row)]
section
variable {ctx words sm sv Am row : Addr} {wd : Nat} {tw t3 t4 ts : Tok} {fi la st : Int} {sg : Bool} {iv : Value}
theorem nml_step : lk (nmL ctx words sm sv Am row wd tw t3 t4 ts fi la st sg iv) "step" = some (.int st ts) := by unfold nmL; k_clsL
theorem nml_index : lk (nmL ctx words sm sv Am row wd tw t3 t4 ts fi la st sg iv) "index" = some iv := by unfold nmL; k_clsL
theorem nml_ctx : lk (nmL ctx words sm sv Am row wd tw t3 t4 ts fi la st sg iv) "ctx" = some (.ref ctx) := by unfold nmL; k_clsL
theorem nml_words : lk (nmL ctx words sm sv Am row wd tw t3 t4 ts fi la st sg iv) "words" = some (.ref words) := by unfold nmL; k_clsL
theorem nml_memory : lk (nmL ctx words sm sv Am row wd tw t3 t4 ts fi la st sg iv) "memory" = some (.ref sm) := by unfold nmL; k_clsL
theorem nml_vector : lk (nmL ctx words sm sv Am row wd tw t3 t4 ts fi la st sg iv) "vector" = some (.ref sv) := by unfold nmL; k_clsL
theorem nml_wide : lk (nmL ctx words sm sv Am row wd tw t3 t4 ts fi la st sg iv) "wide" = some (.int wd tw) := by unfold nmL; k_clsL
theorem nml_signed : lk (nmL ctx words sm sv Am row wd tw t3 t4 ts fi la st sg iv) "signed" = some (.bool sg) := by unfold nmL; k_clsL
theorem nml_amount : lk (nmL ctx words sm sv Am row wd tw t3 t4 ts fi la st sg iv) "amount" = some (.ref Am) := by unfold nmL; k_clsL
theorem nml_first : lk (nmL ctx words sm sv Am row wd tw t3 t4 ts fi la st sg iv) "first" = some (.int fi t3) := by unfold nmL; k_clsL
theorem nml_last : lk (nmL ctx words sm sv Am row wd tw t3 t4 ts fi la st sg iv) "last" = some (.int la t4) := by unfold nmL; k_clsL
theorem nml_row : lk (nmL ctx words sm sv Am row wd tw t3 t4 ts fi la st sg iv) "row" = some (.ref row) := by unfold nmL; k_clsL
theorem nml_self : Lks (nmL ctx words sm sv Am row wd tw t3 t4 ts fi la st sg iv) (nmL ctx words sm sv Am row wd tw t3 t4 ts fi la st sg iv) := (.cons nml_step (.cons nml_index (.cons nml_ctx (.cons nml_words (.cons nml_memory (.cons nml_vector (.cons nml_wide (.cons nml_signed (.cons nml_amount (.cons nml_first (.cons nml_last (.cons nml_row .nil))))))))))))
theorem Lks.pre {x : Str} {v : Value} {l r : List (Str × Value)} (S : Lks l r) : (∀ p ∈ r, (p.1 == x) = false) → Lks ((x, v) :: l) r := by
  induction S with
  | nil => exact fun _ => .nil
  | cons e _ ih => exact fun h => .cons (lk_there (h _ (.head _)) e) (ih fun p hp => h p (.tail _ hp))
theorem nml_pre {x : Str} {v : Value} {l : List (Str × Value)} (hx : (nmL ctx words sm sv Am row wd tw t3 t4 ts fi la st sg iv).all (fun p => !(p.1 == x)) = true) (S : Lks l (nmL ctx words sm sv Am row wd tw t3 t4 ts fi la st sg iv)) : Lks ((x, v) :: l) (nmL ctx words sm sv Am row wd tw t3 t4 ts fi la st sg iv) :=
  S.pre fun p hp => by simpa using List.all_eq_true.mp hx p hp
end

end
local macro_rules | `(tactic| k_clsL) => `(tactic| first | with_reducible exact nml_step | with_reducible exact nml_index | with_reducible exact nml_ctx | with_reducible exact nml_words | with_reducible exact nml_memory | with_reducible exact nml_vector | with_reducible exact nml_wide | with_reducible exact nml_signed | with_reducible exact nml_amount | with_reducible exact nml_first | with_reducible exact nml_last | with_reducible exact nml_row)
local macro_rules | `(tactic| tb_start) => `(tactic| first | with_reducible exact nml_self | (with_reducible refine nml_pre (by kernel_rfl!) ?_; tb_start))
section
section
variable {prog : Program} {w : World} {A : Around} {E : Value → Shared → Prop} {s : Shared} {h g : Heap} {tk : Nat} {L c1 c2 c3 : Addr} {fnA : Addr} {cdV : Value}
theorem bodyA {row D Am ctx sv sm words b : Addr} {ob o1 o2 o3 ow : Obj} {vsb vsa : List Value} {wd : Nat} {lb am : List Nat} {msb lsb fi la : Int} {t3 t4 tw ts : Tok} {sg : Bool} {const rest : List (Addr × Obj)} {kvw : List (Int × Value)} {cells : Int → List Nat} {ob0 : Obj} {iv : Value} {Q : Flow → Shared → Prop} (hh : A.handled = none) (hd : A.depth + 100 < recursionLimit) (hu : A.units + 8 * 100 < cLine) (G : Gd w g)
    (X : Drawn ob0 o1 o2 o3 D vsb vsa lb am msb lsb fi la wd) (C : KC prog w const ctx D Am sv sm words vsb vsa lb cells msb lsb fi la ow kvw) (hr : ∀ p ∈ const, p ∈ rest) (hb : ∀ h : Heap, (∀ p ∈ rest, h.get? p.1 = some p.2) → Ev prog w h b ctx 8 lb) (hiv : idxV (wholeL am sg) iv)
    (F : Fm g L h (("base", .ref b) :: nmL ctx words sm sv Am row wd tw t3 t4 ts fi la (stepL msb lsb) sg iv) ((row, ob) :: (c1, o1) :: (c2, o2) :: (c3, o3) :: rest))
    (K : ∀ h' tk' Dd n r1 r2 r3 q1 q2 q3, VO q1 (pickV lb am sg lsb (stepL msb lsb) 1) → VO q2 (pickV lb am sg (lsb - shL msb lsb wd) (stepL msb lsb) wd) → VO q3 (pickV lb am sg (lsb + wd - 1 - shL msb lsb wd) (stepL msb lsb) wd) →
      Fm g L h' (("due", .ref Dd) :: ("base", .ref b) :: nmL ctx words sm sv Am row wd tw t3 t4 ts fi la (stepL msb lsb) sg iv) ((Dd, LO [.ref r1, .ref r2, .ref r3] n) :: (r1, q1) :: (r2, q2) :: (r3, q3) :: (row, ob) :: (c1, o1) :: (c2, o2) :: (c3, o3) :: rest) →
      wpAny (model prog w) A (execs (forK w 1) (lawE w fnA cdV L c1 c2 c3)) Q E (At s h' tk')) :
    wpAny (model prog w) A (execs (forK w 0) (lawE w fnA cdV L c1 c2 c3)) Q E (At s h tk) := by
  have d1 := X.d1
  obtain ⟨u2, d2⟩ := X.d2
  obtain ⟨u3, d3⟩ := X.d3
  have lw := X.lw
  have hlb : lb.length ≤ 20 := by
    have hl := X.lnb
    have := X.rg
    split at hl <;> omega
  unfold forK
  conv in List.drop _ _ => whnf
  unfold lawE
  refine s_ifj2 (fun s' => ∃ h' tk' Dd n r1 r2 r3 q1 q2 q3, s' = At s h' tk' ∧ VO q1 (pickV lb am sg lsb (stepL msb lsb) 1) ∧ VO q2 (pickV lb am sg (lsb - shL msb lsb wd) (stepL msb lsb) wd) ∧ VO q3 (pickV lb am sg (lsb + wd - 1 - shL msb lsb wd) (stepL msb lsb) wd) ∧
    Fm g L h' (("due", .ref Dd) :: ("base", .ref b) :: nmL ctx words sm sv Am row wd tw t3 t4 ts fi la (stepL msb lsb) sg iv) ((Dd, LO [.ref r1, .ref r2, .ref r3] n) :: (r1, q1) :: (r2, q2) :: (r3, q3) :: (row, ob) :: (c1, o1) :: (c2, o2) :: (c3, o3) :: rest)) ?_ ?_
  · cases hw : wholeL am sg with
    | none =>
      have hiv : iv = .none := by rw [hw] at hiv; exact hiv
      subst hiv
      kpt_turns
      rename Fm g L _ _ _ => F1
      refine e_spec0 (made_spec _ _ [3] (F1.lstP (by ktu_off1L)) (NA.n3 _) (by decide) (by decide)) G F1 hh (dlt (by assumption)) (ult (by assumption)) ?_
      rintro _ h2 tk2 F2 _ ⟨r1, rfl, V⟩
      obtain ⟨q1, hq1, F2⟩ := F2.vec V
      have F2 := F2.dr1
      kpt_turns
      rename Fm g L _ _ _ => F3
      refine o_lmul1 F3 (F3.hasP (by ktu_off1L)) rfl (by omega) ?_
      intro D4 h4 F4
      kpt_turns
      refine e_spec0 (made_spec _ _ (List.replicate wd 3) (F4.lstP (by ktu_off1L)) (NA.rep3 _ wd) (by rw [List.length_replicate]; omega) (rep3_le _)) G F4 hh (dlt (by assumption)) (ult (by assumption)) ?_
      rintro _ h5 tk5 F5 _ ⟨r2, rfl, V⟩
      obtain ⟨q2, hq2, F5⟩ := F5.vec V
      have F5 := F5.dr1.dr1
      kpt_turns
      rename Fm g L _ _ _ => F6
      refine o_lmul1 F6 (F6.hasP (by ktu_off1L)) rfl (by omega) ?_
      intro D7 h7 F7
      kpt_turns
      refine e_spec0 (made_spec _ _ (List.replicate wd 3) (F7.lstP (by ktu_off1L)) (NA.rep3 _ wd) (by rw [List.length_replicate]; omega) (rep3_le _)) G F7 hh (dlt (by assumption)) (ult (by assumption)) ?_
      rintro _ h8 tk8 F8 _ ⟨r3, rfl, V⟩
      obtain ⟨q3, hq3, F8⟩ := F8.vec V
      have F8 := F8.dr1.dr1
      kpt_turns
      rename Fm g L _ _ _ => F9
      refine ⟨rfl, _, _, _, _, r1, r2, r3, q1, q2, q3, rfl, ?_, ?_, ?_, F9.sub _ _ (by tb_start) (by tb_rel)⟩
      · rw [pickV_none hw]; exact hq1
      · rw [pickV_none hw]; exact hq2
      · rw [pickV_none hw]; exact hq3
    | some i =>
      have hi' := wholeL_le hw X.lna.2
      have hiv : ∃ t, iv = .int i t := by rw [hw] at hiv; exact hiv
      obtain ⟨ti, rfl⟩ := hiv
      kpt_turns
      rename Fm g L _ _ _ => F1
      refine b_range2 F1 ?_
      intro r2 h2 t2 tk2 F2 hr2
      kpt_turns
      refine b_lrange wd hh F2 hr2 rfl (by omega) (by omega) ?_
      intro Du h3 tk3 us nu F3 hus
      kpt_turns
      rename Fm g L _ _ _ => F4
      refine b_range2 F4 ?_
      intro r5 h5 t5 tk5 F5 hr5
      kpt_turns
      refine b_lrange wd hh F5 hr5 (by omega) (by omega) (by omega) ?_
      intro Dw h6 tk6 ws nw F6 hws
      kpt_turns
      refine s_comp (by with_unfolding_all rfl) ?_
      kpt_turns
      rename Fm g L _ _ _ => F7
      rename_i a1 _ _ _ lst h7 _
      have F8 := F7.subb ((c1, o1) :: (c2, o2) :: (c3, o3) :: (lst, LO [.ref a1, .ref Du, .ref Dw] 0) :: (a1, LO [.int i ti] 0) :: (Dw, LO ws nw) :: (Du, LO us nu) :: (row, ob) :: rest) (by tb_rel)
      clear F1 F2 F3 F4 F5 F6 F7
      have L1 := pick_one (l := lb) (msb := msb) (lsb := lsb) hw
      have L2 := pick_up (l := lb) (msb := msb) (lsb := lsb) wd hw
      have L3 := pick_down (l := lb) (msb := msb) (lsb := lsb) wd hw
      rw [← L1, ← L2, ← L3]
      clear L1 L2 L3
      refine c_list (vs := [.ref a1, .ref Du, .ref Dw]) (fun i' ys ext => ys = (ext.map fun p => Value.ref p.1).reverse ∧ VOs ext (([pickL lb msb lsb [i], pickL lb msb lsb (upI i wd), pickL lb msb lsb (upI (i - wd + 1) wd)].take i').reverse) ∧ ys.length = i') hh F8
        (fun C h nm b F hb => F.lst (hb _ (.tail _ (.tail _ (.tail _ (.head _)))))) (by simp) ⟨rfl, .nil, rfl⟩ (fun i ys ext x => x.2.2) ?_ ?_
      · rintro j v C9 h tk nm I oI p2 D2 zs k' ext hj hvj ⟨rfl, hv, hzl⟩ F
        have F := F.rot3
        have hX : ∃ x us' n ns l, v = .ref x ∧ (x, LO us' n) ∈ ((c1, o1) :: (c2, o2) :: (c3, o3) :: (I, oI) :: p2 :: (D2, LO ((ext.map fun p => Value.ref p.1).reverse) k') :: (ext ++ ((lst, LO [.ref a1, .ref Du, .ref Dw] 0) :: (a1, LO [.int i ti] 0) :: (Dw, LO ws nw) :: (Du, LO us nu) :: (row, ob) :: rest))) ∧ IntsAre us' ns ∧ ns.length ≤ 100 ∧ pickL lb msb lsb ns = l ∧
            ([pickL lb msb lsb [i], pickL lb msb lsb (upI i wd), pickL lb msb lsb (upI (i - wd + 1) wd)].take (j + 1)).reverse = l :: ([pickL lb msb lsb [i], pickL lb msb lsb (upI i wd), pickL lb msb lsb (upI (i - wd + 1) wd)].take j).reverse := by
          have : j = 0 ∨ j = 1 ∨ j = 2 := by simp only [List.length_cons, List.length_nil] at hj; omega
          rcases this with rfl | rfl | rfl
          · exact ⟨a1, [.int i ti], 0, [i], _, (Option.some.inj hvj).symm, by simp, .cons i ti .nil, by simp, rfl, rfl⟩
          · exact ⟨Du, us, nu, upI i wd, _, (Option.some.inj hvj).symm, by simp, hus, by rw [upI_length]; omega, rfl, rfl⟩
          · exact ⟨Dw, ws, nw, upI (i - wd + 1) wd, _, (Option.some.inj hvj).symm, by simp, hws, by rw [upI_length]; omega, rfl, rfl⟩
        obtain ⟨x, us', n, ns, l, rfl, hXm, hXi, hXn, el, er⟩ := hX
        refine wpAny_assign_Name ?_
        kpt_turns
        rename Fm g C9 _ _ _ => F2
        obtain ⟨_, hD, _⟩ := C _ (F2.cst (by intro p hp; simp [hr p hp]))
        refine e_spec0 (picked_spec D x vsb us' lb ns msb lsb _ _ hD X.nb (by omega) X.cb (F2.lst hXm) hXi hXn) (by assumption) (by assumption) (by assumption) (dlt (by assumption)) (ult (by assumption)) ?_
        rintro _ h3 tk3 F3 _ ⟨r, rfl, V⟩
        obtain ⟨ov, hov, F3⟩ := F3.vec V
        have F4 := F3.tor3
        refine CEl.mk ((r, ov) :: ext) F4 .refl ⟨by simp, ?_, by rw [List.length_append, hzl]; rfl⟩
        rw [er, ← el]; exact .cons hov hv
      · rintro D2 Cc oC h tk k' zs ext ⟨rfl, hv, hzl⟩ F z hn
        have hv : VOs ext [pickL lb msb lsb (upI (i - wd + 1) wd), pickL lb msb lsb (upI i wd), pickL lb msb lsb [i]] := hv
        cases hv with | @cons r3 q3 _ _ _ hv3 hv => ?_
        cases hv with | @cons r2 q2 _ _ _ hv2 hv => ?_
        cases hv with | @cons r1 q1 _ _ _ hv1 hv => ?_
        cases hv
        simp only [List.map_cons, List.map_nil, List.reverse_cons, List.reverse_nil, List.nil_append, List.cons_append] at F
        refine cp_name (by kernel_rfl!) F z hn fun h2 tk2 F2 => ?_
        kpt_turns
        exact ⟨rfl, _, _, _, _, r1, r2, r3, q1, q2, q3, rfl, hv1, hv2, hv3, F2.sub _ _ (by tb_start) (by tb_rel)⟩
  · rintro _ ⟨h', tk', Dd, n, r1, r2, r3, q1, q2, q3, rfl, v1, v2, v3, F'⟩
    exact K h' tk' Dd n r1 r2 r3 q1 q2 q3 v1 v2 v3 F'
end

end
section
section
variable {prog : Program} {w : World} {A : Around} {E : Value → Shared → Prop} {s : Shared} {h g : Heap} {tk : Nat} {L c1 c2 c3 : Addr} {fnA : Addr} {cdV : Value}
theorem bodyB {row D Am ctx sv sm words b Dd r1 r2 r3 : Addr} {ob o1 o2 o3 ow q1 q2 q3 : Obj} {vsb vsa : List Value} {wd n : Nat} {lb am : List Nat} {msb lsb fi la : Int} {t3 t4 tw ts : Tok} {sg : Bool} {const rest : List (Addr × Obj)} {kvw : List (Int × Value)} {cells : Int → List Nat} {ob0 : Obj} {iv : Value} {Q : Flow → Shared → Prop} (hh : A.handled = none) (hd : A.depth + 100 < recursionLimit) (hu : A.units + 8 * 100 < cLine) (G : Gd w g)
    (X : Drawn ob0 o1 o2 o3 D vsb vsa lb am msb lsb fi la wd) (C : KC prog w const ctx D Am sv sm words vsb vsa lb cells msb lsb fi la ow kvw) (hr : ∀ p ∈ const, p ∈ rest) (hb : ∀ h : Heap, (∀ p ∈ rest, h.get? p.1 = some p.2) → Ev prog w h b ctx 8 lb)
    (v1 : VO q1 (pickV lb am sg lsb (stepL msb lsb) 1)) (v2 : VO q2 (pickV lb am sg (lsb - shL msb lsb wd) (stepL msb lsb) wd)) (v3 : VO q3 (pickV lb am sg (lsb + wd - 1 - shL msb lsb wd) (stepL msb lsb) wd))
    (F : Fm g L h (("due", .ref Dd) :: ("base", .ref b) :: nmL ctx words sm sv Am row wd tw t3 t4 ts fi la (stepL msb lsb) sg iv) ((Dd, LO [.ref r1, .ref r2, .ref r3] n) :: (r1, q1) :: (r2, q2) :: (r3, q3) :: (row, ob) :: (c1, o1) :: (c2, o2) :: (c3, o3) :: rest))
    (K : ∀ h' tk', Fm g L h' (("base", .ref b) :: nmL ctx words sm sv Am row wd tw t3 t4 ts fi la (stepL msb lsb) sg iv) ((row, ob) :: (c1, o1) :: (c2, o2) :: (c3, o3) :: rest) → wpAny (model prog w) A (execs (forK w 6) (lawE w fnA cdV L c1 c2 c3)) Q E (At s h' tk')) :
    wpAny (model prog w) A (execs (forK w 1) (lawE w fnA cdV L c1 c2 c3)) Q E (At s h tk) := by
  have d1 := X.d1
  obtain ⟨u2, d2⟩ := X.d2
  obtain ⟨u3, d3⟩ := X.d3
  have lw := X.lw
  have hlb : lb.length ≤ 20 := by
    have hl := X.lnb
    have := X.rg
    split at hl <;> omega
  have hst : stepL msb lsb = 1 ∨ stepL msb lsb = -1 := by unfold stepL; split <;> simp
  have hsh : 0 ≤ shL msb lsb wd ∧ shL msb lsb wd ≤ 6 := by unfold shL; split <;> omega
  have hst1 : shL msb lsb wd = if stepL msb lsb = 1 then 0 else (wd : Int) - 1 := by unfold shL stepL; by_cases q : lsb ≤ msb <;> simp [q]
  have hls : -5 ≤ lsb ∧ lsb ≤ 6 := ⟨X.rg.2.2.1, X.rg.2.2.2⟩
  generalize stepL msb lsb = st at *
  generalize shL msb lsb wd = sh at *
  have hcr : ∀ p ∈ const, p ∈ rest := hr
  unfold forK
  conv in List.drop _ _ => whnf
  unfold lawE
  cell_call
  refine e_cut (s := s) F (fun v => ∃ t, v = .int sh t) (h1 := ?_) ?_
  · kpt_turns
    refine i_dec (fun q => ?_) (fun q => ?_)
    · kpt_turns
      exact ⟨⟨_, by rw [hst1, if_pos q]⟩, _, _, rfl, F⟩
    · kpt_turns
      exact ⟨⟨_, by rw [hst1, if_neg q]⟩, _, _, rfl, F⟩
  rintro _ h1 tk1 ⟨tsh, rfl⟩ F1
  kpt_turns
  rename Fm g L _ _ _ => F2
  obtain ⟨_, _, hAm, _⟩ := C _ (F2.cst (by intro p hp; have hp := hr p hp; repeat (first | exact hp | apply List.Mem.tail)))
  refine e_spec0 (const_spec Am vsa am hAm X.na (by have := X.lna.2; omega) X.ca) G F2 hh (dlt (by assumption)) (ult (by assumption)) ?_
  rintro _ h3 tk3 F3 _ ⟨ra, rfl, V⟩
  obtain ⟨oa, hoa, F3⟩ := F3.ct V
  kpt_turns
  rename Fm g L _ _ _ => F4
  rename_i rt1 _ _
  refine e_spec0 (ev_pick (hb _ (F4.cst (by intro p hp; repeat (first | exact hp | apply List.Mem.tail)))) ((ev_const (hoa.ct (F4.hasP (by ktu_off1L)))).mono (by decide)) X.ca X.lna.1 X.lna.2 (by omega) (by decide) (by omega) hst ⟨_, _, _, _, F4.tup (.head _)⟩ (At s _ _) (fun _ _ e => e)) G F4 hh (dlt (by assumption)) (ult (by assumption)) ?_
  rintro _ h5 tk5 F5 _ ⟨x1, rfl, V⟩
  obtain ⟨p1, hp1, F5⟩ := F5.vec V
  have F5 := F5.dr1.dr1
  kpt_turns
  rename Fm g L _ _ _ => F6
  obtain ⟨_, _, hAm, _⟩ := C _ (F6.cst (by intro p hp; have hp := hr p hp; repeat (first | exact hp | apply List.Mem.tail)))
  refine e_spec0 (const_spec Am vsa am hAm X.na (by have := X.lna.2; omega) X.ca) G F6 hh (dlt (by assumption)) (ult (by assumption)) ?_
  rintro _ h7 tk7 F7 _ ⟨ra2, rfl, V⟩
  obtain ⟨oa2, hoa2, F7⟩ := F7.ct V
  kpt_turns
  rename Fm g L _ _ _ => F8
  refine e_spec0 (ev_pick (hb _ (F8.cst (by intro p hp; repeat (first | exact hp | apply List.Mem.tail)))) ((ev_const (hoa2.ct (F8.hasP (by ktu_off1L)))).mono (by decide)) X.ca X.lna.1 X.lna.2 (by omega) (by omega) (by omega) hst ⟨_, _, _, _, F8.tup (.head _)⟩ (At s _ _) (fun _ _ e => e)) G F8 hh (dlt (by assumption)) (ult (by assumption)) ?_
  rintro _ h9 tk9 F9 _ ⟨x2, rfl, V⟩
  obtain ⟨p2, hp2, F9⟩ := F9.vec V
  have F9 := F9.dr1.dr1
  kpt_turns
  refine m_app F9 (by ktu_off1L) (by simp [sizeLine_eq]) ?_
  intro h10 n10 F10
  kpt_turns
  rename Fm g L _ _ _ => F11
  obtain ⟨_, _, hAm, _⟩ := C _ (F11.cst (by intro p hp; have hp := hr p hp; repeat (first | exact hp | apply List.Mem.tail)))
  refine e_spec0 (const_spec Am vsa am hAm X.na (by have := X.lna.2; omega) X.ca) G F11 hh (dlt (by assumption)) (ult (by assumption)) ?_
  rintro _ h12 tk12 F12 _ ⟨ra3, rfl, V⟩
  obtain ⟨oa3, hoa3, F12⟩ := F12.ct V
  kpt_turns
  rename Fm g L _ _ _ => F13
  refine e_spec0 (ev_pick (hb _ (F13.cst (by intro p hp; repeat (first | exact hp | apply List.Mem.tail)))) ((ev_const (hoa3.ct (F13.hasP (by ktu_off1L)))).mono (by decide)) X.ca X.lna.1 X.lna.2 (by omega) (by omega) (by omega) hst ⟨_, _, _, _, F13.tup (.head _)⟩ (At s _ _) (fun _ _ e => e)) G F13 hh (dlt (by assumption)) (ult (by assumption)) ?_
  rintro _ h14 tk14 F14 _ ⟨x3, rfl, V⟩
  obtain ⟨p3, hp3, F14⟩ := F14.vec V
  have F14 := F14.dr1.dr1
  kpt_turns
  refine m_app F14 (by ktu_off1L) (by simp [sizeLine_eq]) ?_
  intro h15 n15 F15
  kpt_turns
  rename Fm g L _ _ _ => F16
  refine c_nevec3 (a1 := x1) (a2 := x2) (a3 := x3) (b1 := r1) (b2 := r2) (b3 := r3) (F16.lstP (by ktu_off1L)) (F16.lstP (by ktu_off1L)) (hp1.vec (F16.hasP (by ktu_off1L))) (hp2.vec (F16.hasP (by ktu_off1L))) (hp3.vec (F16.hasP (by ktu_off1L))) (v1.vec (F16.hasP (by ktu_off1L))) (v2.vec (F16.hasP (by ktu_off1L))) (v3.vec (F16.hasP (by ktu_off1L))) (by omega) ?_
  iterate 4 cell_call
  exact K _ _ (F16.sub _ _ (by tb_start) (by repeat first | exact Sel.refl | refine Sel.drop ?_))
end

end
section
section
variable {prog : Program} {w : World} {A : Around} {E : Value → Shared → Prop} {s : Shared} {h g : Heap} {tk : Nat} {L c1 c2 c3 : Addr} {fnA : Addr} {cdV : Value}
theorem bodyC {row D Am ctx sv sm words b : Addr} {ob o1 o2 o3 ow : Obj} {vsb vsa : List Value} {wd : Nat} {lb am : List Nat} {msb lsb fi la st : Int} {t3 t4 tw ts : Tok} {sg : Bool} {const rest : List (Addr × Obj)} {kvw : List (Int × Value)} {cells : Int → List Nat} {ob0 : Obj} {iv : Value} {Q : Flow → Shared → Prop} (hh : A.handled = none) (hd : A.depth + 100 < recursionLimit) (hu : A.units + 8 * 100 < cLine) (G : Gd w g)
    (X : Drawn ob0 o1 o2 o3 D vsb vsa lb am msb lsb fi la wd) (ho : RowO ob) (C : KC prog w const ctx D Am sv sm words vsb vsa lb cells msb lsb fi la ow kvw) (hr : ∀ p ∈ const, p ∈ rest) (hb : ∀ h : Heap, (∀ p ∈ rest, h.get? p.1 = some p.2) → Ev prog w h b ctx 8 lb)
    (F : Fm g L h (("base", .ref b) :: nmL ctx words sm sv Am row wd tw t3 t4 ts fi la st sg iv) ((row, ob) :: (c1, o1) :: (c2, o2) :: (c3, o3) :: rest))
    (K : ∀ h' tk' ob', RowO ob' → Fm g L h' (("base", .ref b) :: nmL ctx words sm sv Am row wd tw t3 t4 ts fi la st sg iv) ((row, ob') :: (c1, o1) :: (c2, o2) :: (c3, o3) :: rest) → Q .next (At s h' tk')) :
    wpAny (model prog w) A (execs (forK w 6) (lawE w fnA cdV L c1 c2 c3)) Q E (At s h tk) := by
  have d1 := X.d1
  obtain ⟨u2, d2⟩ := X.d2
  obtain ⟨u3, d3⟩ := X.d3
  have lw := X.lw
  have hlb : lb.length ≤ 20 := by
    have hl := X.lnb
    have := X.rg
    split at hl <;> omega
  unfold forK
  conv in List.drop _ _ => whnf
  unfold lawE
  kpt_turns
  refine e_next G F (by ktu_off1L) ho hh (dlt (by assumption)) (ult (by assumption)) ?_
  intro h1 tk1 ob1 c1' t1 F1 ho1
  kpt_turns
  rename Fm g L _ _ _ => F2
  obtain ⟨lw0, hlw⟩ : ∃ k : Int, (c1' : Int) % 16 - 4 = k := ⟨_, rfl⟩
  have hlwb : -4 ≤ lw0 ∧ lw0 ≤ 12 := by omega
  rw [hlw] at F2
  refine s_comp (by with_unfolding_all rfl) ?_
  kpt_turns
  refine c_range wd (fun i zs ext => ext = [] ∧ zs.length = i ∧ NA zs ((List.range i).map fun (j : Nat) => atI lb (lw0 + (j : Int)))) hh F2 rfl (by omega) (by omega) ⟨rfl, rfl, .nil⟩ (fun i ys ext x => x.2.1) ?_ ?_
  · rintro i v C9 h tk nm I oI p2 D2 zs k ext hi ⟨t, rfl⟩ ⟨rfl, hzl, hz⟩ F
    simp only [List.nil_append] at F
    obtain ⟨sp, hsp⟩ : ∃ sp, lw0 + (i : Int) = sp := ⟨_, rfl⟩
    rw [hsp]
    have fin : ∀ {h' tk' nm' t'}, Fm g C9 h' nm' ((I, oI) :: p2 :: (D2, LO zs k) :: (row, ob1) :: (c1, o1) :: (c2, o2) :: (c3, o3) :: rest) → CEl s g C9 (I, oI) p2 D2 zs k ((row, ob1) :: (c1, o1) :: (c2, o2) :: (c3, o3) :: rest) (fun zs ext => ext = [] ∧ zs.length = i + 1 ∧ NA zs ((List.range (i + 1)).map fun (j : Nat) => atI lb (lw0 + (j : Int)))) (.int (atI lb sp : Nat) t') (At s h' tk') := by
      intro h' tk' nm' t' F'
      refine CEl.mk [] F' .refl ⟨rfl, by simp [hzl], ?_⟩
      rw [List.range_succ, List.map_append, ← hsp]
      exact hz.snoc _ _
    refine wpAny_assign_Name ?_
    kpt_turns
    rename Fm g C9 _ _ _ => F3
    obtain ⟨_, hD, _⟩ := C _ (F3.cst (by intro p hp; have hp := hr p hp; repeat (first | exact hp | apply List.Mem.tail)))
    refine isT_chain2 ?_
    kpt_turns
    refine i_dec (fun q1 => ?_) (fun q1 => ?_)
    · kpt_turns
      refine b_len hD (by rw [X.nb.length, sizeLine_eq]; omega) ?_
      intro _ _
      rw [X.nb.length]
      kpt_turns
      refine i_dec (fun q2 => ?_) (fun q2 => ?_)
      · obtain ⟨j, rfl⟩ : ∃ j : Nat, sp = j := ⟨sp.toNat, by omega⟩
        have e : atI lb (j : Nat) = lb.getD j 0 := by
          unfold atI
          rw [if_pos (by omega)]; rfl
        rw [e] at fin
        kpt_turns
        refine e_itemN hD X.nb (by omega) (by omega) ?_
        intro _
        exact fin F3
      · have e : atI lb sp = 3 := by
          unfold atI
          rw [if_neg (by omega)]
        rw [e] at fin
        kpt_turns
        exact fin F3
    · have e : atI lb sp = 3 := by
        unfold atI
        rw [if_neg (by omega)]
      rw [e] at fin
      kpt_turns
      exact fin F3
  · rintro D2 Cc oC h tk k' zs ext ⟨rfl, hzl, hz⟩ F z hn
    simp only [List.nil_append] at F
    refine cp_name (by kernel_rfl!) F z hn fun h2 tk2 F2 => ?_
    kpt_turns
    rename Fm g L _ _ _ => F5
    refine e_spec0 (ev_slice (n := wd) (i := lw0) (hb _ (F5.cst (by intro p hp; repeat (first | exact hp | apply List.Mem.tail)))) (by omega) (by omega) (by omega) ⟨_, _, _, F5.tup (.head _)⟩ (At s _ _) (fun _ _ e => e)) G F5 hh (dlt (by assumption)) (ult (by assumption)) ?_
    rintro _ h6 tk6 F6 _ ⟨x1, rfl, V⟩
    obtain ⟨p1, hp1, F6⟩ := F6.vec V
    kpt_turns
    have hcc : ∀ c ∈ (List.range wd).map (fun (j : Nat) => atI lb (lw0 + (j : Int))), c ≤ 3 := sliceL_le X.cb lw0 wd
    refine e_spec0 (made_spec D2 zs _ (F6.lstP (by ktu_off1L)) hz (by rw [List.length_map, List.length_range]; omega) hcc) G F6 hh (dlt (by assumption)) (ult (by assumption)) ?_
    rintro _ h7 tk7 F7 _ ⟨x2, rfl, V2⟩
    kpt_turns
    refine c_nevec (hp1.vec (F7.hasP (by ktu_off1L))) V2 (by omega) ?_
    kpt_turns
    rename Fm g L _ _ _ => F8
    exact K _ _ _ ho1 (F8.sub _ _ (by tb_start) (by repeat first | exact Sel.refl | refine Sel.drop ?_))
end

end
section
section
variable {prog : Program} {w : World} {A : Around} {E : Value → Shared → Prop} {s : Shared} {h g : Heap} {tk : Nat} {L c1 c2 c3 : Addr} {fnA : Addr} {cdV : Value}
theorem seg6 {row D Am ctx sv sm words : Addr} {ob o1 o2 o3 ow : Obj} {vsb vsa : List Value} {wd : Nat} {lb am : List Nat} {msb lsb fi la : Int} {t3 t4 tw ts : Tok} {sg : Bool} {const : List (Addr × Obj)} {kvw : List (Int × Value)} {cells : Int → List Nat} {ob0 : Obj} {iv : Value} {Q : Flow → Shared → Prop} (hh : A.handled = none) (hd : A.depth + 100 < recursionLimit) (hu : A.units + 8 * 100 < cLine) (G : Gd w g)
    (X : Drawn ob0 o1 o2 o3 D vsb vsa lb am msb lsb fi la wd) (ho : RowO ob) (C : KC prog w const ctx D Am sv sm words vsb vsa lb cells msb lsb fi la ow kvw) (hiv : idxV (wholeL am sg) iv)
    (F : Fm g L h (nmL ctx words sm sv Am row wd tw t3 t4 ts fi la (stepL msb lsb) sg iv) ((row, ob) :: (c1, o1) :: (c2, o2) :: (c3, o3) :: const))
    (K : ∀ h' tk' ob', RowO ob' → Fm g L h' (nmL ctx words sm sv Am row wd tw t3 t4 ts fi la (stepL msb lsb) sg iv) ((row, ob') :: (c1, o1) :: (c2, o2) :: (c3, o3) :: const) → wpAny (model prog w) A (execs (lawB w 21) (lawE w fnA cdV L c1 c2 c3)) Q E (At s h' tk')) :
    wpAny (model prog w) A (execs (lawB w 20) (lawE w fnA cdV L c1 c2 c3)) Q E (At s h tk) := by
  have d1 := X.d1
  obtain ⟨u2, d2⟩ := X.d2
  obtain ⟨u3, d3⟩ := X.d3
  have hlb : 0 < lb.length ∧ lb.length ≤ 20 := by
    have hl := X.lnb
    have := X.rg
    split at hl <;> omega
  unfold lawB
  conv in List.drop _ _ => whnf
  unfold lawE
  obtain ⟨_, hD0, _, ⟨_, _, _, _, S0⟩, _⟩ := C _ (F.cst (by intro p hp; repeat (first | exact hp | apply List.Mem.tail)))
  obtain ⟨q0, q1, q2, q3, q4, q5, q6, q7, q8, q9, I0⟩ := S0
  kpt_turns
  refine b_len hD0 (by rw [X.nb.length, sizeLine_eq]; omega) ?_
  intro tl1 _
  rw [X.nb.length]
  kpt_turns
  refine g_attr G F I0 (by lcg_off) rfl (by k_is) (by k_is) (by k_is) (by k_is) ?_
  intro _
  kpt_turns
  rename Fm g L _ _ _ => F1
  rename_i b1 h1 _
  obtain ⟨ob1, hob1, F1⟩ : ∃ o, (∀ h' : Heap, h'.get? b1 = some o → ∃ t0 t1 t2 n, IsTup h' b1 #[.str "sig" t0, .int n t1, .int 0 t2]) ∧ Fm g L h1 _ ((b1, o) :: _) := ⟨_, fun h' e => ⟨_, _, _, _, _, e, rfl, _, rfl⟩, F1⟩
  obtain ⟨_, hD1, _⟩ := C _ (F1.cst (by intro p hp; repeat (first | exact hp | apply List.Mem.tail)))
  refine b_len hD1 (by rw [X.nb.length, sizeLine_eq]; omega) ?_
  intro tl2 _
  rw [X.nb.length]
  kpt_turns
  rename Fm g L _ _ _ => F2
  rename_i b2 h2 _
  obtain ⟨ob2, hob2, F2⟩ : ∃ o, (∀ h' : Heap, h'.get? b2 = some o → ∃ t0 t1 t2 n, IsTup h' b2 #[.str "local" t0, .int n t1, .int 0 t2]) ∧ Fm g L h2 _ ((b2, o) :: _) := ⟨_, fun h' e => ⟨_, _, _, _, _, e, rfl, _, rfl⟩, F2⟩
  obtain ⟨_, hD2, _⟩ := C _ (F2.cst (by intro p hp; repeat (first | exact hp | apply List.Mem.tail)))
  refine e_spec0 (const_spec D vsb lb hD2 X.nb (by omega) X.cb) G F2 hh (dlt (by assumption)) (ult (by assumption)) ?_
  rintro _ h3 tk3 F3 _ ⟨b3, rfl, V⟩
  obtain ⟨ob3, hob3, F3⟩ := F3.ct V
  kpt_turns
  rename Fm g L _ _ _ => F4
  rename_i lst h4 _
  refine l_list (σ := Obj) (vs := [.ref b1, .ref b2, .ref b3]) (fun _ => nmL ctx words sm sv Am row wd tw t3 t4 ts fi la (stepL msb lsb) sg iv) (fun ob => (row, ob) :: (lst, LO [.ref b1, .ref b2, .ref b3] 0) :: (b1, ob1) :: (b2, ob2) :: (b3, ob3) :: (c1, o1) :: (c2, o2) :: (c3, o3) :: const) (fun _ ob => RowO ob) ob hh (by kernel_rfl!) F4
    (fun x h l F => F.lst (.tail _ (.head _))) (by tb_start) (by tb_rel) ho ?_ ?_
  · intro i v ob h tk I oI hi hvi ho F
    obtain ⟨b, rfl, hb⟩ : ∃ b, v = .ref b ∧ ∀ h : Heap, (∀ p ∈ ((I, oI) :: (lst, LO [.ref b1, .ref b2, .ref b3] 0) :: (b1, ob1) :: (b2, ob2) :: (b3, ob3) :: const), h.get? p.1 = some p.2) → Ev prog w h b ctx 8 lb := by
      have : i = 0 ∨ i = 1 ∨ i = 2 := by simp only [List.length_cons, List.length_nil] at hi; omega
      rcases this with rfl | rfl | rfl
      · exact ⟨b1, (Option.some.inj hvi).symm, fun h hp => ev_sig (C h fun p q => hp p (by simp [q])).1 (hob1 h (hp (b1, ob1) (by simp)))⟩
      · exact ⟨b2, (Option.some.inj hvi).symm, fun h hp => ev_local (C h fun p q => hp p (by simp [q])).1 (hob2 h (hp (b2, ob2) (by simp)))⟩
      · exact ⟨b3, (Option.some.inj hvi).symm, fun h hp => (ev_const (hob3.ct (hp (b3, ob3) (by simp)))).mono (by decide)⟩
    have F' := F.subb ((row, ob) :: (c1, o1) :: (c2, o2) :: (c3, o3) :: (I, oI) :: (lst, LO [.ref b1, .ref b2, .ref b3] 0) :: (b1, ob1) :: (b2, ob2) :: (b3, ob3) :: const) (by tb_rel)
    have hr : ∀ p ∈ const, p ∈ ((I, oI) :: (lst, LO [.ref b1, .ref b2, .ref b3] 0) :: (b1, ob1) :: (b2, ob2) :: (b3, ob3) :: const) := fun p q => by simp [q]
    clear F F1 F2 F3 F4
    refine bodyA hh hd hu G X C hr hb hiv F' ?_
    intro h5 tk5 Dd n r1 r2 r3 q1 q2 q3 v1 v2 v3 F5
    refine bodyB hh hd hu G X C hr hb v1 v2 v3 F5 ?_
    intro h6 tk6 F6
    refine bodyC hh hd hu G X ho C hr hb F6 ?_
    intro h7 tk7 ob7 ho7 F7
    exact Turn.next ob7 F7 (by tb_start) (by tb_rel) ho7
  · intro ob h tk ho F
    cell_call
    exact K _ _ _ ho (F.subb _ (by tb_rel))
end

end
section
section
variable {M : Model} {prog : Program} {w : World} {A : Around} {E : Value → Shared → Prop} {s : Shared} {h g : Heap} {tk : Nat} {L : Addr} {l : List (Str × Value)} {bag bag' : List (Addr × Obj)}
theorem o_laddL {D1 D2 : Addr} {vs us : List Value} {Q : Value → Shared → Prop} (F : Fm g L h l bag) (h1 : h.IsList D1 vs.toArray) (h2 : h.IsList D2 us.toArray) (hz : vs.length + us.length ≤ sizeLine)
    (q : ∀ D h', Fm g L h' l ((D, LO (vs ++ us) 0) :: bag) → Q (.ref D) (At s h' tk)) : wpAny (model prog w) A (binaryOp .Add (.ref D1) (.ref D2)) Q E (At s h tk) := by
  obtain ⟨⟨cls, dd, data, sl⟩, ho, hc, n, hd⟩ := id h1
  obtain ⟨⟨cls2, dd2, data2, sl2⟩, ho2, hc2, n2, hd2⟩ := id h2
  simp only at hc hd hc2 hd2
  subst hc hd hc2 hd2
  have e : vs.toArray ++ us.toArray = (vs ++ us).toArray := by simp
  refine concat_meets (s := At s h tk) ⟨_, ho, rfl⟩ ⟨_, ho2, rfl⟩ noFill_list_add seq_list_add PySem.F.slot_list_add PySem.F.entry_list_add (PySem.F.args_list_add_2 _ _) (list_addW D1 D2 vs.toArray us.toArray n n2 dd dd2 sl sl2 (by simpa using hz)) ⟨ho, ho2, ?_⟩
  rw [e]
  exact q h.objs.size _ (F.push _)
end
section
variable {prog : Program} {w : World} {A : Around} {E : Value → Shared → Prop} {s : Shared} {h g : Heap} {tk : Nat} {L c1 c2 c3 : Addr} {fnA : Addr} {cdV : Value}
theorem seg7 {row D Am ctx sv sm words : Addr} {ob o1 o2 o3 ow : Obj} {vsb vsa : List Value} {wd : Nat} {lb am : List Nat} {msb lsb fi la st : Int} {t3 t4 tw ts : Tok} {sg : Bool} {const : List (Addr × Obj)} {kvw : List (Int × Value)} {cells : Int → List Nat} {ob0 : Obj} {iv : Value} {Q : Flow → Shared → Prop} (hh : A.handled = none) (hd : A.depth + 100 < recursionLimit) (hu : A.units + 8 * 100 < cLine) (G : Gd w g)
    (X : Drawn ob0 o1 o2 o3 D vsb vsa lb am msb lsb fi la wd) (C : KC prog w const ctx D Am sv sm words vsb vsa lb cells msb lsb fi la ow kvw) (hiv : idxV (wholeL am sg) iv) (m1 : (words == sysModules) = false)
    (out : ∀ k, ¬ (0 ≤ k ∧ k < (if fi - la < 0 then -(fi - la) else fi - la) + 1) → cells k = xxx)
    (F : Fm g L h (nmL ctx words sm sv Am row wd tw t3 t4 ts fi la st sg iv) ((row, ob) :: (c1, o1) :: (c2, o2) :: (c3, o3) :: const))
    (K : ∀ h' tk' Du const2, KC prog w const2 ctx D Am sv sm words vsb vsa lb cells msb lsb fi la ow kvw → (∀ h : Heap, (∀ p ∈ const2, h.get? p.1 = some p.2) → ∃ vsd, h.IsList Du vsd.toArray ∧ NA vsd (wordV cells am sg fi la)) →
      Fm g L h' (("due", .ref Du) :: nmL ctx words sm sv Am row wd tw t3 t4 ts fi la st sg iv) ((c1, o1) :: (c2, o2) :: (c3, o3) :: const2) → wpAny (model prog w) A (execs (lawB w 25) (lawE w fnA cdV L c1 c2 c3)) Q E (At s h' tk')) :
    wpAny (model prog w) A (execs (lawB w 21) (lawE w fnA cdV L c1 c2 c3)) Q E (At s h tk) := by
  have d1 := X.d1
  obtain ⟨u2, d2⟩ := X.d2
  obtain ⟨u3, d3⟩ := X.d3
  unfold lawB
  conv in List.drop _ _ => whnf
  unfold lawE
  have cc : ∀ k, (cells k).length = 3 ∧ ∀ c ∈ cells k, c ≤ 3 := (C _ (F.cst (by intro p hp; repeat (first | exact hp | apply List.Mem.tail)))).1.cel
  obtain ⟨_, _, _, _, ⟨_, _, _, _, S0⟩, _⟩ := C _ (F.cst (by intro p hp; repeat (first | exact hp | apply List.Mem.tail)))
  obtain ⟨q0, q1, q2, q3, q4, q5, q6, q7, q8, q9, I0⟩ := S0
  kpt_turns
  refine g_attr G F I0 (by lcg_off) rfl (by k_is) (by k_is) (by k_is) (by k_is) ?_
  intro _
  kpt_turns
  obtain ⟨_, _, hAm, _⟩ := C _ (F.cst (by intro p hp; repeat (first | exact hp | apply List.Mem.tail)))
  refine e_spec0 (const_spec Am vsa am hAm X.na (by have := X.lna.2; omega) X.ca) G F hh (dlt (by assumption)) (ult (by assumption)) ?_
  rintro _ h1 tk1 F1 _ ⟨ra, rfl, V⟩
  obtain ⟨oa, hoa, F1⟩ := F1.ct V
  kpt_turns
  rename Fm g L _ _ _ => F2
  refine e_spec0 (ev_word (k := 1) (C _ (F2.cst (by intro p hp; repeat (first | exact hp | apply List.Mem.tail)))).1 (ev_const (hoa.ct (F2.hasP (by ktu_off1L)))) X.ca X.lna.1 X.lna.2 ⟨_, _, _, F2.tup (.head _)⟩ (At s _ _) (fun _ _ e => e)) G F2 hh (dlt (by assumption)) (ult (by assumption)) ?_
  rintro _ h3 tk3 F3 _ ⟨x1, rfl, V⟩
  obtain ⟨p1, hp1, F3⟩ := F3.vec V
  have F3 := F3.dr1.dr1
  iterate 12 cell_call
  rename Fm g L _ _ _ => F4
  rename_i rd _ _ _ h5 tk5
  generalize hW : wordV cells am sg fi la = W at *
  have hWl : W.length = 3 ∧ ∀ c ∈ W, c ≤ 3 := by rw [← hW]; exact word_len cc
  refine s_ifj (fun s' => ∃ h' tk' Du ext, s' = At s h' tk' ∧ (∀ h : Heap, (∀ p ∈ ext ++ const, h.get? p.1 = some p.2) → ∃ vsd, h.IsList Du vsd.toArray ∧ NA vsd W) ∧
    Fm g L h' (("due", .ref Du) :: ("told", .ref x1) :: nmL ctx words sm sv Am row wd tw t3 t4 ts fi la st sg iv) ((x1, p1) :: (c1, o1) :: (c2, o2) :: (c3, o3) :: (ext ++ const))) ?_ ?_
  · cases hw : wholeL am sg with
    | none =>
      have hiv : iv = .none := by rw [hw] at hiv; exact hiv
      subst hiv
      have e : W = xxx := by rw [← hW]; exact word_none hw
      kpt_turns
      refine ⟨_, _, rd, [_], rfl, ?_, F4.sub _ _ (by tb_start) (.cons (by ktu_off1L) (.cons (by ktu_off1L) (.cons (by ktu_off1L) (.cons (by ktu_off1L) (.cons .here (by repeat first | exact Sel.refl | refine Sel.drop ?_))))))⟩
      intro h hp
      exact ⟨_, ⟨_, hp _ (.head _), rfl, 0, rfl⟩, by rw [e]; exact NA.xxx _ _ _⟩
    | some i =>
      have hiv : ∃ t, iv = .int i t := by rw [hw] at hiv; exact hiv
      obtain ⟨ti, rfl⟩ := hiv
      have e : W = cells (if fi ≤ la then i - fi else fi - i) := by rw [← hW]; exact word_law out hw
      generalize hsp : (if fi ≤ la then i - fi else fi - i) = sp at e
      iterate 7 cell_call
      refine e_cut (s := s) F4 (fun v => ∃ t, v = .int sp t) (h1 := ?_) ?_
      · kpt_turns
        refine i_dec (fun q => ?_) (fun q => ?_)
        · kpt_turns
          exact ⟨⟨_, by rw [← hsp, if_pos q]⟩, _, _, rfl, F4⟩
        · kpt_turns
          exact ⟨⟨_, by rw [← hsp, if_neg q]⟩, _, _, rfl, F4⟩
      rintro _ h6 tk6 ⟨tsp, rfl⟩ F6
      kpt_turns
      rename Fm g L _ _ _ => F7
      obtain ⟨_, _, _, _, _, hwo, hID, _⟩ := C _ (F7.cst (by intro p hp; repeat (first | exact hp | apply List.Mem.tail)))
      refine gm_dget hwo hID ?_
      kpt_turns
      rename Fm g L _ _ _ => F8
      rename_i rn h8 _
      obtain ⟨_, _, _, _, _, hwo, _, hk⟩ := C _ (F8.cst (by intro p hp; repeat (first | exact hp | apply List.Mem.tail)))
      refine m_dget2 m1 hwo hID ?_
      intro tk9
      rcases hk sp with ⟨e1, e2⟩ | ⟨r, vs, e1, e2, e3⟩
      · rw [e1, Option.getD_none]
        kpt_turns
        rename Fm g L _ _ _ => F9
        refine ⟨rfl, _, _, rn, [_], rfl, ?_, F9.sub _ _ (by tb_start) (.cons (by ktu_off1L) (.cons (by ktu_off1L) (.cons (by ktu_off1L) (.cons (by ktu_off1L) (.cons .here (by repeat first | exact Sel.refl | refine Sel.drop ?_))))))⟩
        intro h hp
        exact ⟨_, ⟨_, hp _ (.head _), rfl, 0, rfl⟩, by rw [e, e2]; exact NA.xxx _ _ _⟩
      · rw [e1, Option.getD_some]
        kpt_turns
        rename Fm g L _ _ _ => F9
        refine ⟨rfl, _, _, r, [], rfl, ?_, F9.sub _ _ (by tb_start) (.cons (by ktu_off1L) (.cons (by ktu_off1L) (.cons (by ktu_off1L) (.cons (by ktu_off1L) (by repeat first | exact Sel.refl | refine Sel.drop ?_)))))⟩
        intro h hp
        obtain ⟨_, _, _, _, _, _, _, hk⟩ := C h hp
        rcases hk sp with ⟨e1', _⟩ | ⟨r', vs', e1', e2', e3'⟩
        · rw [e1] at e1'; cases e1'
        · rw [e1] at e1'
          cases e1'
          exact ⟨vs', e2', by rw [e]; exact e3'⟩
  · rintro _ ⟨h9, tk9, Du, ext, rfl, hDu, F9⟩
    have C2 : KC prog w (ext ++ const) ctx D Am sv sm words vsb vsa lb cells msb lsb fi la ow kvw := fun h hp => C h fun p q => hp p (List.mem_append_right _ q)
    generalize ext ++ const = const2 at hDu F9 C2
    kpt_turns
    obtain ⟨vsd, hDl, hDn⟩ := hDu _ (F9.cst (by intro p hp; repeat (first | exact hp | apply List.Mem.tail)))
    refine e_spec0 (made_spec Du vsd W hDl hDn (by omega) hWl.2) G F9 hh (dlt (by assumption)) (ult (by assumption)) ?_
    rintro _ h10 tk10 F10 _ ⟨x2, rfl, V2⟩
    kpt_turns
    refine c_nevec (hp1.vec (F10.hasP (by ktu_off1L))) V2 (by omega) ?_
    iterate 4 cell_call
    exact K _ _ _ _ C2 hDu (F10.sub _ _ (by tb_start) (by repeat first | exact Sel.refl | refine Sel.drop ?_))
end

end
section
section
variable {prog : Program} {w : World} {A : Around} {E : Value → Shared → Prop} {s : Shared} {h g : Heap} {tk : Nat} {L c1 c2 c3 : Addr} {fnA : Addr} {cdV : Value}
theorem seg8 {row D Am ctx sv sm words Du : Addr} {o1 o2 o3 ow : Obj} {vsb vsa : List Value} {wd : Nat} {lb am W : List Nat} {msb lsb fi la st : Int} {t3 t4 tw ts : Tok} {sg : Bool} {const : List (Addr × Obj)} {kvw : List (Int × Value)} {cells : Int → List Nat} {ob0 : Obj} {iv : Value} {Q : Flow → Shared → Prop} (hh : A.handled = none) (hd : A.depth + 100 < recursionLimit) (hu : A.units + 8 * 100 < cLine) (G : Gd w g)
    (X : Drawn ob0 o1 o2 o3 D vsb vsa lb am msb lsb fi la wd) (C : KC prog w const ctx D Am sv sm words vsb vsa lb cells msb lsb fi la ow kvw) (hW : wordV cells am sg fi la = W) (hDu : ∀ h : Heap, (∀ p ∈ const, h.get? p.1 = some p.2) → ∃ vsd, h.IsList Du vsd.toArray ∧ NA vsd W)
    (F : Fm g L h (("due", .ref Du) :: nmL ctx words sm sv Am row wd tw t3 t4 ts fi la st sg iv) ((c1, o1) :: (c2, o2) :: (c3, o3) :: const))
    (K : ∀ h' tk', Fm g L h' (("due", .ref Du) :: nmL ctx words sm sv Am row wd tw t3 t4 ts fi la st sg iv) ((c1, o1) :: (c2, o2) :: (c3, o3) :: const) → wpAny (model prog w) A (execs (lawB w 27) (lawE w fnA cdV L c1 c2 c3)) Q E (At s h' tk')) :
    wpAny (model prog w) A (execs (lawB w 25) (lawE w fnA cdV L c1 c2 c3)) Q E (At s h tk) := by
  have d1 := X.d1
  have hlb : 0 < lb.length ∧ lb.length ≤ 20 := by
    have hl := X.lnb
    have := X.rg
    split at hl <;> omega
  have hWl : W.length = 3 ∧ ∀ c ∈ W, c ≤ 3 := by rw [← hW]; exact word_len (C _ (F.cst (by intro p hp; repeat (first | exact hp | apply List.Mem.tail)))).1.cel
  unfold lawB
  conv in List.drop _ _ => whnf
  unfold lawE
  kpt_turns
  obtain ⟨_, hD, hAm, S1, S2, _⟩ := C _ (F.cst (by intro p hp; repeat (first | exact hp | apply List.Mem.tail)))
  obtain ⟨_, _, _, _, q0, q1, q2, q3, q4, q5, q6, q7, q8, q9, I2⟩ := S2
  obtain ⟨_, _, _, _, p0, p1, p2, p3, p4, p5, p6, p7, p8, p9, I1⟩ := S1
  refine b_len hD (by rw [X.nb.length, sizeLine_eq]; omega) ?_
  intro _ _
  rw [X.nb.length]
  kpt_turns
  refine g_attr G F I2 (by lcg_off) rfl (by k_is) (by k_is) (by k_is) (by k_is) ?_
  intro _
  kpt_turns
  refine e_spec0 (const_spec Am vsa am hAm X.na (by have := X.lna.2; omega) X.ca) G F hh (dlt (by assumption)) (ult (by assumption)) ?_
  rintro _ h1 tk1 F1 k1 ⟨ra, rfl, V⟩
  obtain ⟨oa, hoa, F1⟩ := F1.ct V
  kpt_turns
  rename Fm g L _ _ _ => F2
  rename_i tw1 h2 _
  obtain ⟨_, hD, hAm, S1, S2, _⟩ := C _ (F2.cst (by intro p hp; repeat (first | exact hp | apply List.Mem.tail)))
  obtain ⟨_, _, _, _, p0, p1, p2, p3, p4, p5, p6, p7, p8, p9, I1⟩ := S1
  refine b_len hD (by rw [X.nb.length, sizeLine_eq]; omega) ?_
  intro _ _
  rw [X.nb.length]
  kpt_turns
  refine g_attr G F2 I1 (by lcg_off) rfl (by k_is) (by k_is) (by k_is) (by k_is) ?_
  intro _
  kpt_turns
  rename Fm g L _ _ _ => F3
  have C3 := (C _ (F3.cst (by intro p hp; repeat (first | exact hp | apply List.Mem.tail)))).1
  have Xw := ev_word (k := 7) C3 ((ev_const (hoa.ct (F3.hasP (by ktu_off1L)))).mono (by decide)) X.ca X.lna.1 X.lna.2 ⟨_, _, _, F3.tup (.tail _ (.tail _ (.tail _ (.head _))))⟩
  rw [hW] at Xw
  refine e_spec0 (ev_cat Xw ((ev_sig C3 ⟨_, _, _, _, F3.tup (.tail _ (.tail _ (.head _)))⟩).mono (by decide)) (by omega) ⟨_, _, _, F3.tup (.head _)⟩ (F3.tup (.tail _ (.head _))) (At s _ _) (fun _ _ e => e)) G F3 hh (dlt (by assumption)) (ult (by assumption)) ?_
  rintro _ h4 tk4 F4 _ ⟨x1, rfl, V⟩
  obtain ⟨ox1, hox1, F4⟩ := F4.vec V
  have F4 := F4.dr1.dr1.dr1.dr1.dr1
  clear Xw C3 F F1 F2 F3 V
  kpt_turns
  obtain ⟨_, hD, _⟩ := C _ (F4.cst (by intro p hp; repeat (first | exact hp | apply List.Mem.tail)))
  obtain ⟨vsd, hDl, hDn⟩ := hDu _ (F4.cst (by intro p hp; repeat (first | exact hp | apply List.Mem.tail)))
  refine o_laddL F4 hD hDl (by rw [X.nb.length, hDn.length, sizeLine_eq]; omega) ?_
  intro Ds h5 F5
  kpt_turns
  have hn : NA (vsb ++ vsd) (lb ++ W) := by unfold NA; rw [List.map_append]; exact IntsAre.append X.nb hDn
  refine e_spec0 (made_spec Ds (vsb ++ vsd) (lb ++ W) (F5.lstP (by ktu_off1L)) hn (by rw [List.length_append]; omega) ?_) G F5 hh (dlt (by assumption)) (ult (by assumption)) ?_
  · intro c hc
    rcases List.mem_append.mp hc with q | q
    · exact X.cb c q
    · exact hWl.2 c q
  rintro _ h6 tk6 F6 _ ⟨x2, rfl, V2⟩
  kpt_turns
  refine c_nevec (hox1.vec (F6.hasP (by ktu_off1L))) V2 (by omega) ?_
  iterate 4 cell_call
  exact K _ _ (F6.sub _ _ (by tb_start) (by repeat first | exact Sel.refl | refine Sel.drop ?_))
end

end
section
theorem NA.repc (c : Nat) (t : Tok) : ∀ n : Nat, NA (List.replicate n (.int c t)) (List.replicate n c)
  | 0 => .nil
  | n + 1 => by rw [List.replicate_succ, List.replicate_succ]; exact IntsAre.cons c t (NA.repc c t n)
section
variable {prog : Program} {w : World} {A : Around} {E : Value → Shared → Prop} {s : Shared} {h g : Heap} {tk : Nat} {L c1 c2 c3 : Addr} {fnA : Addr} {cdV : Value}
theorem seg9 {row D Am ctx sv sm words Du : Addr} {o1 o2 o3 ow : Obj} {vsb vsa : List Value} {wd : Nat} {lb am : List Nat} {msb lsb fi la st : Int} {t3 t4 tw ts : Tok} {sg : Bool} {const : List (Addr × Obj)} {kvw : List (Int × Value)} {cells : Int → List Nat} {ob0 : Obj} {iv : Value} {Q : Flow → Shared → Prop} (hh : A.handled = none) (hd : A.depth + 100 < recursionLimit) (hu : A.units + 8 * 100 < cLine) (G : Gd w g)
    (X : Drawn ob0 o1 o2 o3 D vsb vsa lb am msb lsb fi la wd) (C : KC prog w const ctx D Am sv sm words vsb vsa lb cells msb lsb fi la ow kvw)
    (F : Fm g L h (("due", .ref Du) :: nmL ctx words sm sv Am row wd tw t3 t4 ts fi la st sg iv) ((c1, o1) :: (c2, o2) :: (c3, o3) :: const))
    (K : ∀ h' tk', Fm g L h' (("due", .ref Du) :: nmL ctx words sm sv Am row wd tw t3 t4 ts fi la st sg iv) ((c1, o1) :: (c2, o2) :: (c3, o3) :: const) → wpAny (model prog w) A (execs (lawB w 29) (lawE w fnA cdV L c1 c2 c3)) Q E (At s h' tk')) :
    wpAny (model prog w) A (execs (lawB w 27) (lawE w fnA cdV L c1 c2 c3)) Q E (At s h tk) := by
  have d1 := X.d1
  have hlb : 0 < lb.length ∧ lb.length ≤ 19 := by
    have hl := X.lnb
    have := X.rg
    split at hl <;> omega
  unfold lawB
  conv in List.drop _ _ => whnf
  unfold lawE
  obtain ⟨_, hD, _⟩ := C _ (F.cst (by intro p hp; repeat (first | exact hp | apply List.Mem.tail)))
  obtain ⟨cx, hcx⟩ : ∃ cx : Nat, cx = if sg then lb.getD (lb.length - 1) 0 else 0 := ⟨_, rfl⟩
  have hcx3 : cx ≤ 3 := by
    rw [hcx]; split
    · exact getD_le X.cb _
    · decide
  iterate 7 cell_call
  refine e_cut (s := s) F (fun v => ∃ t, v = .int (cx : Nat) t) (h1 := ?_) ?_
  · kpt_turns
    refine i_bool (fun hs => ?_) (fun hs => ?_)
    · kpt_turns
      refine e_itemLast hD X.nb hlb.1 (by omega) ?_
      intro _
      exact ⟨⟨_, by rw [hcx, hs]; rfl⟩, _, _, rfl, F⟩
    · kpt_turns
      exact ⟨⟨_, by rw [hcx, hs]; rfl⟩, _, _, rfl, F⟩
  rintro _ h1 tk1 ⟨tc, rfl⟩ F1
  kpt_turns
  rename Fm g L _ _ _ => F2
  refine o_lmul1 F2 (F2.hasP (by ktu_off1L)) (n := 20) rfl (by decide) ?_
  intro D3 h3 F3
  kpt_turns
  obtain ⟨_, hD, _⟩ := C _ (F3.cst (by intro p hp; repeat (first | exact hp | apply List.Mem.tail)))
  refine o_laddL F3 hD (F3.lstP (by ktu_off1L)) (by rw [X.nb.length, List.length_replicate, sizeLine_eq]; omega) ?_
  intro D4 h4 F4
  kpt_turns
  rename Fm g L _ _ _ => F5
  refine st_uptoT F5 (by ktu_off1L) (F5.lstP (by ktu_off1L)) (by decide) (by rw [List.length_append, X.nb.length, List.length_replicate, sizeLine_eq]; omega) (by with_unfolding_all rfl) ?_
  intro D6 h6 _ F6
  kpt_turns
  rename Fm g L _ _ _ => F7
  obtain ⟨_, hD, _, S1, _⟩ := C _ (F7.cst (by intro p hp; repeat (first | exact hp | apply List.Mem.tail)))
  obtain ⟨_, _, _, _, p0, p1, p2, p3, p4, p5, p6, p7, p8, p9, I1⟩ := S1
  refine b_len hD (by rw [X.nb.length, sizeLine_eq]; omega) ?_
  intro _ _
  rw [X.nb.length]
  kpt_turns
  refine g_attr G F7 I1 (by lcg_off) rfl (by k_is) (by k_is) (by k_is) (by k_is) ?_
  intro _
  kpt_turns
  rename Fm g L _ _ _ => F8
  have C8 := (C _ (F8.cst (by intro p hp; repeat (first | exact hp | apply List.Mem.tail)))).1
  refine e_spec0 (ev_ext (n := 20) (ev_sig C8 ⟨_, _, _, _, F8.tup (.tail _ (.head _))⟩) hlb.1 (by omega) (by decide) ⟨_, _, F8.tup (.head _)⟩ (At s _ _) (fun _ _ e => e)) G F8 hh (dlt (by assumption)) (ult (by assumption)) ?_
  rintro _ h9 tk9 F9 _ ⟨x1, rfl, V⟩
  obtain ⟨ox1, hox1, F9⟩ := F9.vec V
  have F9 := F9.dr1.dr1
  clear C8 F F1 F2 F3 F4 F5 F6 F7 F8 V
  kpt_turns
  have hn : NA ((vsb ++ List.replicate 20 (Value.int (cx : Nat) tc)).take (20 : Int).toNat) ((lb ++ List.replicate 20 cx).take 20) := by
    refine NA.take ?_ 20
    unfold NA; rw [List.map_append]; exact IntsAre.append X.nb (NA.repc cx tc 20)
  have he : extL lb 20 sg = (lb ++ List.replicate 20 cx).take 20 := by rw [ext_law (by omega), hcx]; rfl
  rw [he] at hox1
  refine e_spec0 (made_spec D6 _ _ (F9.lstP (by ktu_off1L)) hn (by rw [List.length_take]; omega) ?_) G F9 hh (dlt (by assumption)) (ult (by assumption)) ?_
  · intro c hc
    rcases List.mem_append.mp (List.mem_of_mem_take hc) with q | q
    · exact X.cb c q
    · rw [List.eq_of_mem_replicate q]; exact hcx3
  rintro _ h10 tk10 F10 _ ⟨x2, rfl, V2⟩
  kpt_turns
  refine c_nevec (hox1.vec (F10.hasP (by ktu_off1L))) V2 (by omega) ?_
  iterate 4 cell_call
  exact K _ _ (F10.sub _ _ (by tb_start) (by repeat first | exact Sel.refl | refine Sel.drop ?_))
end

end
section
section
variable {prog : Program} {w : World} {A : Around} {E : Value → Shared → Prop} {s : Shared} {h g : Heap} {tk : Nat} {L c1 c2 c3 : Addr} {fnA : Addr} {cdV : Value}
theorem seg10 {row D Am ctx sv sm words Du : Addr} {o1 o2 o3 ow : Obj} {vsb vsa : List Value} {wd : Nat} {lb am W : List Nat} {msb lsb fi la st : Int} {t3 t4 tw ts : Tok} {sg : Bool} {const : List (Addr × Obj)} {kvw : List (Int × Value)} {cells : Int → List Nat} {ob0 : Obj} {iv : Value} {Q : Flow → Shared → Prop} (hh : A.handled = none) (hd : A.depth + 100 < recursionLimit) (hu : A.units + 8 * 100 < cLine) (G : Gd w g)
    (X : Drawn ob0 o1 o2 o3 D vsb vsa lb am msb lsb fi la wd) (C : KC prog w const ctx D Am sv sm words vsb vsa lb cells msb lsb fi la ow kvw) (hWl : W.length = 3 ∧ ∀ c ∈ W, c ≤ 3) (hDu : ∀ h : Heap, (∀ p ∈ const, h.get? p.1 = some p.2) → ∃ vsd, h.IsList Du vsd.toArray ∧ NA vsd W)
    (F : Fm g L h (("due", .ref Du) :: nmL ctx words sm sv Am row wd tw t3 t4 ts fi la st sg iv) ((c1, o1) :: (c2, o2) :: (c3, o3) :: const))
    (K : ∀ h' tk' Dm vsm n, NA vsm (mixL W [1, 0, 2]) → Fm g L h' (("mixed", .ref Dm) :: ("unsure", .bool (decide (¬ 1 ∈ am ∧ (2 ∈ am ∨ 3 ∈ am)))) :: ("sure", .bool (decide (1 ∈ am))) :: ("due", .ref Du) :: nmL ctx words sm sv Am row wd tw t3 t4 ts fi la st sg iv) ((Dm, LO vsm n) :: (c1, o1) :: (c2, o2) :: (c3, o3) :: const) →
      wpAny (model prog w) A (execs (lawB w 32) (lawE w fnA cdV L c1 c2 c3)) Q E (At s h' tk')) :
    wpAny (model prog w) A (execs (lawB w 29) (lawE w fnA cdV L c1 c2 c3)) Q E (At s h tk) := by
  have d1 := X.d1
  unfold lawB
  conv in List.drop _ _ => whnf
  unfold lawE
  kpt_turns
  obtain ⟨_, _, hAm, _⟩ := C _ (F.cst (by intro p hp; repeat (first | exact hp | apply List.Mem.tail)))
  refine c_inN 1 hAm X.na rfl ?_
  kpt_turns
  rename Fm g L _ _ _ => F1
  obtain ⟨_, _, hAm, _⟩ := C _ (F1.cst (by intro p hp; repeat (first | exact hp | apply List.Mem.tail)))
  refine e_cut (s := s) F1 (fun v => v = .bool (decide (¬ 1 ∈ am ∧ (2 ∈ am ∨ 3 ∈ am)))) (h1 := ?_) ?_
  · refine BoolOp_and ?_
    kpt_turns
    refine not_of ?_
    kpt_turns
    refine i_ndec (fun q1 => ?_) (fun q1 => ?_)
    · refine BoolOp_one ?_
      refine BoolOp_or ?_
      kpt_turns
      refine c_inN 2 hAm X.na rfl ?_
      kpt_turns
      refine i_dec (fun q2 => ?_) (fun q2 => ?_)
      · exact ⟨by simp [q1, q2], _, _, rfl, F1⟩
      · refine BoolOp_one ?_
        kpt_turns
        refine c_inN 3 hAm X.na rfl ?_
        exact ⟨by simp [q1, q2], _, _, rfl, F1⟩
    · exact ⟨by simp [q1], _, _, rfl, F1⟩
  rintro _ h2 tk2 rfl F2
  cell_call
  rename Fm g L _ _ _ => F3
  refine s_comp (by with_unfolding_all rfl) ?_
  kpt_turns
  rename Fm g L _ _ _ => F4
  obtain ⟨vsd, hDl, hDn⟩ := hDu _ (F4.cst (by intro p hp; repeat (first | exact hp | apply List.Mem.tail)))
  refine c_zip (fun i zs => NA zs ((mixL W [1, 0, 2]).take i) ∧ zs.length = i) hh F4 hDl (F4.lstP (by ktu_off1L)) (by have := hDn.length; omega) (by kernel_rfl!) (by kernel_rfl!) (by kernel_rfl!) ⟨.nil, rfl⟩ (fun i zs x => x.2) ?_ ?_
  · rintro i u v C5 h tk zs hu hv ⟨hz, hzl⟩ F
    have hi : i < W.length := by
      have := hDn.length
      rcases Nat.lt_or_ge i vsd.length with q | q
      · omega
      · rw [List.getElem?_eq_none q] at hu; cases hu
    obtain ⟨ta, hta⟩ := hDn.get hi
    rw [hta] at hu
    obtain rfl := Option.some.inj hu
    obtain ⟨tb, htb⟩ := (NA.n102 _ _ _).get (i := i) (by rw [hWl.1] at hi; exact hi)
    rw [htb] at hv
    obtain rfl := Option.some.inj hv
    have ha : W[i]? = some (W.getD i 0) := by simp [List.getD_eq_getElem?_getD, hi]
    have hb : [1, 0, 2][i]? = some ([1, 0, 2].getD i 0) := by
      have : i = 0 ∨ i = 1 ∨ i = 2 := by omega
      rcases this with rfl | rfl | rfl <;> rfl
    generalize W.getD i 0 = a at *
    generalize [1, 0, 2].getD i 0 = b at *
    have fin : ∀ tk' (c : Nat) t, c = (if a = b ∧ a < 2 then a else 3) → ∃ tk'', At s h tk' = At s h tk'' ∧ NA (zs ++ [.int c t]) ((mixL W [1, 0, 2]).take (i + 1)) ∧ (zs ++ [Value.int c t]).length = i + 1 := by
      intro tk' c t hc
      refine ⟨_, rfl, ?_, by simp [hzl]⟩
      have e : (mixL W [1, 0, 2])[i]? = some c := by unfold mixL; rw [List.getElem?_zipWith, ha, hb, hc]
      rw [List.take_add_one, e]
      exact hz.snoc _ _
    kpt_turns
    refine i_dec (fun q1 => ?_) (fun q1 => ?_)
    · kpt_turns
      refine i_dec (fun q2 => ?_) (fun q2 => ?_)
      · kpt_turns
        exact fin _ a _ (by rw [if_pos (by omega)])
      · kpt_turns
        exact fin _ 3 _ (by rw [if_neg (by omega)])
    · kpt_turns
      exact fin _ 3 _ (by rw [if_neg (by omega)])
  · rintro Dm Cc oC h tk k zs ⟨hz, hzl⟩ F z hn
    refine cp_name (by kernel_rfl!) F z hn fun h2 tk2 F2 => ?_
    refine K _ _ Dm zs k ?_ (F2.sub _ _ (by tb_start) (.cons .here (by repeat first | exact Sel.refl | refine Sel.drop ?_)))
    rw [List.take_of_length_le] at hz
    · exact hz
    · unfold mixL
      rw [List.length_zipWith, hDn.length]
      exact Nat.le_refl _
end

end
section
section
variable {prog : Program} {w : World} {A : Around} {E : Value → Shared → Prop} {s : Shared} {h g : Heap} {tk : Nat} {L c1 c2 c3 : Addr} {fnA : Addr} {cdV : Value}
theorem e_cutR {M : Model} {t : Sem Value} {Q : Value → Shared → Prop} {s' : Shared} (R : Value → Shared → Prop) (h1 : wpAny M A t R (fun _ _ => False) s') (h2 : ∀ v s₁, R v s₁ → Q v s₁) : wpAny M A t Q E s' := no_exc (wpAny_mono h1 h2 fun _ _ x => x)
theorem seg11 {row D Am ctx sv sm words Du Dm : Addr} {o1 o2 o3 ow : Obj} {vsb vsa vsm : List Value} {wd n : Nat} {lb am W : List Nat} {msb lsb fi la st : Int} {t3 t4 tw ts : Tok} {sg : Bool} {const : List (Addr × Obj)} {kvw : List (Int × Value)} {cells : Int → List Nat} {ob0 : Obj} {iv : Value} {Q : Flow → Shared → Prop} (hh : A.handled = none) (hd : A.depth + 100 < recursionLimit) (hu : A.units + 8 * 100 < cLine) (G : Gd w g)
    (X : Drawn ob0 o1 o2 o3 D vsb vsa lb am msb lsb fi la wd) (C : KC prog w const ctx D Am sv sm words vsb vsa lb cells msb lsb fi la ow kvw) (hW : wordV cells am sg fi la = W) (hDu : ∀ h : Heap, (∀ p ∈ const, h.get? p.1 = some p.2) → ∃ vsd, h.IsList Du vsd.toArray ∧ NA vsd W) (hm : NA vsm (mixL W [1, 0, 2]))
    (F : Fm g L h (("mixed", .ref Dm) :: ("unsure", .bool (decide (¬ 1 ∈ am ∧ (2 ∈ am ∨ 3 ∈ am)))) :: ("sure", .bool (decide (1 ∈ am))) :: ("due", .ref Du) :: nmL ctx words sm sv Am row wd tw t3 t4 ts fi la st sg iv) ((Dm, LO vsm n) :: (c1, o1) :: (c2, o2) :: (c3, o3) :: const))
    (K : ∀ h' tk' nm bag, Fm g L h' nm bag → Q (.ret (.bool true)) (At s h' tk')) :
    wpAny (model prog w) A (execs (lawB w 32) (lawE w fnA cdV L c1 c2 c3)) Q E (At s h tk) := by
  have hWl : W.length = 3 ∧ ∀ c ∈ W, c ≤ 3 := by rw [← hW]; exact word_len (C _ (F.cst (by intro p hp; repeat (first | exact hp | apply List.Mem.tail)))).1.cel
  have hch : chooseL am W [1, 0, 2] = if 1 ∈ am then W else if ¬ 1 ∈ am ∧ (2 ∈ am ∨ 3 ∈ am) then mixL W [1, 0, 2] else [1, 0, 2] := by
    rw [choose_law X.ca]
    by_cases q1 : 1 ∈ am
    · rw [if_pos q1, if_pos q1]
    · rw [if_neg q1, if_neg q1]
      by_cases q2 : 2 ∈ am ∨ 3 ∈ am
      · rw [if_pos q2, if_pos ⟨q1, q2⟩]
      · rw [if_neg q2, if_neg fun z => q2 z.2]
  have hml : (mixL W [1, 0, 2]).length = 3 := by unfold mixL; rw [List.length_zipWith, hWl.1]; rfl
  have hcl : (chooseL am W [1, 0, 2]).length = 3 ∧ ∀ c ∈ chooseL am W [1, 0, 2], c ≤ 3 := by
    rw [hch]
    split
    · exact hWl
    · split
      · exact ⟨hml, mixL_le _ _⟩
      · exact ⟨rfl, by decide⟩
  generalize hCh : chooseL am W [1, 0, 2] = Ch at *
  unfold lawB
  conv in List.drop _ _ => whnf
  unfold lawE
  iterate 3 cell_call
  refine e_cutR (fun v s₁ => ∃ h' tk' Y vsy rest, v = .ref Y ∧ s₁ = At s h' tk' ∧ h'.IsList Y vsy.toArray ∧ NA vsy Ch ∧ (∀ p ∈ const, p ∈ rest) ∧ Fm g L h' (nmL ctx words sm sv Am row wd tw t3 t4 ts fi la st sg iv) rest) ?_ ?_
  · kpt_turns
    refine i_dec (fun q1 => ?_) (fun q1 => ?_)
    · kpt_turns
      obtain ⟨vsd, hDl, hDn⟩ := hDu _ (F.cst (by intro p hp; repeat (first | exact hp | apply List.Mem.tail)))
      exact ⟨_, _, Du, vsd, _, rfl, rfl, hDl, by rw [hch, if_pos q1]; exact hDn, fun p hp => by repeat (first | exact hp | apply List.Mem.tail), F.sub _ _ (by tb_start) .refl⟩
    · kpt_turns
      refine i_dec (fun q2 => ?_) (fun q2 => ?_)
      · kpt_turns
        exact ⟨_, _, Dm, vsm, _, rfl, rfl, F.lstP .here, by rw [hch, if_neg q1, if_pos q2]; exact hm, fun p hp => by repeat (first | exact hp | apply List.Mem.tail), F.sub _ _ (by tb_start) .refl⟩
      · kpt_turns
        rename Fm g L _ _ _ => F1
        exact ⟨_, _, _, _, _, rfl, rfl, F1.lstP .here, by rw [hch, if_neg q1, if_neg q2]; exact NA.n102 _ _ _, fun p hp => by repeat (first | exact hp | apply List.Mem.tail), F1.sub _ _ (by tb_start) .refl⟩
  rintro _ _ ⟨h1, tk1, Y, vsy, rest, rfl, rfl, hYl, hYn, hr, F1⟩
  clear F hch hm hml
  kpt_turns
  refine e_spec0 (made_spec Y vsy Ch hYl hYn (by omega) hcl.2) G F1 hh (dlt (by assumption)) (ult (by assumption)) ?_
  rintro _ h2 tk2 F2 _ ⟨xd, rfl, V⟩
  obtain ⟨oxd, hoxd, F2⟩ := F2.vec V
  kpt_turns
  rename Fm g L _ _ _ => F3
  obtain ⟨_, _, hAm, _⟩ := C _ (F3.cst (by intro p hp; have hp := hr p hp; repeat (first | exact hp | apply List.Mem.tail)))
  refine e_spec0 (const_spec Am vsa am hAm X.na (by have := X.lna.2; omega) X.ca) G F3 hh (dlt (by assumption)) (ult (by assumption)) ?_
  rintro _ h4 tk4 F4 _ ⟨ra, rfl, V⟩
  obtain ⟨oa, hoa, F4⟩ := F4.ct V
  kpt_turns
  obtain ⟨_, _, hAm, _, S2, _⟩ := C _ (F4.cst (by intro p hp; have hp := hr p hp; repeat (first | exact hp | apply List.Mem.tail)))
  obtain ⟨_, _, _, _, q0, q1, q2, q3, q4, q5, q6, q7, q8, q9, I2⟩ := S2
  refine g_attr G F4 I2 (by lcg_off) rfl (by k_is) (by k_is) (by k_is) (by k_is) ?_
  intro _
  kpt_turns
  refine e_spec0 (const_spec Am vsa am hAm X.na (by have := X.lna.2; omega) X.ca) G F4 hh (dlt (by assumption)) (ult (by assumption)) ?_
  rintro _ h5 tk5 F5 _ ⟨rb, rfl, V⟩
  obtain ⟨ob, hob, F5⟩ := F5.ct V
  kpt_turns
  rename Fm g L _ _ _ => F6
  have C6 := (C _ (F6.cst (by intro p hp; have hp := hr p hp; repeat (first | exact hp | apply List.Mem.tail)))).1
  have Xw := ev_word (k := 1) C6 (ev_const (hob.ct (F6.hasP (by ktu_off1L)))) X.ca X.lna.1 X.lna.2 ⟨_, _, _, F6.tup (.tail _ (.tail _ (.head _)))⟩
  rw [hW] at Xw
  have Xa := (ev_const (prog := prog) (w := w) (ctx := ctx) (hoa.ct (F6.hasP (by ktu_off1L)))).mono (show 1 ≤ 1 + 10 by decide)
  have Xd := (ev_const (prog := prog) (w := w) (ctx := ctx) (l := [1, 0, 2]) ⟨_, _, _, _, F6.tup (.tail _ (.head _))⟩).mono (show 1 ≤ 1 + 10 by decide)
  have Xc := ev_cond Xa Xw Xd X.ca hWl.2 (by decide) (by have := X.lna.2; omega) (by omega) hWl.1 ⟨_, _, F6.tup (.head _)⟩
  rw [hCh] at Xc
  refine e_spec0 (Xc (At s _ _) (fun _ _ e => e)) G F6 hh (dlt (by assumption)) (ult (by assumption)) ?_
  rintro _ h7 tk7 F7 _ ⟨x1, rfl, V⟩
  kpt_turns
  refine c_eqvec V (hoxd.vec (F7.hasP (by ktu_off1L))) hcl.2 hcl.2 (by omega) ?_
  rw [decide_eq_true rfl]
  exact K _ _ _ _ F7
end

end
section
section
variable {prog : Program} {w : World} {A : Around} {E : Value → Shared → Prop} {s : Shared} {h g : Heap} {tk : Nat} {L c1 c2 c3 : Addr} {fnA : Addr} {cdV : Value}
theorem law_walk {D0 : Addr} {vs0 : List Value} {ns : List Int} {o1 o2 o3 : Obj} {u1 u2 u3 : Option Value} {Q : Flow → Shared → Prop} (hh : A.handled = none) (hd : A.depth + 100 < recursionLimit) (hu : A.units + 8 * 100 < cLine) (G : Gd w g)
    (F : Fm g L h [("script", .ref D0)] [(c1, o1), (c2, o2), (c3, o3)]) (hD : g.IsList D0 vs0.toArray) (hv : IntsAre vs0 ns) (hl : ns.length ≤ 63)
    (d1 : o1.data = .cell u1) (d2 : o2.data = .cell u2) (d3 : o3.data = .cell u3)
    (K : ∀ h' tk' nm bag, Fm g L h' nm bag → Q (.ret (.bool true)) (At s h' tk')) :
    wpAny (model prog w) A (execs (lawB w 0) (lawE w fnA cdV L c1 c2 c3)) Q E (At s h tk) := by
  refine seg1 hh hd hu G F hD hv hl d1 d2 d3 ?_
  intro h1 tk1 row D Am ob o1 o2 o3 vsb nb vsa na lb am msb lsb fi la t3 t4 sg wd tw X F1
  refine seg2 hh hd hu G X F1 ?_
  intro h2 tk2 st sigs vals mems sv sm words base S m1 m2 m3 F2
  refine seg3 hh hd hu G X S m1 m2 F2 ?_
  intro h3 tk3 n x hn J F3
  refine seg4 hh hd hu G X S m2 m3 hn J F3 ?_
  intro h4 tk4 ctx const ow kvw cells ob4 ho4 C out F4
  have C : KC prog w const ctx D Am sv sm words vsb vsa lb cells msb lsb fi la ow kvw := C
  clear F F1 F2 F3 J S
  refine seg5 hh hd hu G X C F4 ?_
  intro h5 tk5 iv ts hiv F5
  refine seg6 hh hd hu G X ho4 C hiv F5 ?_
  intro h6 tk6 ob6 _ F6
  refine seg7 hh hd hu G X C hiv m1 out F6 ?_
  intro h7 tk7 Du const2 C2 hDu F7
  have hWl : (wordV cells am sg fi la).length = 3 ∧ ∀ c ∈ wordV cells am sg fi la, c ≤ 3 := word_len (C2 _ (F7.cst (by intro p hp; repeat (first | exact hp | apply List.Mem.tail)))).1.cel
  obtain ⟨W, hW⟩ : ∃ W, wordV cells am sg fi la = W := ⟨_, rfl⟩
  rw [hW] at hDu hWl
  refine seg8 hh hd hu G X C2 hW hDu F7 ?_
  intro h8 tk8 F8
  refine seg9 hh hd hu G X C2 F8 ?_
  intro h9 tk9 F9
  refine seg10 hh hd hu G X C2 hWl hDu F9 ?_
  intro h10 tk10 Dm vsm nm hm F10
  exact seg11 hh hd hu G X C2 hW hDu hm F10 K
end

end
section
theorem law_enter {prog : Program} {w : World} {A : Around} {Q : Flow → Shared → Prop} {E : Value → Shared → Prop} {s : Shared} {h : Heap} {tk : Nat} {body : List Stmt} {env : Env} {p : Program} {loose : List Str} {mean : ExcName → Option Value} {mg mb : Str → Option Value} {m : Str → Option Value} {oA oB oC : Obj} {D0 : Addr} {vs : List Value} {ns : List Int} {u1 u2 u3 : Option Value}
    (KX : (Mine.hd.heap_39 w.params).In s.heap) (T : Top p loose mean mg mb s.heap) (F : Fr s.heap s.heap.objs.size h m) (N : News s.heap s.heap.objs.size h [(s.heap.objs.size + 1 + 1 + 1, oA), (s.heap.objs.size + 1 + 1, oB), (s.heap.objs.size + 1, oC)])
    (hL : s.heap.IsList D0 vs.toArray) (hI : IntsAre vs ns) (hl : ¬ ((63 : Nat) : Int) < ((ns.length : Nat) : Int)) (dA : oA.data = .cell u1) (dB : oB.data = .cell u2) (dC : oC.data = .cell u3) (hm : m "script" = some (.ref D0))
    (hb : body = lawB w 0) (he : env = lawE w (env.func.getD 0) env.code s.heap.objs.size (s.heap.objs.size + 1 + 1 + 1) (s.heap.objs.size + 1 + 1) (s.heap.objs.size + 1))
    (hh : A.handled = none) (hd : A.depth + 100 < recursionLimit) (hu : A.units + 8 * 100 < cLine)
    (K : ∀ h' tk', (∀ b o, s.heap.get? b = some o → h'.get? b = some o) → Q (.ret (.bool true)) (At s h' tk')) : wpAny (model prog w) A (execs body env) Q E (At s h tk) := by
  rw [hb, he]
  refine law_walk hh hd hu ⟨KX, _, _, _, _, topRead_of T⟩ (Fm.ofCells [("script", .ref D0)] F N (fun p hp => by rw [List.mem_singleton.mp hp]; exact hm) (nd3 _)) hL hI (by omega) dA dB dC ?_
  intro h' tk' nm bag F'
  exact K h' tk' fun b o e => F'.keep b o e

end
end
end Mine
set_option maxRecDepth 100000
set_option maxHeartbeats 0
theorem PySem.Challenge.cw_nn0332_01_holds : PySem.Challenge.rw_nn0332_01.Holds := by
  exact Mine.hd (by
    k_go0
    rename_i oA oB oC dA dB dC N0 X0
    rename Top _ _ _ _ _ _ => T
    rename PySem.W.Frag.In _ _ => KX
    rename Fr _ _ _ _ => F
    rename IntsAre _ _ => hI
    rename Heap.IsList _ _ _ => hL
    rename Shared.gens _ = _ => hg
    rename ¬ _ => hlen
    refine Mine.law_enter KX T F N0 hL hI hlen dA dB dC (by kernel_rfl!) (by kernel_rfl!) (by kernel_rfl!) rfl (of_decide_eq_true (by kernel_rfl!)) (of_decide_eq_true (by kernel_rfl!)) (fun h' tk' hk => ?_)
    refine ⟨.inl ⟨_, .bool true, [], rfl, fun _ => rfl, .bool true, ?_, fun _ => ⟨.nil, fun _ h => (nomatch h)⟩⟩, hk, rfl, hg⟩
    kernel_rfl!)
