import PyProof.Rows.All
import Wide.All
import OpenK.AllK
import Wide.FinOn
import KE.KData
import KE.KEqDat
import KE.KItemAt
import Lean
import PySem.Challenge.RW_sm0123_01
open PySem PySem.W PyProof.Rows
set_option Elab.async false
set_option maxRecDepth 100000
set_option maxHeartbeats 8000000
set_option linter.all false
set_option compiler.extract_closed false
set_option genInjectivity false
set_option genSizeOf false
namespace Mine
theorem hd.tw18216991992659828111 : True := trivial
theorem hd.tw14015909994521340511 : True := trivial
theorem hd.tw15400726358817843085 : True := trivial
theorem hd.tw11387694631328260470 : True := trivial
theorem hd.tw8824441977032169737 : True := trivial
theorem low.tw4327750990416552013 : True := trivial
theorem hd.tw4327750990416552013 : True := trivial
theorem hd.tw5526644824583589147 : True := trivial
theorem hd.tw4481051177388795877 : True := trivial
theorem hd.tw13590489896138608164 : True := trivial
theorem hd.tw3418944747029953165 : True := trivial
theorem hd.tw1497513725890114134 : True := trivial
theorem hd.tw17330945745186091897 : True := trivial
theorem hd.tw8047900516022102942 : True := trivial
theorem hd.tw2617190388676272812 : True := trivial
theorem hd.tw5629675986466331604 : True := trivial
theorem hd.tw7891253978561527248 : True := trivial
theorem hd.tw6123773746684550334 : True := trivial
theorem hd.tw10326790832001650384 : True := trivial
theorem hd.tw10949625832625181284 : True := trivial
theorem hd.tw3026753882482905222 : True := trivial
theorem hd.tw4315991029959535628 : True := trivial
theorem hd.tw17599816209265215132 : True := trivial
theorem hd.tw7155415327029175403 : True := trivial
theorem hd.tw13315533130655954831 : True := trivial
theorem hd.tw17733724502801981806 : True := trivial
theorem hd.tw9277588360372424766 : True := trivial
theorem hd.tw5054737718236178183 : True := trivial
theorem hd.tw6990203504111849199 : True := trivial
theorem hd.tw3795277891434052102 : True := trivial
theorem hd.tw5920070799505406782 : True := trivial
theorem hd.tw3259873300814134281 : True := trivial
theorem hd.tw6046025761626283908 : True := trivial
theorem hd.tw6184460063843016694 : True := trivial
theorem hd.tw13956165655338008812 : True := trivial
theorem hd.tw5416991563250132298 : True := trivial
theorem hd.tw16154546982801380032 : True := trivial
theorem hd.tw432457690288141553 : True := trivial
theorem hd.tw9430268157657104642 : True := trivial
theorem hd.tw18241275227582772068 : True := trivial
theorem hd.tw6998783941825042932 : True := trivial
theorem hd.tw10678649693572172417 : True := trivial
theorem hd.tw8356816923877370021 : True := trivial
theorem hd.tw10030107230732127627 : True := trivial
theorem hd.tw2327210489368252092 : True := trivial
theorem hd.tw17420951861521290806 : True := trivial
theorem hd.tw17903497710992402801 : True := trivial
theorem hd.tw14457593812595234344 : True := trivial
theorem hd.tw11652457597714270106 : True := trivial
theorem hd.tw8841187974860818712 : True := trivial
theorem hd.tw10525666975642140466 : True := trivial
theorem hd.tw12629568148972539762 : True := trivial
theorem hd.tw15153279154761372571 : True := trivial
theorem hd.tw5174551420813472067 : True := trivial
theorem hd.tw17183224562656869120 : True := trivial
theorem hd.tw11959044307898795358 : True := trivial
theorem hd.tw6838551448383532254 : True := trivial
theorem hd.tw1847840615245081061 : True := trivial
theorem hd.tw18245042118932799458 : True := trivial
theorem hd.tw6264232113106981867 : True := trivial
theorem hd.tw2323474266016966308 : True := trivial
theorem hd.tw212345690472687942 : True := trivial
theorem hd.tw17606422857730326317 : True := trivial
theorem hd.tw6394381022753523788 : True := trivial
theorem hd.tw9783614193127449063 : True := trivial
theorem hd.tw3953601041324332601 : True := trivial
theorem hd.tw14478148883734587675 : True := trivial
theorem hd.tw17252143746492648416 : True := trivial
theorem hd.tw10879034167726328663 : True := trivial
theorem hd.tw13903934854276604550 : True := trivial
theorem hd.tw13368278939475635651 : True := trivial
theorem hd.tw8832402302947667407 : True := trivial
theorem hd.tw1452849714261714991 : True := trivial
theorem hd.tw1836080755315867724 : True := trivial
theorem hd.tw4015398097383911347 : True := trivial
theorem hd.tw5608270528595127837 : True := trivial
theorem hd.tw15083628210047938546 : True := trivial
theorem hd.tw1506431575118746342 : True := trivial
theorem hd.tw8025032847418708242 : True := trivial
theorem hd.tw395138700845864316 : True := trivial
theorem hd.tw16037735763661986305 : True := trivial
theorem hd.tw14906377314874228009 : True := trivial
theorem hd.tw1800889605409440832 : True := trivial
theorem hd.tw8226494294326810461 : True := trivial
theorem hd.tw16996915472630922493 : True := trivial
theorem hd.tw10403243965636340961 : True := trivial
theorem hd.tw8934143017859847078 : True := trivial
theorem hd.tw14294001040229213422 : True := trivial
theorem hd.tw15529170255622000948 : True := trivial
theorem hd.tw15759970867653108152 : True := trivial
theorem hd.tw461538923250603899 : True := trivial
theorem hd.tw11319892378374348655 : True := trivial
theorem hd.tw16432713993328977331 : True := trivial
theorem hd.tw6555240042291301478 : True := trivial
theorem hd.tw1013155817946168525 : True := trivial
theorem hd.tw10170382586518783626 : True := trivial
theorem hd.tw5961118342813265553 : True := trivial
theorem hd.tw11465210709893060100 : True := trivial
theorem hd.tw5559951931751713254 : True := trivial
theorem hd.tw1382963296337349011 : True := trivial
theorem hd.tw16794629799341752650 : True := trivial
theorem hd.tw17087091549796120035 : True := trivial
theorem hd.tw5036846961687405229 : True := trivial
theorem hd.tw13866372431405929976 : True := trivial
theorem hd.tw16091413853298234908 : True := trivial
theorem hd.tw6924109203229866365 : True := trivial
theorem hd.tw14103535550066685397 : True := trivial
theorem hd.tw5562173858411828344 : True := trivial
theorem hd.tw4172343393113369950 : True := trivial
theorem hd.tw11210553801493137410 : True := trivial
theorem hd.tw8117029840178788049 : True := trivial
theorem hd.tw758273949599710562 : True := trivial
theorem hd.tw8343274005884668182 : True := trivial
theorem hd.tw10792051664901133789 : True := trivial
theorem hd.tw2114630138375439770 : True := trivial
theorem hd.tw7752767780024739350 : True := trivial
theorem hd.tw3493717111155160527 : True := trivial
theorem hd.tw16828841361933241965 : True := trivial
theorem hd.tw2068664650715991707 : True := trivial
theorem hd.tw3452082135128663414 : True := trivial
theorem hd.tw4706079058837389440 : True := trivial
theorem hd.tw1997569388931296116 : True := trivial
theorem hd.tw7296583596125217682 : True := trivial
theorem hd.tw11162318198679636149 : True := trivial
theorem hd.tw4851647983119433812 : True := trivial
theorem hd.tw11389486352061984695 : True := trivial
theorem hd.tw1097998534492414930 : True := trivial
theorem hd.tw5148922909946612681 : True := trivial
theorem hd.tw17397052962432165270 : True := trivial
theorem hd.tw15166520500009309586 : True := trivial
theorem hd.tw13330244855972007585 : True := trivial
theorem hd.tw12588582704262371052 : True := trivial
theorem hd.tw4402725079659364252 : True := trivial
theorem hd.tw5978321128707920903 : True := trivial
theorem hd.tw9748044761591592747 : True := trivial
theorem hd.tw5511420028821071320 : True := trivial
theorem hd.tw18343703819029505601 : True := trivial
theorem hd.tw9719896912496429819 : True := trivial
theorem hd.tw10296555574160606952 : True := trivial
theorem hd.tw10743916045514856203 : True := trivial
theorem hd.tw12070051907170230399 : True := trivial
theorem hd.tw2708950531961675432 : True := trivial
theorem hd.tw10614716105012338702 : True := trivial
theorem hd.tw3919010098100093602 : True := trivial
theorem hd.tw8268277133935991078 : True := trivial
theorem hd.tw7754304195085646258 : True := trivial
theorem hd.tw12271959270614036898 : True := trivial
theorem hd.tw13217225542625558698 : True := trivial
theorem hd.tw7519716089354478335 : True := trivial
theorem hd.tw5732804406350252772 : True := trivial
theorem hd.tw13919464512627920130 : True := trivial
theorem hd.tw16473244170626142550 : True := trivial
theorem hd.tw12112201142124510154 : True := trivial
theorem hd.tw3109861748172591687 : True := trivial
theorem hd.tw17901334829092211166 : True := trivial
theorem hd.tw11660266114150955751 : True := trivial
theorem hd.tw9427301549700849589 : True := trivial
theorem hd.tw10784824025267889561 : True := trivial
theorem hd.tw7023726343779634624 : True := trivial
theorem hd.tw17650839729002327288 : True := trivial
theorem hd.tw1882180444382439491 : True := trivial
theorem hd.tw13431754692932380062 : True := trivial
theorem hd.tw5461583852855630226 : True := trivial
theorem hd.tw6038821095411175016 : True := trivial
theorem hd.tw18185175575083235020 : True := trivial
theorem hd.tw1439246655266547700 : True := trivial
theorem hd.tw15368132723985388332 : True := trivial
theorem hd.tw2391449824757734642 : True := trivial
theorem hd.tw18219297243305740317 : True := trivial
theorem hd.tw17711083657039698284 : True := trivial
theorem hd.tw16970440968685349367 : True := trivial
theorem hd.tw1129884963351977449 : True := trivial
theorem hd.tw8428860471423672150 : True := trivial
theorem hd.tw15422856539912107476 : True := trivial
theorem hd.tw3915529967508079626 : True := trivial
theorem hd.tw3429492842335990350 : True := trivial
theorem hd.tw7610815399733428385 : True := trivial
theorem hd.tw17986969038992634876 : True := trivial
theorem hd.tw8977307856219701671 : True := trivial
theorem hd.tw7510230149288206974 : True := trivial
theorem hd.tw3008623586974134963 : True := trivial
theorem hd.tw16649331688326792143 : True := trivial
theorem hd.tw13855946660403688772 : True := trivial
theorem hd.tw13181700845877081190 : True := trivial
theorem hd.tw8959176491354863721 : True := trivial
theorem hd.tw6438293893037913957 : True := trivial
theorem hd.tw11032806212648032379 : True := trivial
theorem hd.tw9345929723534960622 : True := trivial
theorem hd.tw8789358453043137523 : True := trivial
theorem hd.tw11631869004601391166 : True := trivial
theorem hd.tw16345102440705955213 : True := trivial
theorem hd.tw15089522573102190283 : True := trivial
theorem hd.tw17739348878880393726 : True := trivial
theorem hd.tw18322514126500204803 : True := trivial
theorem hd.tw7068711184596962023 : True := trivial
theorem hd.tw17054507655720011243 : True := trivial
theorem hd.tw9566141503761928105 : True := trivial
theorem hd.tw3571134770919094901 : True := trivial
theorem hd.tw15852365999677673905 : True := trivial
theorem hd.tw16056359734778111409 : True := trivial
theorem hd.tw6820862383352777685 : True := trivial
theorem hd.tw9673543361469618366 : True := trivial
theorem hd.tw14955159897011116063 : True := trivial
theorem hd.tw6528754448969337418 : True := trivial
theorem hd.tw11128854368766332075 : True := trivial
theorem hd.tw7085514621470718492 : True := trivial
theorem hd.tw2930668341846507884 : True := trivial
theorem hd.tw14892549342360969540 : True := trivial
theorem hd.tw16853341256802265648 : True := trivial
theorem hd.tw14353793391729792155 : True := trivial
theorem hd.tw8228950375871286339 : True := trivial
theorem hd.tw6196171512934965099 : True := trivial
theorem hd.tw6442067068224118133 : True := trivial
theorem hd.tw189712035060473897 : True := trivial
theorem hd.tw22551697357593593 : True := trivial
theorem hd.tw16007149819294483003 : True := trivial
theorem hd.tw2252305205657439004 : True := trivial
theorem hd.tw1011335219593555734 : True := trivial
theorem hd.tw8671608845466749128 : True := trivial
theorem hd.tw4297731678662094536 : True := trivial
theorem hd.tw9763420282994701918 : True := trivial
theorem hd.tw12797040952259185971 : True := trivial
theorem hd.tw17950676927832955104 : True := trivial
theorem hd.tw17047115858639842297 : True := trivial
theorem hd.tw15910714762333108613 : True := trivial
theorem hd.tw17062030032774818151 : True := trivial
theorem hd.tw10258225898301398825 : True := trivial
theorem hd.tw5366084841770067474 : True := trivial
theorem hd.tw4377701919642642989 : True := trivial
theorem hd.tw4325921153153474475 : True := trivial
theorem hd.tw7914949630228597729 : True := trivial
theorem hd.tw6164396464334811476 : True := trivial
theorem hd.tw12936449754285732098 : True := trivial
theorem hd.tw8364274539379898114 : True := trivial
theorem hd.tw16211521421427940678 : True := trivial
theorem hd.tw13609717118414637909 : True := trivial
theorem hd.tw17177331786930743035 : True := trivial
theorem hd.tw1413172679324656950 : True := trivial
theorem hd.tw3759623122121258479 : True := trivial
theorem hd.tw922143313871775805 : True := trivial
theorem hd.tw701787995468756871 : True := trivial
theorem hd.tw4225703048834024713 : True := trivial
theorem hd.tw6293948785866598258 : True := trivial
theorem hd.tw8770205317985620760 : True := trivial
theorem hd.tw18293732401869909652 : True := trivial
theorem hd.tw16412773359747925120 : True := trivial
theorem hd.tw12023040214023829324 : True := trivial
theorem hd.tw15527848837575444561 : True := trivial
theorem hd.tw6767318904944593275 : True := trivial
theorem hd.tw16945582573551092051 : True := trivial
theorem hd.tw11611254532205267744 : True := trivial
theorem hd.tw13277076834127875243 : True := trivial
theorem hd.tw14176624398918483544 : True := trivial
theorem hd.tw2216850387143573719 : True := trivial
theorem hd.tw991583007596301734 : True := trivial
theorem hd.tw12451258846644117672 : True := trivial
theorem hd.tw11953376511379268794 : True := trivial
theorem hd.tw17574625026820762457 : True := trivial
theorem hd.tw15837987909243819085 : True := trivial
theorem hd.tw2887051446865420828 : True := trivial
theorem low.tw13911531016132796548 : True := trivial
theorem hd.tw13911531016132796548 : True := trivial
theorem hd.tw1760603350576429475 : True := trivial
theorem hd.tw6545403380812914513 : True := trivial
theorem hd.tw3229955645248102723 : True := trivial
theorem hd.tw15833661619300960221 : True := trivial
theorem hd.tw15114108414909977919 : True := trivial
theorem hd.tw978945382295711627 : True := trivial
theorem hd.tw11917015161858427179 : True := trivial
theorem hd.tw16868993833207775613 : True := trivial
theorem hd.tw8716120427605611371 : True := trivial
theorem hd.tw17808607793243039243 : True := trivial
theorem hd.tw13753220567063992666 : True := trivial
theorem hd.tw16194383521188589630 : True := trivial
theorem hd.tw9557236495431379559 : True := trivial
theorem hd.tw2037972409741389414 : True := trivial
theorem hd.tw7816577550770918932 : True := trivial
theorem hd.tw14400467628812073631 : True := trivial
theorem hd.tw8086110750863094267 : True := trivial
theorem hd.tw9421340871869096474 : True := trivial
theorem hd.tw7540655947842036084 : True := trivial
theorem hd.tw12614811148066621264 : True := trivial
theorem hd.tw9345676750909349944 : True := trivial
theorem hd.tw7366208706002141716 : True := trivial
theorem hd.tw4971549296188076032 : True := trivial
theorem hd.tw11213053971927718326 : True := trivial
theorem hd.tw9960721518486171458 : True := trivial
theorem hd.tw7059539395403794157 : True := trivial
theorem hd.tw5567388512258382067 : True := trivial
theorem hd.tw17061077104543960549 : True := trivial
theorem hd.tw11631947586910100387 : True := trivial
theorem hd.tw728884934406724761 : True := trivial
theorem hd.tw16477043939570097188 : True := trivial
theorem hd.tw16222499966895952523 : True := trivial
theorem hd.tw11232374478483605306 : True := trivial
theorem hd.tw5190246844813560578 : True := trivial
theorem hd.tw8414420238210853183 : True := trivial
theorem hd.tw17714235663813219645 : True := trivial
theorem hd.tw16634568088961857937 : True := trivial
theorem hd.tw13828106393651249627 : True := trivial
theorem hd.tw9641152695372364146 : True := trivial
theorem hd.tw9499510787657705874 : True := trivial
theorem hd.tw9386895884608548742 : True := trivial
theorem hd.tw9237616624170024493 : True := trivial
theorem hd.tw9170477692918782315 : True := trivial
theorem hd.tw8990313861142287110 : True := trivial
theorem hd.tw8879563391730754479 : True := trivial
theorem hd.tw8735263284916673568 : True := trivial
theorem hd.tw8727321023445011275 : True := trivial
theorem hd.tw8458067239894703972 : True := trivial
theorem hd.tw8068729725432388964 : True := trivial
theorem hd.tw7763873220885509757 : True := trivial
theorem hd.tw7494724483528729301 : True := trivial
theorem hd.tw7355570028127101125 : True := trivial
theorem hd.tw7289634563603522867 : True := trivial
theorem hd.tw7120233287515763914 : True := trivial
theorem hd.tw7109450275434161582 : True := trivial
theorem hd.tw6982297934935202809 : True := trivial
theorem hd.tw6931407450589930559 : True := trivial
theorem hd.tw6868836192036940282 : True := trivial
theorem hd.tw6819123309680001836 : True := trivial
theorem hd.tw6785817131721698500 : True := trivial
theorem hd.tw6663896369628448293 : True := trivial
theorem hd.tw6598312636042714100 : True := trivial
theorem hd.tw6411954120941647267 : True := trivial
theorem hd.tw6407587892757256292 : True := trivial
theorem hd.tw6291416237084387574 : True := trivial
theorem hd.tw6276725880618359904 : True := trivial
theorem hd.tw6154236146145331571 : True := trivial
theorem hd.tw5987830557187376847 : True := trivial
theorem hd.tw5902613922787404954 : True := trivial
theorem hd.tw5781342201191254626 : True := trivial
theorem hd.tw5657824000916062451 : True := trivial
theorem hd.tw5373601922739893978 : True := trivial
theorem hd.tw5363564295841288755 : True := trivial
theorem hd.tw4993660671451451078 : True := trivial
theorem hd.tw4870687313549177768 : True := trivial
theorem hd.tw4856431653887292112 : True := trivial
theorem hd.tw4702841417184801058 : True := trivial
theorem hd.tw4494801613693538912 : True := trivial
theorem hd.tw4360684699965382250 : True := trivial
theorem hd.tw4115565904173853331 : True := trivial
theorem hd.tw402640490398009360 : True := trivial
theorem hd.tw4014540891139286612 : True := trivial
theorem hd.tw3828038474966422129 : True := trivial
theorem hd.tw3789350110615891812 : True := trivial
theorem hd.tw3530705653197291679 : True := trivial
theorem hd.tw3451239065008710300 : True := trivial
theorem hd.tw3381375190539634487 : True := trivial
theorem hd.tw2867327485932766208 : True := trivial
theorem hd.tw2603259988358896889 : True := trivial
theorem hd.tw2442259710966052079 : True := trivial
theorem hd.tw2329189449893159454 : True := trivial
theorem hd.tw2195365466389143174 : True := trivial
theorem hd.tw2167537188350426706 : True := trivial
theorem hd.tw2101469004524951375 : True := trivial
theorem hd.tw18293851220164018083 : True := trivial
theorem hd.tw18264374347568628810 : True := trivial
theorem hd.tw18103342009636024947 : True := trivial
theorem hd.tw17975533764899295144 : True := trivial
theorem hd.tw17681399029576232318 : True := trivial
theorem hd.tw17672654358674132775 : True := trivial
theorem hd.tw17588044629489971554 : True := trivial
theorem hd.tw17387473266821786944 : True := trivial
theorem hd.tw17258206423299326598 : True := trivial
theorem hd.tw17213754286329925777 : True := trivial
theorem hd.tw16920754564084929960 : True := trivial
theorem hd.tw16904818350239718627 : True := trivial
theorem hd.tw16640546478005224243 : True := trivial
theorem hd.tw16299908979028503884 : True := trivial
theorem hd.tw16171809288044610508 : True := trivial
theorem hd.tw16011055738799735888 : True := trivial
theorem hd.tw15967140613478806237 : True := trivial
theorem hd.tw1589133516308662214 : True := trivial
theorem hd.tw15790720579355451973 : True := trivial
theorem hd.tw15683763237869141255 : True := trivial
theorem hd.tw15673258824015622330 : True := trivial
theorem hd.tw15642763164714097627 : True := trivial
theorem hd.tw15615537253650120727 : True := trivial
theorem hd.tw15615420239508185596 : True := trivial
theorem hd.tw15508949281206285077 : True := trivial
theorem hd.tw15411387601460861337 : True := trivial
theorem hd.tw15367242080415987702 : True := trivial
theorem hd.tw15103106377680225435 : True := trivial
theorem hd.tw14960593345356199642 : True := trivial
theorem hd.tw14896477498954680388 : True := trivial
theorem hd.tw14705683404202351889 : True := trivial
theorem hd.tw14620637471214046174 : True := trivial
theorem hd.tw14560493823538711346 : True := trivial
theorem hd.tw14553816603554493358 : True := trivial
theorem hd.tw13825509269061658866 : True := trivial
theorem hd.tw13790719812936386609 : True := trivial
theorem hd.tw13770079208771991547 : True := trivial
theorem hd.tw1359830224848277088 : True := trivial
theorem hd.tw13518370688599389936 : True := trivial
theorem hd.tw13409441903868389331 : True := trivial
theorem hd.tw13372043803930879067 : True := trivial
theorem hd.tw13338143212406534295 : True := trivial
theorem hd.tw13321331477185743149 : True := trivial
theorem hd.tw13267510147771200024 : True := trivial
theorem hd.tw13225837485096350037 : True := trivial
theorem hd.tw12901994302517312135 : True := trivial
theorem hd.tw12647368939536790636 : True := trivial
theorem hd.tw12487502673411948298 : True := trivial
theorem hd.tw1241404454085649124 : True := trivial
theorem hd.tw12399718760709695909 : True := trivial
theorem hd.tw12173100003817136821 : True := trivial
theorem hd.tw12113243949977362033 : True := trivial
theorem hd.tw11754176132448286083 : True := trivial
theorem hd.tw11513968764499736323 : True := trivial
theorem hd.tw11136197038861592535 : True := trivial
theorem hd.tw10752148897807903841 : True := trivial
theorem hd.tw10583446816852156582 : True := trivial
theorem hd.tw10458740792067480800 : True := trivial
theorem hd.tw10258999931320997221 : True := trivial
theorem hd.tw10216474801634566288 : True := trivial
theorem hd.tw10024716035694756283 : True := trivial
theorem way {H : Prop} (T : Prop) (walkX : T) (h : (∀ y : T, y = walkX) → H) : H := h fun _ => rfl
set_option Elab.async true in
theorem hd : True := by
  clear hd
  refine' (?g : _ → True) (?m : PySem.Challenge.rw_sm0123_01.row.Holds)
  case g => exact fun _ => trivial
  case m =>
    apply_rules (newGoals := .nonDependentOnly) (maxDepth := 1) (symm := false) (exfalso := false) only [way]
    intro _
    as_aux_lemma =>
      w_on
      k_head
      case hw => w_witness2
      exact ?walkX
theorem top : type_of% @hd._proof_1_533 := @hd._proof_1_533
set_option Elab.async true in
theorem low (h : PySem.Challenge.rw_sm0123_01.row.Holds) : PySem.Challenge.rw_sm0123_01.Holds := by
  o_law
  exact h
theorem low_end : type_of% @low._proof_1_1 := @low._proof_1_1
theorem off : True := by
  w_top off
  trivial
theorem wp_tok {α : Type} {M : Model} {A : Around} {c : Sem α} {Q : α → Shared → Prop} {E : Value → Shared → Prop} {s : Shared} {h : Heap} {t n : Nat} (k : ∀ tk, wpAny M A c Q E { s with heap := h, toks := tk }) : wpAny M A c Q E { s with heap := h, toks := t + n } := k _
theorem an1 {a d : Nat} {P : Prop} (h : a < d ∧ P) : a ≠ d := Nat.ne_of_lt h.1
theorem an2 {a d x1 : Nat} {P : Prop} (h : x1 < d ∧ a < d ∧ P) : a ≠ d := Nat.ne_of_lt h.2.1
theorem al2 {a d x1 : Nat} (h : x1 < d ∧ a < d) : a ≠ d := Nat.ne_of_lt h.2
theorem an3 {a d x1 x2 : Nat} {P : Prop} (h : x1 < d ∧ x2 < d ∧ a < d ∧ P) : a ≠ d := Nat.ne_of_lt h.2.2.1
theorem al3 {a d x1 x2 : Nat} (h : x1 < d ∧ x2 < d ∧ a < d) : a ≠ d := Nat.ne_of_lt h.2.2
theorem an4 {a d x1 x2 x3 : Nat} {P : Prop} (h : x1 < d ∧ x2 < d ∧ x3 < d ∧ a < d ∧ P) : a ≠ d := Nat.ne_of_lt h.2.2.2.1
theorem al4 {a d x1 x2 x3 : Nat} (h : x1 < d ∧ x2 < d ∧ x3 < d ∧ a < d) : a ≠ d := Nat.ne_of_lt h.2.2.2
theorem an5 {a d x1 x2 x3 x4 : Nat} {P : Prop} (h : x1 < d ∧ x2 < d ∧ x3 < d ∧ x4 < d ∧ a < d ∧ P) : a ≠ d := Nat.ne_of_lt h.2.2.2.2.1
theorem al5 {a d x1 x2 x3 x4 : Nat} (h : x1 < d ∧ x2 < d ∧ x3 < d ∧ x4 < d ∧ a < d) : a ≠ d := Nat.ne_of_lt h.2.2.2.2
theorem an6 {a d x1 x2 x3 x4 x5 : Nat} {P : Prop} (h : x1 < d ∧ x2 < d ∧ x3 < d ∧ x4 < d ∧ x5 < d ∧ a < d ∧ P) : a ≠ d := Nat.ne_of_lt h.2.2.2.2.2.1
theorem al6 {a d x1 x2 x3 x4 x5 : Nat} (h : x1 < d ∧ x2 < d ∧ x3 < d ∧ x4 < d ∧ x5 < d ∧ a < d) : a ≠ d := Nat.ne_of_lt h.2.2.2.2.2
theorem an7 {a d x1 x2 x3 x4 x5 x6 : Nat} {P : Prop} (h : x1 < d ∧ x2 < d ∧ x3 < d ∧ x4 < d ∧ x5 < d ∧ x6 < d ∧ a < d ∧ P) : a ≠ d := Nat.ne_of_lt h.2.2.2.2.2.2.1
theorem al7 {a d x1 x2 x3 x4 x5 x6 : Nat} (h : x1 < d ∧ x2 < d ∧ x3 < d ∧ x4 < d ∧ x5 < d ∧ x6 < d ∧ a < d) : a ≠ d := Nat.ne_of_lt h.2.2.2.2.2.2
theorem an8 {a d x1 x2 x3 x4 x5 x6 x7 : Nat} {P : Prop} (h : x1 < d ∧ x2 < d ∧ x3 < d ∧ x4 < d ∧ x5 < d ∧ x6 < d ∧ x7 < d ∧ a < d ∧ P) : a ≠ d := Nat.ne_of_lt h.2.2.2.2.2.2.2.1
theorem al8 {a d x1 x2 x3 x4 x5 x6 x7 : Nat} (h : x1 < d ∧ x2 < d ∧ x3 < d ∧ x4 < d ∧ x5 < d ∧ x6 < d ∧ x7 < d ∧ a < d) : a ≠ d := Nat.ne_of_lt h.2.2.2.2.2.2.2
theorem an9 {a d x1 x2 x3 x4 x5 x6 x7 x8 : Nat} {P : Prop} (h : x1 < d ∧ x2 < d ∧ x3 < d ∧ x4 < d ∧ x5 < d ∧ x6 < d ∧ x7 < d ∧ x8 < d ∧ a < d ∧ P) : a ≠ d := Nat.ne_of_lt h.2.2.2.2.2.2.2.2.1
theorem al9 {a d x1 x2 x3 x4 x5 x6 x7 x8 : Nat} (h : x1 < d ∧ x2 < d ∧ x3 < d ∧ x4 < d ∧ x5 < d ∧ x6 < d ∧ x7 < d ∧ x8 < d ∧ a < d) : a ≠ d := Nat.ne_of_lt h.2.2.2.2.2.2.2.2
theorem an10 {a d x1 x2 x3 x4 x5 x6 x7 x8 x9 : Nat} {P : Prop} (h : x1 < d ∧ x2 < d ∧ x3 < d ∧ x4 < d ∧ x5 < d ∧ x6 < d ∧ x7 < d ∧ x8 < d ∧ x9 < d ∧ a < d ∧ P) : a ≠ d := Nat.ne_of_lt h.2.2.2.2.2.2.2.2.2.1
theorem al10 {a d x1 x2 x3 x4 x5 x6 x7 x8 x9 : Nat} (h : x1 < d ∧ x2 < d ∧ x3 < d ∧ x4 < d ∧ x5 < d ∧ x6 < d ∧ x7 < d ∧ x8 < d ∧ x9 < d ∧ a < d) : a ≠ d := Nat.ne_of_lt h.2.2.2.2.2.2.2.2.2
theorem an11 {a d x1 x2 x3 x4 x5 x6 x7 x8 x9 x10 : Nat} {P : Prop} (h : x1 < d ∧ x2 < d ∧ x3 < d ∧ x4 < d ∧ x5 < d ∧ x6 < d ∧ x7 < d ∧ x8 < d ∧ x9 < d ∧ x10 < d ∧ a < d ∧ P) : a ≠ d := Nat.ne_of_lt h.2.2.2.2.2.2.2.2.2.2.1
theorem al11 {a d x1 x2 x3 x4 x5 x6 x7 x8 x9 x10 : Nat} (h : x1 < d ∧ x2 < d ∧ x3 < d ∧ x4 < d ∧ x5 < d ∧ x6 < d ∧ x7 < d ∧ x8 < d ∧ x9 < d ∧ x10 < d ∧ a < d) : a ≠ d := Nat.ne_of_lt h.2.2.2.2.2.2.2.2.2.2
theorem an12 {a d x1 x2 x3 x4 x5 x6 x7 x8 x9 x10 x11 : Nat} {P : Prop} (h : x1 < d ∧ x2 < d ∧ x3 < d ∧ x4 < d ∧ x5 < d ∧ x6 < d ∧ x7 < d ∧ x8 < d ∧ x9 < d ∧ x10 < d ∧ x11 < d ∧ a < d ∧ P) : a ≠ d := Nat.ne_of_lt h.2.2.2.2.2.2.2.2.2.2.2.1
theorem al12 {a d x1 x2 x3 x4 x5 x6 x7 x8 x9 x10 x11 : Nat} (h : x1 < d ∧ x2 < d ∧ x3 < d ∧ x4 < d ∧ x5 < d ∧ x6 < d ∧ x7 < d ∧ x8 < d ∧ x9 < d ∧ x10 < d ∧ x11 < d ∧ a < d) : a ≠ d := Nat.ne_of_lt h.2.2.2.2.2.2.2.2.2.2.2
theorem room_ {x n L k : Nat} (h : n < L) (e : x + k = n) : x < L := Nat.lt_of_le_of_lt (Nat.le.intro e) h
section
open PySem PySem.W PyProof.Rows
theorem off0 : True := by (w_top off; trivial)
def Stop (P : Prop) : Prop := P
theorem stop_here {P : Prop} (h : Stop P) : P := h
theorem stop_go {P : Prop} (h : P) : Stop P := h
abbrev prg : Program := PySem.Challenge.rw_sm0123_01.row.prog
@[reducible] def cpuEs (P : Params) (kt : Nat → Nat) (r s ix iy sp pc i ref iff1 iff2 mode halt held states : Value) : List DictEntry :=
  [⟨PyData.keyHash P (Str.ofString "r"), .str (Str.ofString "r") (kt 0), r⟩,
   ⟨PyData.keyHash P (Str.ofString "s"), .str (Str.ofString "s") (kt 1), s⟩,
   ⟨PyData.keyHash P (Str.ofString "ix"), .str (Str.ofString "ix") (kt 2), ix⟩,
   ⟨PyData.keyHash P (Str.ofString "iy"), .str (Str.ofString "iy") (kt 3), iy⟩,
   ⟨PyData.keyHash P (Str.ofString "sp"), .str (Str.ofString "sp") (kt 4), sp⟩,
   ⟨PyData.keyHash P (Str.ofString "pc"), .str (Str.ofString "pc") (kt 5), pc⟩,
   ⟨PyData.keyHash P (Str.ofString "i"), .str (Str.ofString "i") (kt 6), i⟩,
   ⟨PyData.keyHash P (Str.ofString "ref"), .str (Str.ofString "ref") (kt 7), ref⟩,
   ⟨PyData.keyHash P (Str.ofString "iff1"), .str (Str.ofString "iff1") (kt 8), iff1⟩,
   ⟨PyData.keyHash P (Str.ofString "iff2"), .str (Str.ofString "iff2") (kt 9), iff2⟩,
   ⟨PyData.keyHash P (Str.ofString "mode"), .str (Str.ofString "mode") (kt 10), mode⟩,
   ⟨PyData.keyHash P (Str.ofString "is_halted"), .str (Str.ofString "is_halted") (kt 11), halt⟩,
   ⟨PyData.keyHash P (Str.ofString "is_held"), .str (Str.ofString "is_held") (kt 12), held⟩,
   ⟨PyData.keyHash P (Str.ofString "states"), .str (Str.ofString "states") (kt 13), states⟩]

structure Cx (w : World) (lo : List Str) (mean : ExcName → Option Value) (mg mb : Str → Option Value) (dp un : Nat) (cs : Scope) (outer : List Env) (A₀ : Around) (base h₀ : Heap) (L : Addr) (m : Str → Option Value) (h : Heap) (k : Nat) : Prop where
  B : Below A₀ base outer h₀
  F : Fr h₀ L h m
  X : (hd.heap_1_1 w.params).In h₀
  T : Top hd.view_1_2 lo mean mg mb h₀
  hk : cs.kind = .function
  hdp : dp + k < recursionLimit
  hun : un + 8 * k < cLine
theorem News.tl1 {h₀ : Heap} {L : Addr} {h : Heap} {p : Addr × Obj} {l : List (Addr × Obj)} (N : News h₀ L h (p :: l)) : News h₀ L h l := fun q hq => N q (List.mem_cons_of_mem _ hq)
theorem News.sub {h₀ : Heap} {L : Addr} {h : Heap} {l l' : List (Addr × Obj)} (N : News h₀ L h l) (hs : ∀ p ∈ l', p ∈ l) : News h₀ L h l' := fun q hq => N q (hs q hq)
@[reducible] def askEs (P : Params) (kt : Nat → Nat) (oct : Value) (a s : Bool) : List DictEntry :=
  [⟨PyData.keyHash P (Str.ofString "octet"), .str (Str.ofString "octet") (kt 0), oct⟩,
   ⟨PyData.keyHash P (Str.ofString "is_asking"), .str (Str.ofString "is_asking") (kt 1), .bool a⟩,
   ⟨PyData.keyHash P (Str.ofString "is_served"), .str (Str.ofString "is_served") (kt 2), .bool s⟩]
@[reducible] def chainL (P : Params) (cx x0 d0 x1 d1 x2 d2 x3 d3 : Nat) (k0 k1 k2 k3 : Nat → Nat) (o0 o1 o2 o3 : Value) (a0 s0 a1 s1 a2 s2 a3 s3 : Bool) : List (Addr × Obj) :=
  [(cx, listOf [Value.ref x0, Value.ref x1, Value.ref x2, Value.ref x3].toArray 4), (x0, instObj 212 d0), (d0, dictOf (askEs P k0 o0 a0 s0) 3), (x1, instObj 212 d1), (d1, dictOf (askEs P k1 o1 a1 s1) 3), (x2, instObj 212 d2), (d2, dictOf (askEs P k2 o2 a2 s2) 3), (x3, instObj 212 d3), (d3, dictOf (askEs P k3 o3 a3 s3) 3)]
@[reducible] def chainA (cx x0 d0 x1 d1 x2 d2 x3 d3 : Nat) : List Nat := [cx, x0, d0, x1, d1, x2, d2, x3, d3]
def want (a0 s0 a1 s1 a2 s2 a3 s3 : Bool) : Option Int :=
  if s0 then none else if a0 then some 0 else if s1 then none else if a1 then some 1 else if s2 then none else if a2 then some 2 else if s3 then none else if a3 then some 3 else none
def IsOpt (v : Value) : Option Int → Prop
  | none => v = .none
  | some i => ∃ t, v = .int i t
@[reducible] def cpuL (P : Params) (cx dx mx : Nat) (kt : Nat → Nat) (r ss ix iy sp pc i ref iff1 iff2 mode halt held states : Value) (mv : List Value) (nn : Nat) : List (Addr × Obj) :=
  [(cx, instObj 31 dx), (dx, dictOf (cpuEs P kt r ss ix iy sp pc i ref iff1 iff2 mode halt held states) 14), (mx, listOf mv.toArray nn)]
@[reducible] def feedL (fx cx : Nat) (t : Int) (tt : Nat) (cv : List Value) (cn : Nat) : List (Addr × Obj) :=
  [(fx, listOf [Value.ref cx, Value.int t tt].toArray 0), (cx, listOf cv.toArray cn)]
@[reducible] def tup2 (u v : Value) : Obj := { cls := .type "tuple", data := .seq [u, v].toArray }
@[reducible] def int2L (c : Nat) (x y : Int) (u v n : Nat) : Addr × Obj := (c, listOf [Value.int x u, Value.int y v].toArray n)
@[reducible] def cntL (qx c0 c1 c2 c3 qn : Nat) (x0 y0 x1 y1 x2 y2 x3 y3 : Int) (u0 v0 n0 u1 v1 n1 u2 v2 n2 u3 v3 n3 : Nat) : List (Addr × Obj) :=
  [(qx, listOf [Value.ref c0, Value.ref c1, Value.ref c2, Value.ref c3].toArray qn), int2L c0 x0 y0 u0 v0 n0, int2L c1 x1 y1 u1 v1 n1, int2L c2 x2 y2 u2 v2 n2, int2L c3 x3 y3 u3 v3 n3]
end
section
open PySem PySem.W PyProof.Rows
theorem off1 : True := by (w_top off; trivial)
section
variable {prog : Program} {w : World} {A₀ A : Around} {s : Shared} {base h₀ : Heap} {outer : List Env} {L : Addr} {m : Str → Option Value} {env : Env} {objs rest : List (Addr × Obj)} {K : Frag} {p : Program} {loose : List Str} {mean : ExcName → Option Value} {mg mb : Str → Option Value}
  {name qual : Str} {params : Arguments} {body : List Stmt} {scope : Scope} {dV kV doc pm cdv ct oc : Value} {an od : Option Addr} {osl : Array (Option Value)} {f : Addr} {args : Args} {binds bl : List (Str × Value)} {Q E : Value → Shared → Prop}
def Back (Q : Value → Shared → Prop) (rest : List (Addr × Obj)) (E : Value → Shared → Prop) (r : Result) (s' : Shared) : Prop :=
  match r with
  | .ok (.ret v) => (∀ p ∈ rest, s'.heap.get? p.1 = some p.2) → Q v s'
  | .ok _ => False
  | .error e => E e s'
theorem call_rest (B : Below A₀ base outer h₀) (F : Fr h₀ L s.heap m) (X₀ : K.In h₀) (N : News h₀ L s.heap (objs ++ rest)) (hoff : OwnOff rest (objs.map (·.1))) (T : Top p loose mean mg mb h₀) (hA : A.frames = some (env :: outer)) (hf : env.frame = some L) (hke : env.scope.kind = .function)
    (ho : K.lookup f = some ⟨oc, od, .func (fnOf name qual params body scope dV kV doc pm an cdv ct), osl⟩) (hcd : codeIn K cdv qual = true) (hroom : A.depth < recursionLimit)
    (hbind : BindsTo s (fnOf name qual params body scope dV kV doc pm an cdv ct) args binds) (hloc : ∀ y ∈ binds, scope.names.lookup y.1 = some .local) (hbl : binds.reverse = bl)
    (h : ∀ g L' h₁ tk, Fr g L' h₁ (fun y => bl.lookup y) → News g L' h₁ objs → Below A base (env :: outer) g → K.In g → Top p loose mean mg mb g →
      wpAny (model prog w) (A.deeper (envOf qual scope L' f cdv)) (execs body (envOf qual scope L' f cdv))
        (fun fl s' => LeaveK h₀ L m g (Back Q rest E) (match fl with | .ret v => v | _ => .none) s')
        (fun e s' => wpAny (model prog w) (A.deeper (envOf qual scope L' f cdv)) (leaving (envOf qual scope L' f cdv) e) (fun _ s'' => E e s'') (fun e' s'' => E e' s'') s')
        { s with heap := h₁, toks := tk })
    (hco : scope.isCoroutine = false) (hgen : scope.isGenerator = false) (hk : scope.kind = .function)
    (hcell : ∀ x ∈ scope.names, x.2 ≠ .cell) : wpAny (model prog w) A (call (.ref f) args.pos args.kw) Q E s := by
  refine wpAny_call ?_
  have N₁ : News h₀ L s.heap objs := fun p hp => N p (List.mem_append_left _ hp)
  obtain ⟨FG, BG, st, lv⟩ := groundX (R := Back Q rest E) B F N₁ hA hf hke
  refine codeAny_call_def (fd := fnOf name qual params body scope dV kV doc pm an cdv ct) (body := body) (binds := binds) hroom ((X₀.keeps F.keep) _ _ ho) rfl (T.nolimit.keeps F.keep) (codeRec_of (X₀.keeps F.keep) hcd) rfl hbind hcell hloc (fun h₁ hns hk₁ => ?_) hco hgen hk
  subst hbl
  refine wpAny_mono (h _ s.heap.objs.size h₁ _ ⟨hns, fun b o e => hk₁ b o (of_hideAll _ e), Nat.le_of_eq (hideAll_size _ _)⟩
    (fun p hp => ⟨hk₁ _ _ (N₁ p hp).1, Nat.ne_of_lt (Heap.lt_size (N₁ p hp).1), hideAll_none _ (List.mem_map_of_mem hp)⟩) BG (X₀.keeps st) (T.keeps st)) (fun fl s' hl => ?_) fun _ _ y => y
  obtain ⟨L', m', news', F', N', k⟩ := id hl
  refine lv _ _ hl fun p hp => F'.keep _ _ (hideAll_get _ (N p (List.mem_append_right _ hp)).1 fun q => ?_)
  exact hoff p hp _ q rfl
theorem call_rest2 (B : Below A₀ base outer h₀) (F : Fr h₀ L s.heap m) (X₀ : K.In h₀) (N : News h₀ L s.heap (objs ++ rest)) (hoff : OwnOff rest (objs.map (·.1))) (T : Top p loose mean mg mb h₀) (hA : A.frames = some (env :: outer)) (hf : env.frame = some L) (hke : env.scope.kind = .function)
    (ho : K.lookup f = some ⟨oc, od, .func (fnOf name qual params body scope dV kV doc pm an cdv ct), osl⟩) (hcd : codeIn K cdv qual = true) (hroom : A.depth < recursionLimit)
    (hbind : BindsTo s (fnOf name qual params body scope dV kV doc pm an cdv ct) args binds) (hloc : ∀ y ∈ binds, scope.names.lookup y.1 = some .local) (hbl : binds.reverse = bl)
    (h : ∀ g L' h₁ tk, Fr g L' h₁ (fun y => bl.lookup y) → News g L' h₁ objs → Below A base (env :: outer) g → K.In g → Top p loose mean mg mb g → (∀ p ∈ rest, g.get? p.1 = some p.2) →
      wpAny (model prog w) (A.deeper (envOf qual scope L' f cdv)) (execs body (envOf qual scope L' f cdv))
        (fun fl s' => LeaveK h₀ L m g (Back Q rest E) (match fl with | .ret v => v | _ => .none) s')
        (fun e s' => wpAny (model prog w) (A.deeper (envOf qual scope L' f cdv)) (leaving (envOf qual scope L' f cdv) e) (fun _ s'' => E e s'') (fun e' s'' => E e' s'') s')
        { s with heap := h₁, toks := tk })
    (hco : scope.isCoroutine = false) (hgen : scope.isGenerator = false) (hk : scope.kind = .function)
    (hcell : ∀ x ∈ scope.names, x.2 ≠ .cell) : wpAny (model prog w) A (call (.ref f) args.pos args.kw) Q E s := by
  refine wpAny_call ?_
  have N₁ : News h₀ L s.heap objs := fun p hp => N p (List.mem_append_left _ hp)
  obtain ⟨FG, BG, st, lv⟩ := groundX (R := Back Q rest E) B F N₁ hA hf hke
  refine codeAny_call_def (fd := fnOf name qual params body scope dV kV doc pm an cdv ct) (body := body) (binds := binds) hroom ((X₀.keeps F.keep) _ _ ho) rfl (T.nolimit.keeps F.keep) (codeRec_of (X₀.keeps F.keep) hcd) rfl hbind hcell hloc (fun h₁ hns hk₁ => ?_) hco hgen hk
  subst hbl
  refine wpAny_mono (h _ s.heap.objs.size h₁ _ ⟨hns, fun b o e => hk₁ b o (of_hideAll _ e), Nat.le_of_eq (hideAll_size _ _)⟩
    (fun p hp => ⟨hk₁ _ _ (N₁ p hp).1, Nat.ne_of_lt (Heap.lt_size (N₁ p hp).1), hideAll_none _ (List.mem_map_of_mem hp)⟩) BG (X₀.keeps st) (T.keeps st) (fun p hp => hideAll_get _ (N p (List.mem_append_right _ hp)).1 fun q => hoff p hp _ q rfl)) (fun fl s' hl => ?_) fun _ _ y => y
  obtain ⟨L', m', news', F', N', k⟩ := id hl
  refine lv _ _ hl fun p hp => F'.keep _ _ (hideAll_get _ (N p (List.mem_append_right _ hp)).1 fun q => ?_)
  exact hoff p hp _ q rfl
theorem call_restC (B : Below A₀ base outer h₀) (F : Fr h₀ L s.heap m) (X₀ : K.In h₀) (N : News h₀ L s.heap (objs ++ rest)) (hoff : OwnOff rest (objs.map (·.1))) (T : Top p loose mean mg mb h₀) (hA : A.frames = some (env :: outer)) (hf : env.frame = some L) (hke : env.scope.kind = .function)
    (ho : K.lookup f = some ⟨oc, od, .func (fnOf name qual params body scope dV kV doc pm an cdv ct), osl⟩) (hcd : codeIn K cdv qual = true) (hroom : A.depth < recursionLimit)
    (hbind : BindsTo s (fnOf name qual params body scope dV kV doc pm an cdv ct) args binds) (hkind : (binds.all fun y => scope.names.lookup y.1 == some .local || scope.names.lookup y.1 == some .cell) = true)
    (hnd : ((cellsFrom 0 scope.names []).map (·.1)).Nodup)
    (h : ∀ g L' h₁ tk cells, Fr g L' h₁ (bindL (envOfC qual scope L' f cdv).kindOf binds fun _ => none) → News g L' h₁ (cells ++ objs) →
      CellsAre (bindC (envOfC qual scope L' f cdv).kindOf binds fun _ => none) (cellsFrom (L' + 1) scope.names []) cells → Below A base (env :: outer) g → K.In g → Top p loose mean mg mb g → (∀ p ∈ rest, g.get? p.1 = some p.2) → (∀ p ∈ objs, p.1 < L') →
      wpAny (model prog w) (A.deeper (envOfC qual scope L' f cdv)) (execs body (envOfC qual scope L' f cdv))
        (fun fl s' => LeaveK h₀ L m g (Back Q rest E) (match fl with | .ret v => v | _ => .none) s')
        (fun e s' => wpAny (model prog w) (A.deeper (envOfC qual scope L' f cdv)) (leaving (envOfC qual scope L' f cdv) e) (fun _ s'' => E e s'') (fun e' s'' => E e' s'') s')
        { s with heap := h₁, toks := tk })
    (hco : scope.isCoroutine = false) (hgen : scope.isGenerator = false) (hk : scope.kind = .function) : wpAny (model prog w) A (call (.ref f) args.pos args.kw) Q E s := by
  refine wpAny_call ?_
  have N₁ : News h₀ L s.heap objs := fun p hp => N p (List.mem_append_left _ hp)
  obtain ⟨FG, BG, st, lv⟩ := groundX (R := Back Q rest E) B F N₁ hA hf hke
  have hrest : ∀ p ∈ rest, (hideAll s.heap (objs.map (·.1))).get? p.1 = some p.2 := fun p hp => hideAll_get _ (N p (List.mem_append_right _ hp)).1 fun q => hoff p hp _ q rfl
  refine codeAny_call_function hroom ((X₀.keeps F.keep) _ _ ho) rfl hco hgen rfl (codeRec_of (X₀.keeps F.keep) hcd) (hbind _ _ _ _ ?_)
  refine wpAny_newFunctionEnv_cells hk (kindsX hkind _) fun env' he s' x => ?_
  subst he
  refine ⟨(T.nolimit.keeps F.keep).keeps x.toInCall.keep, codeAny_func ?_⟩
  obtain ⟨h₁, tk, rfl, _⟩ := x.done
  have hk₁ := x.toInCall.keep
  obtain ⟨cells, NC, Y⟩ := Cl.news (h₀ := s.heap) (Nat.le_refl _) fun n c hm => ⟨x.cell n c (lookup_of_mem_nodup (cellsFrom_names scope.names 0 (s.heap.objs.size + 1) [] [] rfl ▸ hnd) hm), x.above n c hm⟩
  refine wpAny_mono (h _ s.heap.objs.size h₁ tk cells ⟨x.toInCall.ns, fun b o e => hk₁ b o (of_hideAll _ e), Nat.le_of_eq (hideAll_size _ _)⟩ (fun p hp => ?_) Y BG (X₀.keeps st) (T.keeps st) hrest (fun p hp => Heap.lt_size (N₁ p hp).1)) (fun fl s' hl => ?_) fun _ _ y => y
  · rcases List.mem_append.mp hp with hp | hp
    · refine ⟨(NC p hp).1, (NC p hp).2.1, ?_⟩
      cases q : (hideAll s.heap (objs.map (·.1))).get? p.1 with
      | none => rfl
      | some o => have := of_hideAll _ q; rw [(NC p hp).2.2] at this; cases this
    · exact ⟨hk₁ _ _ (N₁ p hp).1, Nat.ne_of_lt (Heap.lt_size (N₁ p hp).1), hideAll_none _ (List.mem_map_of_mem hp)⟩
  · obtain ⟨L', m', news', F', N', k⟩ := id hl
    exact lv _ _ hl fun p hp => F'.keep _ _ (hrest p hp)
theorem news_join {h h' : Heap} {objs' : List (Addr × Obj)} (N : News h₀ L h (objs ++ rest)) (N' : News h₀ L h' objs') (hr : ∀ p ∈ rest, h'.get? p.1 = some p.2) : News h₀ L h' (objs' ++ rest) := fun p hp => by
  rcases List.mem_append.mp hp with q | q
  · exact N' p q
  · exact ⟨hr p q, (N p (List.mem_append_right _ q)).2⟩
end
theorem ownOff_nil {adr : List Addr} : OwnOff [] adr := fun _ h => nomatch h
theorem ownOff_cons {p : Addr × Obj} {r : List (Addr × Obj)} {adr : List Addr} (h : ∀ b ∈ adr, p.1 ≠ b) (t : OwnOff r adr) : OwnOff (p :: r) adr := fun q hq b hb => by
  rcases List.mem_cons.mp hq with e | e
  · rw [e]; exact h b hb
  · exact t q e b hb
theorem ownOff_append {l r : List (Addr × Obj)} {adr : List Addr} (h : OwnOff l adr) (t : OwnOff r adr) : OwnOff (l ++ r) adr := fun q hq b hb => (List.mem_append.mp hq).elim (fun e => h q e b hb) fun e => t q e b hb
theorem ownOff_sub {r : List (Addr × Obj)} {adr adr' : List Addr} (h : OwnOff r adr) (t : ∀ b ∈ adr', b ∈ adr) : OwnOff r adr' := fun q hq b hb => h q hq b (t b hb)
inductive Pick (p : Addr × Obj) : List (Addr × Obj) → List (Addr × Obj) → Prop
  | head {r : List (Addr × Obj)} : Pick p (p :: r) r
  | tail {q : Addr × Obj} {r r' : List (Addr × Obj)} : Pick p r r' → Pick p (q :: r) (q :: r')
inductive Sel : List (Addr × Obj) → List (Addr × Obj) → Prop
  | done {l : List (Addr × Obj)} : Sel l l
  | nil {l : List (Addr × Obj)} : Sel [] l
  | pick {p : Addr × Obj} {t l mid : List (Addr × Obj)} : Pick p l mid → Sel t mid → Sel (p :: t) l
theorem Pick.mem {p : Addr × Obj} {l mid : List (Addr × Obj)} (h : Pick p l mid) : p ∈ l ∧ ∀ q ∈ mid, q ∈ l := by
  induction h with
  | head => exact ⟨.head _, fun q hq => .tail _ hq⟩
  | tail _ ih => exact ⟨.tail _ ih.1, fun q hq => by rcases List.mem_cons.mp hq with e | e; exact e ▸ .head _; exact .tail _ (ih.2 q e)⟩
theorem Sel.mem {t l : List (Addr × Obj)} (h : Sel t l) : ∀ q ∈ t, q ∈ l := by
  induction h with
  | done => exact fun q hq => hq
  | nil => exact fun q hq => nomatch hq
  | pick hp _ ih => exact fun q hq => by rcases List.mem_cons.mp hq with e | e; exact e ▸ hp.mem.1; exact hp.mem.2 q (ih q e)
theorem News.sel {h₀ : Heap} {L : Addr} {h : Heap} {l t : List (Addr × Obj)} (N : News h₀ L h l) (S : Sel t l) : News h₀ L h t := fun q hq => N q (S.mem q hq)
structure Kept (P : Prop) : Prop where
  out : P
end
local macro_rules | `(tactic| k_ne) => `(tactic| (refine neN ?_; (try dsimp only); first | (with_reducible assumption) | (refine Ne.symm ?_; with_reducible assumption) | (refine Nat.ne_of_lt ?_; (repeat' (first | with_reducible assumption | with_reducible refine Nat.lt_trans (by with_reducible assumption) ?_)); done) | (refine Nat.ne_of_gt ?_; (repeat' (first | with_reducible assumption | with_reducible refine Nat.lt_trans (by with_reducible assumption) ?_)); done) | exact Mine.an1 (by with_reducible assumption) | exact Mine.an2 (by with_reducible assumption) | exact Mine.an3 (by with_reducible assumption) | exact Mine.an4 (by with_reducible assumption) | exact Mine.an5 (by with_reducible assumption) | exact Mine.an6 (by with_reducible assumption) | exact Mine.an7 (by with_reducible assumption) | exact Mine.an8 (by with_reducible assumption) | exact Mine.an9 (by with_reducible assumption) | exact Mine.an10 (by with_reducible assumption) | exact Mine.an11 (by with_reducible assumption) | exact Mine.an12 (by with_reducible assumption) | exact Mine.al2 (by with_reducible assumption) | exact Mine.al3 (by with_reducible assumption) | exact Mine.al4 (by with_reducible assumption) | exact Mine.al5 (by with_reducible assumption) | exact Mine.al6 (by with_reducible assumption) | exact Mine.al7 (by with_reducible assumption) | exact Mine.al8 (by with_reducible assumption) | exact Mine.al9 (by with_reducible assumption) | exact Mine.al10 (by with_reducible assumption) | exact Mine.al11 (by with_reducible assumption) | exact Mine.al12 (by with_reducible assumption) | (refine Ne.symm ?_; first | exact Mine.an1 (by with_reducible assumption) | exact Mine.an2 (by with_reducible assumption) | exact Mine.an3 (by with_reducible assumption) | exact Mine.an4 (by with_reducible assumption) | exact Mine.an5 (by with_reducible assumption) | exact Mine.an6 (by with_reducible assumption) | exact Mine.an7 (by with_reducible assumption) | exact Mine.an8 (by with_reducible assumption) | exact Mine.an9 (by with_reducible assumption) | exact Mine.an10 (by with_reducible assumption) | exact Mine.an11 (by with_reducible assumption) | exact Mine.an12 (by with_reducible assumption) | exact Mine.al2 (by with_reducible assumption) | exact Mine.al3 (by with_reducible assumption) | exact Mine.al4 (by with_reducible assumption) | exact Mine.al5 (by with_reducible assumption) | exact Mine.al6 (by with_reducible assumption) | exact Mine.al7 (by with_reducible assumption) | exact Mine.al8 (by with_reducible assumption) | exact Mine.al9 (by with_reducible assumption) | exact Mine.al10 (by with_reducible assumption) | exact Mine.al11 (by with_reducible assumption) | exact Mine.al12 (by with_reducible assumption))))
local macro_rules | `(tactic| k_room) => `(tactic| first | (rename _ < recursionLimit => h9; first | exact Mine.room_ (k := 0) h9 rfl | exact Mine.room_ (k := 1) h9 rfl | exact Mine.room_ (k := 2) h9 rfl | exact Mine.room_ (k := 3) h9 rfl | exact Mine.room_ (k := 4) h9 rfl | exact Mine.room_ (k := 5) h9 rfl | exact Mine.room_ (k := 6) h9 rfl | exact Mine.room_ (k := 7) h9 rfl | exact Mine.room_ (k := 8) h9 rfl | exact Mine.room_ (k := 9) h9 rfl | exact Mine.room_ (k := 10) h9 rfl | exact Mine.room_ (k := 11) h9 rfl | exact Mine.room_ (k := 12) h9 rfl | exact Mine.room_ (k := 13) h9 rfl | exact Mine.room_ (k := 14) h9 rfl | exact Mine.room_ (k := 15) h9 rfl | exact Mine.room_ (k := 16) h9 rfl | exact Mine.room_ (k := 17) h9 rfl | exact Mine.room_ (k := 18) h9 rfl | exact Mine.room_ (k := 19) h9 rfl | exact Mine.room_ (k := 20) h9 rfl | exact Mine.room_ (k := 21) h9 rfl | exact Mine.room_ (k := 22) h9 rfl | exact Mine.room_ (k := 23) h9 rfl | exact Mine.room_ (k := 24) h9 rfl | exact Mine.room_ (k := 25) h9 rfl | exact Mine.room_ (k := 26) h9 rfl | exact Mine.room_ (k := 27) h9 rfl | exact Mine.room_ (k := 28) h9 rfl | exact Mine.room_ (k := 29) h9 rfl | exact Mine.room_ (k := 30) h9 rfl | exact Mine.room_ (k := 31) h9 rfl | exact Mine.room_ (k := 32) h9 rfl | exact Mine.room_ (k := 33) h9 rfl | exact Mine.room_ (k := 34) h9 rfl | exact Mine.room_ (k := 35) h9 rfl | exact Mine.room_ (k := 36) h9 rfl | exact Mine.room_ (k := 37) h9 rfl | exact Mine.room_ (k := 38) h9 rfl | exact Mine.room_ (k := 39) h9 rfl | exact Mine.room_ (k := 40) h9 rfl) | ktr_room)
local macro_rules | `(tactic| k_units) => `(tactic| ktr_units)
local macro_rules | `(tactic| tb_start) => `(tactic| ((try dsimp only [feedL, cntL, int2L, chainL, cpuL, List.cons_append, List.nil_append]); repeat' (first | exact Sel.done | exact Sel.nil | exact Pick.head | refine' Pick.tail ?_ | refine' Sel.pick ?_ ?_)))
local macro_rules | `(tactic| tb_rel) => `(tactic| ((try dsimp only [chainL, cpuL, chainA, List.cons_append, List.nil_append]); repeat' (first | (with_reducible exact ownOff_nil) | (with_reducible refine ownOff_cons ?_ ?_) | (with_reducible exact List.forall_mem_nil _) | (with_reducible refine List.forall_mem_cons.mpr ⟨?_, ?_⟩) | (with_reducible assumption) | k_ne)))
section
open PySem PySem.W PyProof.Rows
theorem off2 : True := by (w_top off; trivial)
theorem leave_mem {mn : List Int} {sp pc : Int} (hml : mn.length = 256) (hsp : 2 ≤ sp) (hsp2 : sp ≤ 256) :
    ((mn.set ((Builtin.bitAnd (sp - 2) 65535).fmod ↑mn.length).toNat (Builtin.bitAnd (Builtin.bitAnd pc 255) 255)).set
    ((Builtin.bitAnd (Builtin.bitAnd (sp - 2) 65535 + 1) 65535).fmod
        ↑(mn.set ((Builtin.bitAnd (sp - 2) 65535).fmod ↑mn.length).toNat
              (Builtin.bitAnd (Builtin.bitAnd pc 255) 255)).length).toNat
    (Builtin.bitAnd (Builtin.bitAnd (pc.fdiv (2 ^ Int.toNat 8)) 255) 255)) = (mn.set (sp - 2).toNat (pc % 256)).set (sp - 1).toNat (pc / 256 % 256) := by
  have e0 : (2 : Int) ^ Int.toNat 8 = 256 := by decide
  have e1 : Builtin.bitAnd (sp - 2) 65535 = sp - 2 := by rw [bitAnd_m16]; omega
  have e2 : Builtin.bitAnd (sp - 2 + 1) 65535 = sp - 1 := by rw [bitAnd_m16]; omega
  have a1 : (sp - 2).fmod ((256 : Nat) : Int) = sp - 2 := by rw [Int.fmod_eq_emod_of_nonneg _ (by omega)]; omega
  have a2 : (sp - 1).fmod ((256 : Nat) : Int) = sp - 1 := by rw [Int.fmod_eq_emod_of_nonneg _ (by omega)]; omega
  have a3 : pc % 256 % 256 = pc % 256 := by omega
  have a4 : pc / 256 % 256 % 256 = pc / 256 % 256 := by omega
  rw [List.length_set, hml, e1, e2, e0, Int.fdiv_eq_ediv_of_nonneg _ (by omega), bitAnd_m8, bitAnd_m8, bitAnd_m8, bitAnd_m8, a1, a2, a3, a4]
theorem leave_spec {w : World} {lo : List Str} {mean : ExcName → Option Value} {mg mb : Str → Option Value} {dp un : Nat} {gd : Option (List Code)} {cn : Str} {cs : Scope} {L a : Addr} {ccd : Value} {cl : List (Str × Addr)} {outer : List Env}
    {A₀ : Around} {base h₀ : Heap} {m : Str → Option Value} {rest : List (Addr × Obj)} {s : Shared} {Q E : Value → Shared → Prop}
    {cx dx mx : Nat} {kt : Nat → Nat} {r ss ix iy i iff1 iff2 mode halt held : Value} {sp pc ref states st : Int} {tsp tpc tref tst tsn : Nat} {mv : List Value} {mn : List Int} {nn : Nat}
    (C : Cx w lo mean mg mb dp un cs outer A₀ base h₀ L m s.heap 10)
    (N : News h₀ L s.heap ((cx, instObj 31 dx) :: (dx, dictOf (cpuEs w.params kt r ss ix iy (.int sp tsp) (.int pc tpc) i (.int ref tref) iff1 iff2 mode halt held (.int states tst)) 14) :: (mx, listOf mv.toArray nn) :: rest))
    (hoff : OwnOff rest [cx, dx, mx]) (hne1 : cx ≠ dx) (hne2 : cx ≠ mx) (hne3 : dx ≠ mx) (hmv : IntsAre mv mn) (hml : mn.length = 256) (hsp : 2 ≤ sp) (hsp2 : sp ≤ 256)
    (hret : ∀ (sp' st' ref' : Int) (tsp' tref' tst' : Nat) (mv' : List Value) (mn' : List Int) (h' : Heap) (tk' : Nat), sp' = sp - 2 → st' = states + st → mn' = (mn.set (sp - 2).toNat (pc % 256)).set (sp - 1).toNat (pc / 256 % 256) → IntsAre mv' mn' → Fr h₀ L h' m →
      News h₀ L h' ((cx, instObj 31 dx) :: (dx, dictOf (cpuEs w.params kt r ss ix iy (.int sp' tsp') (.int pc tpc) i (.int ref' tref') iff1 iff2 mode (.bool false) (.bool false) (.int st' tst')) 14) :: (mx, listOf mv'.toArray nn) :: rest) → Q .none { s with heap := h', toks := tk' }) :
    wpAny (model prg w) (ktrTop dp un gd cn cs L a ccd cl outer) (call (.ref 174) [.ref cx, .ref mx, .int st tsn]) Q E s := by
  obtain ⟨B, F, X, T, hk, hdp, hun⟩ := C
  refine wpAny_call ?_
  k_dflt ktr_enter
  repeat' (first | (k_unfold; (try dsimp only)) | (k_end; wrow_close) | (walk1; all_goals (try dsimp only); all_goals (try (with_reducible refine Mine.wp_tok ?_; intro _))) | (dsimp only; walk1) | (leave1; walk_say "STEP leave1"; try dsimp only))
  refine' hret _ _ _ _ _ _ _ _ _ _ ?e1 rfl ?e2 ?e3 (by assumption) ?e4
  case e4 => assumption
  case e3 => assumption
  case e2 => exact leave_mem hml hsp hsp2
  case e1 => rw [bitAnd_m16]; omega
end
section
open PySem PySem.W PyProof.Rows
theorem off3 : True := by (w_top off; trivial)
local macro_rules | `(tactic| walk_at "call ref") => `(tactic| ((with_reducible show wpAny _ _ (call (Value.ref 174) _) _ _ _); refine Mine.stop_here ?_))
section
variable {w : World} {lo : List Str} {mean : ExcName → Option Value} {mg mb : Str → Option Value} {dp un : Nat} {gd : Option (List Code)} {cn : Str} {cs : Scope} {L a : Addr} {ccd : Value} {cl : List (Str × Addr)} {outer : List Env}
    {A₀ : Around} {base h₀ : Heap} {m : Str → Option Value} {rest : List (Addr × Obj)} {s : Shared} {Q E : Value → Shared → Prop}
theorem nmi_spec
    {cx dx mx : Nat} {kt : Nat → Nat} {r ss ix iy i iff1 iff2 mode halt held : Value} {sp pc ref states : Int} {tsp tpc tref tst : Nat} {mv : List Value} {mn : List Int} {nn : Nat}
    (C : Cx w lo mean mg mb dp un cs outer A₀ base h₀ L m s.heap 12)
    (N : News h₀ L s.heap ((cx, instObj 31 dx) :: (dx, dictOf (cpuEs w.params kt r ss ix iy (.int sp tsp) (.int pc tpc) i (.int ref tref) iff1 iff2 mode halt held (.int states tst)) 14) :: (mx, listOf mv.toArray nn) :: rest))
    (hoff : OwnOff rest [cx, dx, mx]) (hne1 : cx ≠ dx) (hne2 : cx ≠ mx) (hne3 : dx ≠ mx) (hmv : IntsAre mv mn) (hml : mn.length = 256) (hsp : 2 ≤ sp) (hsp2 : sp ≤ 256)
    (hret : ∀ (st' ref' : Int) (t1 tsp' tpc' tref' tst' : Nat) (mv' : List Value) (mn' : List Int) (h' : Heap) (tk' : Nat), mn' = (mn.set (sp - 2).toNat (pc % 256)).set (sp - 1).toNat (pc / 256 % 256) → IntsAre mv' mn' → Fr h₀ L h' m →
      News h₀ L h' ((cx, instObj 31 dx) :: (dx, dictOf (cpuEs w.params kt r ss ix iy (.int (sp - 2) tsp') (.int 102 tpc') i (.int ref' tref') (.int 0 t1) iff2 mode (.bool false) (.bool false) (.int st' tst')) 14) :: (mx, listOf mv'.toArray nn) :: rest) → Q .none { s with heap := h', toks := tk' }) :
    wpAny (model prg w) (ktrTop dp un gd cn cs L a ccd cl outer) (call (.ref 195) [.ref cx, .ref mx]) Q E s := by
  obtain ⟨B, F, X, T, hk, hdp, hun⟩ := C
  refine wpAny_call ?_
  k_dflt ktr_enter
  repeat' (first | (k_unfold; (try dsimp only)) | (refine Mine.stop_go ?_; first | ((with_reducible show wpAny _ _ (call (Value.ref 174) _) _ _ _); k_dflt (refine' leave_spec ?C ?N ?ho ?h1 ?h2 ?h3 ?hi ?hl ?hs1 ?hs2 ?_; (case C => exact ⟨by k_asm, by k_asm, by k_asm, by k_asm, by exact rfl, by k_room, by ktr_units⟩); (case N => first | k_asm | exact News.tl1 (by k_asm) | exact News.tl1 (News.tl1 (by k_asm))); (case ho => k_asm); (case h1 => assumption); (case h2 => assumption); (case h3 => assumption); (case hi => assumption); (case hl => assumption); (case hs1 => assumption); (case hs2 => assumption); k_whole); intro sp' st' ref' tsp' tref' tst' mv' mn' h' tk' e1' e2' e3' hi' F' N'; subst e1'; subst e2'; (try dsimp only); k_sweep)) | (k_end; wrow_close) | (walk1; all_goals (try dsimp only); all_goals (try (with_reducible refine Mine.wp_tok ?_; intro _))) | (dsimp only; walk1) | (leave1; walk_say "STEP leave1"; try dsimp only))

  refine' hret _ _ _ _ _ _ _ _ _ _ _ ?e2 ?e3 (by assumption) ?e4
  case e4 => assumption
  case e3 => assumption
  case e2 => assumption
theorem request_spec
    {cx dx mx : Nat} {kt : Nat → Nat} {r ss ix iy i iff2 halt : Value} {sp pc ref states iff1 : Int} {tsp tpc tref tst t1 tm to : Nat} {mv : List Value} {mn : List Int} {nn : Nat} {oct : Int}
    (C : Cx w lo mean mg mb dp un cs outer A₀ base h₀ L m s.heap 14)
    (N : News h₀ L s.heap ((cx, instObj 31 dx) :: (dx, dictOf (cpuEs w.params kt r ss ix iy (.int sp tsp) (.int pc tpc) i (.int ref tref) (.int iff1 t1) iff2 (.int 1 tm) halt (.bool false) (.int states tst)) 14) :: (mx, listOf mv.toArray nn) :: rest))
    (hoff : OwnOff rest [cx, dx, mx]) (hne1 : cx ≠ dx) (hne2 : cx ≠ mx) (hne3 : dx ≠ mx) (hmv : IntsAre mv mn) (hml : mn.length = 256) (hsp : 2 ≤ sp) (hsp2 : sp ≤ 256)
    (hret0 : ∀ (h' : Heap) (tk' : Nat), iff1 ≠ 1 → Fr h₀ L h' m →
      News h₀ L h' ((cx, instObj 31 dx) :: (dx, dictOf (cpuEs w.params kt r ss ix iy (.int sp tsp) (.int pc tpc) i (.int ref tref) (.int iff1 t1) iff2 (.int 1 tm) halt (.bool false) (.int states tst)) 14) :: (mx, listOf mv.toArray nn) :: rest) → Q (.bool false) { s with heap := h', toks := tk' })
    (hret : ∀ (st' ref' : Int) (t1 t2 tsp' tpc' tref' tst' : Nat) (mv' : List Value) (mn' : List Int) (h' : Heap) (tk' : Nat), iff1 = 1 → mn' = (mn.set (sp - 2).toNat (pc % 256)).set (sp - 1).toNat (pc / 256 % 256) → IntsAre mv' mn' → Fr h₀ L h' m →
      News h₀ L h' ((cx, instObj 31 dx) :: (dx, dictOf (cpuEs w.params kt r ss ix iy (.int (sp - 2) tsp') (.int 56 tpc') i (.int ref' tref') (.int 0 t1) (.int 0 t2) (.int 1 tm) (.bool false) (.bool false) (.int st' tst')) 14) :: (mx, listOf mv'.toArray nn) :: rest) → Q (.bool true) { s with heap := h', toks := tk' }) :
    wpAny (model prg w) (ktrTop dp un gd cn cs L a ccd cl outer) (call (.ref 188) [.ref cx, .ref mx, .int oct to]) Q E s := by
  obtain ⟨B, F, X, T, hk, hdp, hun⟩ := C
  refine wpAny_call ?_
  by_cases hi1 : iff1 = 1
  · subst hi1
    k_dflt ktr_enter
    repeat' (first | (k_unfold; (try dsimp only)) | (refine Mine.stop_go ?_; first | ((with_reducible show wpAny _ _ (call (Value.ref 174) _) _ _ _); k_dflt (refine' leave_spec ?C ?N ?ho ?h1 ?h2 ?h3 ?hi ?hl ?hs1 ?hs2 ?_; (case C => exact ⟨by k_asm, by k_asm, by k_asm, by k_asm, by exact rfl, by k_room, by ktr_units⟩); (case N => first | k_asm | exact News.tl1 (by k_asm) | exact News.tl1 (News.tl1 (by k_asm))); (case ho => k_asm); (case h1 => assumption); (case h2 => assumption); (case h3 => assumption); (case hi => assumption); (case hl => assumption); (case hs1 => assumption); (case hs2 => assumption); k_whole); intro sp' st' ref' tsp' tref' tst' mv' mn' h' tk' e1' e2' e3' hi' F' N'; subst e1'; subst e2'; (try dsimp only); k_sweep)) | (k_end; wrow_close) | (walk1; all_goals (try dsimp only); all_goals (try (with_reducible refine Mine.wp_tok ?_; intro _))) | (dsimp only; walk1) | (leave1; walk_say "STEP leave1"; try dsimp only))
    refine' hret _ _ _ _ _ _ _ _ _ _ _ _ rfl ?e2 ?e3 (by assumption) ?e4
    case e4 => assumption
    case e3 => assumption
    case e2 => assumption
  · k_dflt ktr_enter
    repeat' (first | (k_unfold; (try dsimp only)) | (refine Mine.stop_go ?_; first | ((with_reducible show wpAny _ _ (call (Value.ref 174) _) _ _ _); k_dflt (refine' leave_spec ?C ?N ?ho ?h1 ?h2 ?h3 ?hi ?hl ?hs1 ?hs2 ?_; (case C => exact ⟨by k_asm, by k_asm, by k_asm, by k_asm, by exact rfl, by k_room, by ktr_units⟩); (case N => first | k_asm | exact News.tl1 (by k_asm) | exact News.tl1 (News.tl1 (by k_asm))); (case ho => k_asm); (case h1 => assumption); (case h2 => assumption); (case h3 => assumption); (case hi => assumption); (case hl => assumption); (case hs1 => assumption); (case hs2 => assumption); k_whole); intro sp' st' ref' tsp' tref' tst' mv' mn' h' tk' e1' e2' e3' hi' F' N'; subst e1'; subst e2'; (try dsimp only); k_sweep)) | (k_end; wrow_close) | (walk1; all_goals (try dsimp only); all_goals (try (with_reducible refine Mine.wp_tok ?_; intro _))) | (dsimp only; walk1) | (leave1; walk_say "STEP leave1"; try dsimp only))
    all_goals first | (exfalso; exact absurd (by assumption) hi1) | (refine' hret0 _ _ hi1 (by assumption) ?e4; assumption)
end
end
section
open PySem PySem.W PyProof.Rows
theorem off4 : True := by (w_top off; trivial)
section
variable {w : World} {lo : List Str} {mean : ExcName → Option Value} {mg mb : Str → Option Value} {dp un : Nat} {gd : Option (List Code)} {cn : Str} {cs : Scope} {L a : Addr} {ccd : Value} {cl : List (Str × Addr)} {outer : List Env}
    {A₀ : Around} {base h₀ : Heap} {m : Str → Option Value} {rest : List (Addr × Obj)} {s : Shared} {Q E : Value → Shared → Prop}
theorem first_spec {cx x0 d0 x1 d1 x2 d2 x3 d3 : Nat} {k0 k1 k2 k3 : Nat → Nat} {o0 o1 o2 o3 : Value} {a0 s0 a1 s1 a2 s2 a3 s3 : Bool}
    (C : Cx w lo mean mg mb dp un cs outer A₀ base h₀ L m s.heap 10)
    (N : News h₀ L s.heap (chainL w.params cx x0 d0 x1 d1 x2 d2 x3 d3 k0 k1 k2 k3 o0 o1 o2 o3 a0 s0 a1 s1 a2 s2 a3 s3 ++ rest))
    (hoff : OwnOff rest (chainA cx x0 d0 x1 d1 x2 d2 x3 d3))
    (hret : ∀ (v : Value) (h' : Heap) (tk' : Nat), IsOpt v (want a0 s0 a1 s1 a2 s2 a3 s3) → Fr h₀ L h' m →
      News h₀ L h' (chainL w.params cx x0 d0 x1 d1 x2 d2 x3 d3 k0 k1 k2 k3 o0 o1 o2 o3 a0 s0 a1 s1 a2 s2 a3 s3 ++ rest) → Q v { s with heap := h', toks := tk' }) :
    wpAny (model prg w) (ktrTop dp un gd cn cs L a ccd cl outer) (call (.ref 223) [.ref cx]) Q E s := by
  obtain ⟨B, F, X, T, hk, hdp, hun⟩ := C
  have NK : Kept _ := ⟨N⟩
  k_dflt refine' call_rest (args := ⟨[.ref cx], []⟩) (bl := [(Str.ofString "chain", .ref cx)]) B F X N hoff T rfl rfl hk ?k6 ?k7 ?k8 ?k9 ?kB ?kL ?_ ?c2 ?c3 ?c4 ?c5
  (case k6 => k_is)
  (case k7 => k_is)
  (case k8 => k_room)
  (case k9 => exact BindsTo.of_eq rfl)
  (case c5 => decide)
  (case kB => exact locs rfl)
  (case kL => rfl)
  (case c2 => exact rfl)
  (case c3 => exact rfl)
  (case c4 => exact rfl)
  clear N F
  intro g' L' h' tk' F' N' B' X' T'
  dsimp only [chainL] at N'
  k_fold
  repeat' (first | (k_unfold; (try dsimp only)) | (k_end; wrow_close) | walk1 | (dsimp only; walk1) | (leave1; walk_say "STEP leave1"; try dsimp only))
  all_goals (subst_vars; refine' fun hr => hret _ _ _ ?_ (by assumption) (news_join NK.out (News.sub (by assumption) ?_) hr))
  all_goals first | exact rfl | exact ⟨_, rfl⟩ | (dsimp only [chainL]; k_allIn)
theorem wanted_spec {cx x0 d0 x1 d1 x2 d2 x3 d3 : Nat} {k0 k1 k2 k3 : Nat → Nat} {o0 o1 o2 o3 : Value} {a0 s0 a1 s1 a2 s2 a3 s3 : Bool}
    (C : Cx w lo mean mg mb dp un cs outer A₀ base h₀ L m s.heap 10)
    (N : News h₀ L s.heap (chainL w.params cx x0 d0 x1 d1 x2 d2 x3 d3 k0 k1 k2 k3 o0 o1 o2 o3 a0 s0 a1 s1 a2 s2 a3 s3 ++ rest))
    (hoff : OwnOff rest (chainA cx x0 d0 x1 d1 x2 d2 x3 d3))
    (hret : ∀ (v : Value) (h' : Heap) (tk' : Nat), IsOpt v (want a0 s0 a1 s1 a2 s2 a3 s3) → Fr h₀ L h' m →
      News h₀ L h' (chainL w.params cx x0 d0 x1 d1 x2 d2 x3 d3 k0 k1 k2 k3 o0 o1 o2 o3 a0 s0 a1 s1 a2 s2 a3 s3 ++ rest) → Q v { s with heap := h', toks := tk' }) :
    wpAny (model prg w) (ktrTop dp un gd cn cs L a ccd cl outer) (call (.ref 435) [.ref cx]) Q E s := by
  obtain ⟨B, F, X, T, hk, hdp, hun⟩ := C
  have NK : Kept _ := ⟨N⟩
  k_dflt refine' call_rest (args := ⟨[.ref cx], []⟩) (bl := [(Str.ofString "chain", .ref cx)]) B F X N hoff T rfl rfl hk ?k6 ?k7 ?k8 ?k9 ?kB ?kL ?_ ?c2 ?c3 ?c4 ?c5
  (case k6 => k_is)
  (case k7 => k_is)
  (case k8 => k_room)
  (case k9 => exact BindsTo.of_eq rfl)
  (case c5 => decide)
  (case kB => exact locs rfl)
  (case kL => rfl)
  (case c2 => exact rfl)
  (case c3 => exact rfl)
  (case c4 => exact rfl)
  clear N F
  intro g' L' h' tk' F' N' B' X' T'
  dsimp only [chainL] at N'
  k_fold
  repeat' (first | (k_unfold; (try dsimp only)) | (k_end; wrow_close) | walk1 | (dsimp only; walk1) | (leave1; walk_say "STEP leave1"; try dsimp only))
  all_goals (subst_vars; refine' fun hr => hret _ _ _ ?_ (by assumption) (news_join NK.out (News.sub (by assumption) ?_) hr))
  all_goals first | exact rfl | exact ⟨_, rfl⟩ | (dsimp only [chainL]; k_allIn)
theorem want_cases {a0 s0 a1 s1 a2 s2 a3 s3 : Bool} {v : Value} (h : IsOpt v (want a0 s0 a1 s1 a2 s2 a3 s3)) :
    (want a0 s0 a1 s1 a2 s2 a3 s3 = none ∧ v = .none) ∨ (∃ t, want a0 s0 a1 s1 a2 s2 a3 s3 = some 0 ∧ v = .int 0 t) ∨ (∃ t, want a0 s0 a1 s1 a2 s2 a3 s3 = some 1 ∧ v = .int 1 t) ∨
    (∃ t, want a0 s0 a1 s1 a2 s2 a3 s3 = some 2 ∧ v = .int 2 t) ∨ (∃ t, want a0 s0 a1 s1 a2 s2 a3 s3 = some 3 ∧ v = .int 3 t) := by
  have hw : want a0 s0 a1 s1 a2 s2 a3 s3 = none ∨ want a0 s0 a1 s1 a2 s2 a3 s3 = some 0 ∨ want a0 s0 a1 s1 a2 s2 a3 s3 = some 1 ∨ want a0 s0 a1 s1 a2 s2 a3 s3 = some 2 ∨ want a0 s0 a1 s1 a2 s2 a3 s3 = some 3 := by
    clear h
    revert a0 s0 a1 s1 a2 s2 a3 s3
    decide
  rcases hw with e | e | e | e | e <;> rw [e] at h ⊢
  · exact .inl ⟨rfl, h⟩
  · obtain ⟨t, h⟩ := h; exact .inr (.inl ⟨t, rfl, h⟩)
  · obtain ⟨t, h⟩ := h; exact .inr (.inr (.inl ⟨t, rfl, h⟩))
  · obtain ⟨t, h⟩ := h; exact .inr (.inr (.inr (.inl ⟨t, rfl, h⟩)))
  · obtain ⟨t, h⟩ := h; exact .inr (.inr (.inr (.inr ⟨t, rfl, h⟩)))
end
end
section
open PySem PySem.W PyProof.Rows
theorem off5 : True := by (w_top off; trivial)
local macro_rules | `(tactic| walk_at "call ref") => `(tactic| ((with_reducible show wpAny _ _ (call (Value.ref 223) _) _ _ _); refine Mine.stop_here ?_))
local macro_rules | `(tactic| walk_at "call ref") => `(tactic| ((with_reducible show wpAny _ _ (call (Value.ref 188) _) _ _ _); refine Mine.stop_here ?_))
section
variable {w : World} {lo : List Str} {mean : ExcName → Option Value} {mg mb : Str → Option Value} {dp un : Nat} {gd : Option (List Code)} {cn : Str} {cs : Scope} {L a : Addr} {ccd : Value} {cl : List (Str × Addr)} {outer : List Env}
    {A₀ : Around} {base h₀ : Heap} {m : Str → Option Value} {rest : List (Addr × Obj)} {s : Shared} {Q E : Value → Shared → Prop}
theorem serve_spec {ch x0 d0 x1 d1 x2 d2 x3 d3 cx dx mx : Nat} {k0 k1 k2 k3 kt : Nat → Nat} {z0 z1 z2 z3 : Int} {y0 y1 y2 y3 : Nat} {a0 s0 a1 s1 a2 s2 a3 s3 : Bool} {r ss ix iy i iff2 halt : Value} {sp pc ref states iff1 : Int} {tsp tpc tref tst t1 tm : Nat} {mv : List Value} {mn : List Int} {nn : Nat}
    (C : Cx w lo mean mg mb dp un cs outer A₀ base h₀ L m s.heap 20)
    (N : News h₀ L s.heap ((chainL w.params ch x0 d0 x1 d1 x2 d2 x3 d3 k0 k1 k2 k3 (.int z0 y0) (.int z1 y1) (.int z2 y2) (.int z3 y3) a0 s0 a1 s1 a2 s2 a3 s3 ++ cpuL w.params cx dx mx kt r ss ix iy (.int sp tsp) (.int pc tpc) i (.int ref tref) (.int iff1 t1) iff2 (.int 1 tm) halt (.bool false) (.int states tst) mv nn) ++ rest))
    (hoff : OwnOff rest (chainA ch x0 d0 x1 d1 x2 d2 x3 d3 ++ [cx, dx, mx]))
    (ho : mx < dx ∧ dx < cx ∧ cx < d0 ∧ d0 < x0 ∧ x0 < d1 ∧ d1 < x1 ∧ x1 < d2 ∧ d2 < x2 ∧ x2 < d3 ∧ d3 < x3) (hch : ∀ b ∈ [mx, dx, cx, d0, x0, d1, x1, d2, x2, d3, x3], ch ≠ b)
    (hmv : IntsAre mv mn) (hml : mn.length = 256) (hsp : 2 ≤ sp) (hsp2 : sp ≤ 256)
    (hret0 : ∀ (h' : Heap) (tk' : Nat), (want a0 s0 a1 s1 a2 s2 a3 s3 = none ∨ iff1 ≠ 1) → Fr h₀ L h' m →
      News h₀ L h' ((chainL w.params ch x0 d0 x1 d1 x2 d2 x3 d3 k0 k1 k2 k3 (.int z0 y0) (.int z1 y1) (.int z2 y2) (.int z3 y3) a0 s0 a1 s1 a2 s2 a3 s3 ++ cpuL w.params cx dx mx kt r ss ix iy (.int sp tsp) (.int pc tpc) i (.int ref tref) (.int iff1 t1) iff2 (.int 1 tm) halt (.bool false) (.int states tst) mv nn) ++ rest) → Q .none { s with heap := h', toks := tk' })
    (hret : ∀ (j : Int) (t : Nat) (st' ref' : Int) (t1 t2 tsp' tpc' tref' tst' : Nat) (mv' : List Value) (mn' : List Int) (h' : Heap) (tk' : Nat), want a0 s0 a1 s1 a2 s2 a3 s3 = some j → iff1 = 1 → mn' = (mn.set (sp - 2).toNat (pc % 256)).set (sp - 1).toNat (pc / 256 % 256) → IntsAre mv' mn' → Fr h₀ L h' m →
      News h₀ L h' ((chainL w.params ch x0 d0 x1 d1 x2 d2 x3 d3 k0 k1 k2 k3 (.int z0 y0) (.int z1 y1) (.int z2 y2) (.int z3 y3) (if j = 0 then false else a0) (if j = 0 then true else s0) (if j = 1 then false else a1) (if j = 1 then true else s1) (if j = 2 then false else a2) (if j = 2 then true else s2) (if j = 3 then false else a3) (if j = 3 then true else s3) ++
        cpuL w.params cx dx mx kt r ss ix iy (.int (sp - 2) tsp') (.int 56 tpc') i (.int ref' tref') (.int 0 t1) (.int 0 t2) (.int 1 tm) (.bool false) (.bool false) (.int st' tst') mv' nn) ++ rest) → Q (.int j t) { s with heap := h', toks := tk' }) :
    wpAny (model prg w) (ktrTop dp un gd cn cs L a ccd cl outer) (call (.ref 230) [.ref cx, .ref mx, .ref ch]) Q E s := by
  obtain ⟨B, F, X, T, hk, hdp, hun⟩ := C
  obtain ⟨q1, q2, q3, q5, q6, q7, q8, q9, q10, q11⟩ := ho
  have c_mx : ch ≠ mx := hch _ (by k_mem)
  have c_dx : ch ≠ dx := hch _ (by k_mem)
  have c_cx : ch ≠ cx := hch _ (by k_mem)
  have c_d0 : ch ≠ d0 := hch _ (by k_mem)
  have c_x0 : ch ≠ x0 := hch _ (by k_mem)
  have c_d1 : ch ≠ d1 := hch _ (by k_mem)
  have c_x1 : ch ≠ x1 := hch _ (by k_mem)
  have c_d2 : ch ≠ d2 := hch _ (by k_mem)
  have c_x2 : ch ≠ x2 := hch _ (by k_mem)
  have c_d3 : ch ≠ d3 := hch _ (by k_mem)
  have c_x3 : ch ≠ x3 := hch _ (by k_mem)
  have e_mx : mx ≠ ch := Ne.symm c_mx
  have e_dx : dx ≠ ch := Ne.symm c_dx
  have e_cx : cx ≠ ch := Ne.symm c_cx
  have e_d0 : d0 ≠ ch := Ne.symm c_d0
  have e_x0 : x0 ≠ ch := Ne.symm c_x0
  have e_d1 : d1 ≠ ch := Ne.symm c_d1
  have e_x1 : x1 ≠ ch := Ne.symm c_x1
  have e_d2 : d2 ≠ ch := Ne.symm c_d2
  have e_x2 : x2 ≠ ch := Ne.symm c_x2
  have e_d3 : d3 ≠ ch := Ne.symm c_d3
  have e_x3 : x3 ≠ ch := Ne.symm c_x3
  clear hch
  have NK : Kept _ := ⟨N⟩
  k_dflt refine' call_rest (args := ⟨[.ref cx, .ref mx, .ref ch], []⟩) (bl := [(Str.ofString "chain", .ref ch), (Str.ofString "memory", .ref mx), (Str.ofString "cpu", .ref cx)]) B F X N hoff T rfl rfl hk ?k6 ?k7 ?k8 ?k9 ?kB ?kL ?_ ?c2 ?c3 ?c4 ?c5
  (case k6 => k_is)
  (case k7 => k_is)
  (case k8 => k_room)
  (case k9 => exact BindsTo.of_eq rfl)
  (case c5 => decide)
  (case kB => exact locs rfl)
  (case kL => rfl)
  (case c2 => exact rfl)
  (case c3 => exact rfl)
  (case c4 => exact rfl)
  clear N F
  intro g' L' h' tk' F' N' B' X' T'
  dsimp only [chainL, cpuL, List.cons_append, List.nil_append] at N'
  k_fold
  repeat' (first | (k_unfold; (try dsimp only)) | (refine Mine.stop_go ?_; first | ((with_reducible show wpAny _ _ (call (Value.ref 188) _) _ _ _); k_dflt (refine' request_spec ?C ?N ?ho ?h1 ?h2 ?h3 ?h4 ?h5 ?h6 ?h7 ?_ ?_; (case C => exact ⟨by k_asm, by k_asm, by k_asm, by k_asm, by exact rfl, by k_room, by ktr_units⟩); (case N => (refine' News.sel ?hN ?hS; (case hN => k_asm); (case hS => tb_start))); (case ho => tb_rel); (case h1 => omega); (case h2 => omega); (case h3 => omega); (case h4 => assumption); (case h5 => assumption); (case h6 => omega); (case h7 => omega); k_whole); (intro h' tk' hne' F' N'; k_sweep; rotate_left); (intro st' ref' t1' t2' tsp' tpc' tref' tst' mv' mn' h' tk' h1' e1' hi' F' N'; k_sweep; rotate_left)) | ((with_reducible show wpAny _ _ (call (Value.ref 223) _) _ _ _); k_dflt (refine' first_spec ?C ?N ?ho ?_; (case C => exact ⟨by k_asm, by k_asm, by k_asm, by k_asm, by exact rfl, by k_room, by ktr_units⟩); (case N => (refine' News.sel ?hN ?hS; (case hN => k_asm); (case hS => tb_start))); (case ho => tb_rel); k_whole); intro v' h' tk' hv' F' N'; dsimp only [chainL, cpuL, List.cons_append, List.nil_append] at N'; k_sweep; (rcases want_cases hv' with ⟨hw, e⟩ | ⟨ti, hw, e⟩ | ⟨ti, hw, e⟩ | ⟨ti, hw, e⟩ | ⟨ti, hw, e⟩ <;> (subst e; clear hv'; (try dsimp only))))) | (k_end; wrow_close) | (walk1; all_goals (try dsimp only); all_goals (try (with_reducible refine Mine.wp_tok ?_; intro _))) | (dsimp only; walk1) | (leave1; walk_say "STEP leave1"; try dsimp only))
  all_goals first
    | exact fun hr => hret0 _ _ (.inl (by assumption)) (by assumption) (news_join NK.out (News.sel (by assumption) (by tb_start)) hr)
    | exact fun hr => hret0 _ _ (.inr (by assumption)) (by assumption) (news_join NK.out (News.sel (by assumption) (by tb_start)) hr)
    | exact fun hr => hret _ _ _ _ _ _ _ _ _ _ _ _ _ _ (by assumption) (by assumption) (by assumption) (by assumption) (by assumption) (news_join NK.out (News.sel (by assumption) (by tb_start)) hr)
end
end
section
open PySem PySem.W PyProof.Rows
theorem off6 : True := by (w_top off; trivial)
section
variable {w : World} {lo : List Str} {mean : ExcName → Option Value} {mg mb : Str → Option Value} {dp un : Nat} {gd : Option (List Code)} {cn : Str} {cs : Scope} {L a : Addr} {ccd : Value} {cl : List (Str × Addr)} {outer : List Env}
    {A₀ : Around} {base h₀ : Heap} {m : Str → Option Value} {rest : List (Addr × Obj)} {s : Shared} {Q E : Value → Shared → Prop}
theorem fm0 {x y : Int} (h : 0 < y) : 0 ≤ x.fmod y := by rw [Int.fmod_eq_emod_of_nonneg _ (by omega)]; exact Int.emod_nonneg _ (by omega)
theorem fm1 {x y : Int} (h : 0 < y) : x.fmod y < y := by rw [Int.fmod_eq_emod_of_nonneg _ (by omega)]; exact Int.emod_lt_of_pos _ h
theorem next_spec {fx cx : Nat} {t : Int} {tt : Nat} {cv : List Value} {cns : List Int} {cnn : Nat} {many : Int} {tm : Nat}
    (C : Cx w lo mean mg mb dp un cs outer A₀ base h₀ L m s.heap 10)
    (N : News h₀ L s.heap (feedL fx cx t tt cv cnn ++ rest))
    (hoff : OwnOff rest [fx, cx]) (hne : cx < fx) (hcv : IntsAre cv cns) (hcl : cns.length ≤ 40) (ht0 : 0 ≤ t) (ht1 : t ≤ 1000) (hm : 0 < many) (hm2 : many ≤ 9000)
    (hret : ∀ (v : Int) (tv tt' : Nat) (h' : Heap) (tk' : Nat), 0 ≤ v → v < many → Fr h₀ L h' m →
      News h₀ L h' (feedL fx cx (t + 1) tt' cv cnn ++ rest) → Q (.int v tv) { s with heap := h', toks := tk' }) :
    wpAny (model prg w) (ktrTop dp un gd cn cs L a ccd cl outer) (call (.ref 428) [.ref fx, .int many tm]) Q E s := by
  obtain ⟨B, F, X, T, hk, hdp, hun⟩ := C
  have NK : Kept _ := ⟨N⟩
  k_dflt refine' call_rest (args := ⟨[.ref fx, .int many tm], []⟩) (bl := [(Str.ofString "many", .int many tm), (Str.ofString "feed", .ref fx)]) B F X N hoff T rfl rfl hk ?k6 ?k7 ?k8 ?k9 ?kB ?kL ?_ ?c2 ?c3 ?c4 ?c5
  (case k6 => k_is)
  (case k7 => k_is)
  (case k8 => k_room)
  (case k9 => exact BindsTo.of_eq rfl)
  (case c5 => decide)
  (case kB => exact locs rfl)
  (case kL => rfl)
  (case c2 => exact rfl)
  (case c3 => exact rfl)
  (case c4 => exact rfl)
  clear N F
  intro g' L' h' tk' F' N' B' X' T'
  dsimp only [feedL, List.cons_append, List.nil_append] at N'
  k_fold
  repeat' (first | (k_unfold; (try dsimp only)) | (k_end; wrow_close) | (walk1; all_goals (try dsimp only); all_goals (try (with_reducible refine Mine.wp_tok ?_; intro _))) | (dsimp only; walk1) | (leave1; walk_say "STEP leave1"; try dsimp only))
  all_goals exact fun hr => hret _ _ _ _ _ (fm0 hm) (fm1 hm) (by assumption) (news_join NK.out (News.sel (by assumption) (by tb_start)) hr)
end
end
section
open PySem PySem.W PyProof.Rows
theorem off7 : True := by (w_top off; trivial)
def ats (s0 s1 s2 s3 : Bool) : List Int := (if s0 then [0] else []) ++ (if s1 then [1] else []) ++ (if s2 then [2] else []) ++ (if s3 then [3] else [])
def nums (s0 s1 s2 s3 : Bool) : List Int := (if s3 then [3] else []) ++ (if s2 then [2] else []) ++ (if s1 then [1] else []) ++ (if s0 then [0] else [])
def firstS (s0 s1 s2 s3 : Bool) : Option Int := if s0 then some 0 else if s1 then some 1 else if s2 then some 2 else if s3 then some 3 else none
theorem nums_len (s0 s1 s2 s3 : Bool) : (nums s0 s1 s2 s3).length ≤ 4 := by revert s0 s1 s2 s3; decide
theorem nums_last (s0 s1 s2 s3 : Bool) : (nums s0 s1 s2 s3).getLast? = firstS s0 s1 s2 s3 := by revert s0 s1 s2 s3; decide
theorem nums_drop (s0 s1 s2 s3 : Bool) : (nums s0 s1 s2 s3).dropLast = nums (if firstS s0 s1 s2 s3 = some 0 then false else s0) (if firstS s0 s1 s2 s3 = some 1 then false else s1) (if firstS s0 s1 s2 s3 = some 2 then false else s2) (if firstS s0 s1 s2 s3 = some 3 then false else s3) := by revert s0 s1 s2 s3; decide
theorem nums_end {s0 s1 s2 s3 : Bool} {l : List Int} {j : Int} (h : l ++ [j] = nums s0 s1 s2 s3) : firstS s0 s1 s2 s3 = some j ∧ l = nums (if j = 0 then false else s0) (if j = 1 then false else s1) (if j = 2 then false else s2) (if j = 3 then false else s3) := by
  have h1 := nums_last s0 s1 s2 s3
  have h2 := nums_drop s0 s1 s2 s3
  rw [← h] at h1 h2
  rw [List.getLast?_append] at h1
  rw [List.dropLast_concat] at h2
  have h3 : firstS s0 s1 s2 s3 = some j := by rw [← h1]; rfl
  refine ⟨h3, ?_⟩
  rw [h3] at h2
  simpa using h2
theorem want_num {a0 s0 a1 s1 a2 s2 a3 s3 : Bool} {j : Int} (h : want a0 s0 a1 s1 a2 s2 a3 s3 = some j) :
    nums s0 s1 s2 s3 ++ [j] = nums (if j = 0 then true else s0) (if j = 1 then true else s1) (if j = 2 then true else s2) (if j = 3 then true else s3) ∧ (j = 0 ∨ j = 1 ∨ j = 2 ∨ j = 3) ∧ (j = 0 → a0 = true ∧ s0 = false) ∧ (j = 1 → a1 = true ∧ s1 = false) ∧ (j = 2 → a2 = true ∧ s2 = false) ∧ (j = 3 → a3 = true ∧ s3 = false) := by
  have key : ∀ b0 t0 b1 t1 b2 t2 b3 t3 : Bool, (want b0 t0 b1 t1 b2 t2 b3 t3 = none) ∨ (want b0 t0 b1 t1 b2 t2 b3 t3 = some 0 ∧ b0 = true ∧ t0 = false ∧ nums t0 t1 t2 t3 ++ [0] = nums true t1 t2 t3) ∨ (want b0 t0 b1 t1 b2 t2 b3 t3 = some 1 ∧ b1 = true ∧ t1 = false ∧ nums t0 t1 t2 t3 ++ [1] = nums t0 true t2 t3) ∨ (want b0 t0 b1 t1 b2 t2 b3 t3 = some 2 ∧ b2 = true ∧ t2 = false ∧ nums t0 t1 t2 t3 ++ [2] = nums t0 t1 true t3) ∨ (want b0 t0 b1 t1 b2 t2 b3 t3 = some 3 ∧ b3 = true ∧ t3 = false ∧ nums t0 t1 t2 t3 ++ [3] = nums t0 t1 t2 true) := by decide
  rcases key a0 s0 a1 s1 a2 s2 a3 s3 with e | ⟨e, p, q, r⟩ | ⟨e, p, q, r⟩ | ⟨e, p, q, r⟩ | ⟨e, p, q, r⟩
  · rw [e] at h; cases h
  all_goals
    obtain rfl := Option.some.inj (e.symm.trans h)
    refine ⟨by simpa using r, by decide, ?_, ?_, ?_, ?_⟩ <;> first | exact fun _ => ⟨p, q⟩ | exact fun h0 => absurd h0 (by decide)
theorem len_split (dl : List (Option Int × Int)) : dl.length = (dl.filterMap (·.1)).length + dl.countP (·.1.isNone) := by
  induction dl with
  | nil => rfl
  | cons p r ih =>
    obtain ⟨o, x⟩ := p
    cases o with
    | none => simp [List.filterMap_cons, List.countP_cons, ih]; omega
    | some i => simp [List.filterMap_cons, List.countP_cons, ih]; omega
def MemOk (mn : List Int) (dl : List (Option Int × Int)) : Prop := ∀ (j : Nat) p, dl[j]? = some p → mn.getD (254 - 2 * j) 0 + 256 * mn.getD (255 - 2 * j) 0 = p.2
def Bytes (mn : List Int) : Prop := ∀ j, 0 ≤ mn.getD j 0 ∧ mn.getD j 0 < 256
theorem getD_set (l : List Int) (i j : Nat) (x : Int) (hi : i < l.length) : (l.set i x).getD j 0 = if i = j then x else l.getD j 0 := by
  rw [List.getD_eq_getElem?_getD, List.getElem?_set, List.getD_eq_getElem?_getD]
  by_cases h : i = j
  · subst h; simp [hi]
  · simp [h]
theorem push_mem {mn : List Int} {dl : List (Option Int × Int)} {sp pc : Int} {o : Option Int} (hml : mn.length = 256) (hb : Bytes mn) (hm : MemOk mn dl) (hn : dl.length ≤ 11) (hsp : sp = 256 - 2 * dl.length) (hp0 : 0 ≤ pc) (hp1 : pc < 65536) :
    let mn' := (mn.set (sp - 2).toNat (pc % 256)).set (sp - 1).toNat (pc / 256 % 256)
    mn'.length = 256 ∧ Bytes mn' ∧ MemOk mn' (dl ++ [(o, pc)]) := by
  have e1 : (sp - 2).toNat = 254 - 2 * dl.length := by omega
  have e2 : (sp - 1).toNat = 255 - 2 * dl.length := by omega
  rw [e1, e2]
  have key : ∀ j, ((mn.set (254 - 2 * dl.length) (pc % 256)).set (255 - 2 * dl.length) (pc / 256 % 256)).getD j 0 = if 255 - 2 * dl.length = j then pc / 256 % 256 else if 254 - 2 * dl.length = j then pc % 256 else mn.getD j 0 := by
    intro j
    rw [getD_set _ _ _ _ (by rw [List.length_set]; omega), getD_set _ _ _ _ (by omega)]
  refine ⟨by simp [hml], fun j => ?_, fun j p hj => ?_⟩
  · rw [key]
    have := hb j
    split
    · omega
    · split <;> omega
  · rw [key, key]
    by_cases hjl : j < dl.length
    · rw [List.getElem?_append_left hjl] at hj
      rw [if_neg (by omega), if_neg (by omega), if_neg (by omega), if_neg (by omega)]
      exact hm j p hj
    · have hj2 : j < (dl ++ [(o, pc)]).length := (List.getElem?_eq_some_iff.mp hj).1
      rw [List.length_append, List.length_singleton] at hj2
      have hj3 : j = dl.length := by omega
      subst hj3
      rw [List.getElem?_append_right (Nat.le_refl _), Nat.sub_self] at hj
      obtain rfl : (o, pc) = p := by simpa using hj
      rw [if_neg (by omega), if_pos rfl, if_pos rfl]
      show pc % 256 + 256 * (pc / 256 % 256) = pc
      omega
theorem pop_mem {mn : List Int} {dl : List (Option Int × Int)} {x : Option Int × Int} (hm : MemOk mn (dl ++ [x])) : MemOk mn dl := fun j p hj => hm j p (by
  have hl : j < dl.length := (List.getElem?_eq_some_iff.mp hj).1
  rw [List.getElem?_append_left hl]; exact hj)
theorem top_mem {mn : List Int} {dl : List (Option Int × Int)} {o : Option Int} {p sp : Int} (hm : MemOk mn (dl ++ [(o, p)])) (hn : dl.length ≤ 11) (hsp : sp = 256 - 2 * (dl ++ [(o, p)]).length) : mn.getD sp.toNat 0 + 256 * mn.getD (sp + 1).toNat 0 = p := by
  rw [List.length_append, List.length_singleton] at hsp
  have e1 : sp.toNat = 254 - 2 * dl.length := by omega
  have e2 : (sp + 1).toNat = 255 - 2 * dl.length := by omega
  rw [e1, e2]
  exact hm dl.length (o, p) (by simp)
theorem ne_int_same {prog : Program} {w : World} {s : Shared} {E : Value → Shared → Prop} {A : Around} {a b : Int} {t u : Nat} {Q : Value → Shared → Prop} (e : a = b) (h : Q (.bool false) s) : wpAny (model prog w) A (compareOp .NotEq (.int a t) (.int b u)) Q E s := by
  subst e
  refine ne_int ?_
  have : (a != a) = false := by simp
  rw [this]; exact h
theorem my_len {prog : Program} {w : World} {s : Shared} {E : Value → Shared → Prop} {A : Around} {g : Heap} {L D : Addr} {news : List (Addr × Obj)} {vs : List Value} {n k : Nat} {Q : Value → Shared → Prop} (N : News g L s.heap news) (hm : (D, listOf vs.toArray n) ∈ news) (e : vs.length = k) (hk : k ≤ 1000) (h : ∀ t tk, Q (.int (k : Nat) t) { s with toks := tk }) :
    wpAny (model prog w) A (call (.builtin "len") [.ref D]) Q E s := by
  subst e
  have hs : vs.toArray.size = vs.length := List.size_toArray
  refine len_list (items := vs.toArray) ⟨_, (N _ hm).1, rfl, n, rfl⟩ (by rw [hs]; omega) (by rw [hs]; exact h _ _)
end
section
open PySem PySem.W PyProof.Rows
theorem off8 : True := by (w_top off; trivial)
section
variable {w : World} {lo : List Str} {mean : ExcName → Option Value} {mg mb : Str → Option Value} {dp un : Nat} {gd : Option (List Code)} {cn : Str} {cs : Scope} {L a : Addr} {ccd : Value} {cl : List (Str × Addr)} {outer : List Env}
    {A₀ : Around} {base h₀ : Heap} {m : Str → Option Value} {rest : List (Addr × Obj)} {s : Shared} {Q E : Value → Shared → Prop}
theorem ends_spec {cx x0 d0 x1 d1 x2 d2 x3 d3 : Nat} {k0 k1 k2 k3 : Nat → Nat} {o0 o1 o2 o3 : Value} {a0 s0 a1 s1 a2 s2 a3 s3 : Bool}
    (C : Cx w lo mean mg mb dp un cs outer A₀ base h₀ L m s.heap 10)
    (N : News h₀ L s.heap (chainL w.params cx x0 d0 x1 d1 x2 d2 x3 d3 k0 k1 k2 k3 o0 o1 o2 o3 a0 s0 a1 s1 a2 s2 a3 s3 ++ rest))
    (hoff : OwnOff rest (chainA cx x0 d0 x1 d1 x2 d2 x3 d3))
    (ho : d0 < x0 ∧ x0 < d1 ∧ d1 < x1 ∧ x1 < d2 ∧ d2 < x2 ∧ x2 < d3 ∧ d3 < x3) (hch : ∀ b ∈ [d0, x0, d1, x1, d2, x2, d3, x3], cx ≠ b)
    (hret : ∀ (v : Value) (h' : Heap) (tk' : Nat), IsOpt v (firstS s0 s1 s2 s3) → Fr h₀ L h' m →
      News h₀ L h' (chainL w.params cx x0 d0 x1 d1 x2 d2 x3 d3 k0 k1 k2 k3 o0 o1 o2 o3 a0 (if firstS s0 s1 s2 s3 = some 0 then false else s0) a1 (if firstS s0 s1 s2 s3 = some 1 then false else s1) a2 (if firstS s0 s1 s2 s3 = some 2 then false else s2) a3 (if firstS s0 s1 s2 s3 = some 3 then false else s3) ++ rest) → Q v { s with heap := h', toks := tk' }) :
    wpAny (model prg w) (ktrTop dp un gd cn cs L a ccd cl outer) (call (.ref 237) [.ref cx]) Q E s := by
  obtain ⟨B, F, X, T, hk, hdp, hun⟩ := C
  obtain ⟨q5, q6, q7, q8, q9, q10, q11⟩ := ho
  have c_d0 : cx ≠ d0 := hch _ (by k_mem)
  have c_x0 : cx ≠ x0 := hch _ (by k_mem)
  have c_d1 : cx ≠ d1 := hch _ (by k_mem)
  have c_x1 : cx ≠ x1 := hch _ (by k_mem)
  have c_d2 : cx ≠ d2 := hch _ (by k_mem)
  have c_x2 : cx ≠ x2 := hch _ (by k_mem)
  have c_d3 : cx ≠ d3 := hch _ (by k_mem)
  have c_x3 : cx ≠ x3 := hch _ (by k_mem)
  have e_d0 : d0 ≠ cx := Ne.symm c_d0
  have e_x0 : x0 ≠ cx := Ne.symm c_x0
  have e_d1 : d1 ≠ cx := Ne.symm c_d1
  have e_x1 : x1 ≠ cx := Ne.symm c_x1
  have e_d2 : d2 ≠ cx := Ne.symm c_d2
  have e_x2 : x2 ≠ cx := Ne.symm c_x2
  have e_d3 : d3 ≠ cx := Ne.symm c_d3
  have e_x3 : x3 ≠ cx := Ne.symm c_x3
  clear hch
  have NK : Kept _ := ⟨N⟩
  k_dflt refine' call_rest (args := ⟨[.ref cx], []⟩) (bl := [(Str.ofString "chain", .ref cx)]) B F X N hoff T rfl rfl hk ?k6 ?k7 ?k8 ?k9 ?kB ?kL ?_ ?c2 ?c3 ?c4 ?c5
  (case k6 => k_is)
  (case k7 => k_is)
  (case k8 => k_room)
  (case k9 => exact BindsTo.of_eq rfl)
  (case c5 => decide)
  (case kB => exact locs rfl)
  (case kL => rfl)
  (case c2 => exact rfl)
  (case c3 => exact rfl)
  (case c4 => exact rfl)
  clear N F
  intro g' L' h' tk' F' N' B' X' T'
  dsimp only [chainL, List.cons_append, List.nil_append] at N'
  k_fold
  repeat' (first | (k_unfold; (try dsimp only)) | (k_end; wrow_close) | (walk1; all_goals (try dsimp only); all_goals (try (with_reducible refine Mine.wp_tok ?_; intro _))) | (dsimp only; walk1) | (leave1; walk_say "STEP leave1"; try dsimp only))
  all_goals subst_vars
  all_goals refine' fun hr => hret _ _ _ ?_ (by assumption) (news_join NK.out (News.sel (by assumption) (by tb_start)) hr)
  all_goals first | exact rfl | exact ⟨_, rfl⟩
end
end
section
open PySem PySem.W PyProof.Rows
theorem off9 : True := by (w_top off; trivial)
theorem nat_and_shift {a b : Nat} (h : a < 256) : a &&& (b * 256) = 0 := by
  apply Nat.eq_of_testBit_eq
  intro i
  rw [Nat.testBit_and, Nat.zero_testBit]
  by_cases hi : i < 8
  · have : (b * 2 ^ 8).testBit i = false := by rw [Nat.testBit_mul_two_pow]; simp; omega
    rw [show b * 256 = b * 2 ^ 8 from rfl, this, Bool.and_false]
  · have : a.testBit i = false := Nat.testBit_lt_two_pow (Nat.lt_of_lt_of_le h (show 2 ^ 8 ≤ 2 ^ i from Nat.pow_le_pow_right (by decide) (by omega)))
    rw [this, Bool.false_and]
theorem bitOr_word {a b : Int} (ha : 0 ≤ a) (ha2 : a < 256) (hb : 0 ≤ b) : Builtin.bitOr a (b * 256) = a + 256 * b := by
  have e : (b * 256).toNat = b.toNat * 256 := by omega
  rw [bitOr_and, bitAnd_pp ha (by omega), e, nat_and_shift (by omega)]
  simp
  omega
theorem back_val {mn : List Int} {sp : Int} (hml : mn.length = 256) (hmb : ∀ j, 0 ≤ mn.getD j 0 ∧ mn.getD j 0 < 256) (hsp : 0 ≤ sp) (hsp2 : sp ≤ 254) :
    Builtin.bitOr (mn.getD (sp.fmod ↑mn.length).toNat 0) (mn.getD ((Builtin.bitAnd (sp + 1) 65535).fmod ↑mn.length).toNat 0 * 2 ^ Int.toNat 8) = mn.getD sp.toNat 0 + 256 * mn.getD (sp + 1).toNat 0 := by
  have e0 : (2 : Int) ^ Int.toNat 8 = 256 := by decide
  have e1 : Builtin.bitAnd (sp + 1) 65535 = sp + 1 := by rw [bitAnd_m16]; omega
  have a1 : sp.fmod ((256 : Nat) : Int) = sp := by rw [Int.fmod_eq_emod_of_nonneg _ (by omega)]; omega
  have a2 : (sp + 1).fmod ((256 : Nat) : Int) = sp + 1 := by rw [Int.fmod_eq_emod_of_nonneg _ (by omega)]; omega
  rw [e0, e1, hml, a1, a2]
  exact bitOr_word (hmb _).1 (hmb _).2 (hmb _).1
theorem kl_last_snoc (p : List Value) (y : Value) : kl_last (p ++ [y]) = some (p, y) := by
  induction p with
  | nil => rfl
  | cons x r ih => show (match kl_last (r ++ [y]) with | some (p, y) => some (x :: p, y) | none => some ([], x)) = _; rw [ih]
theorem natAbs_small {mn : List Int} {k : Nat} (h : ∀ j, 0 ≤ mn.getD j 0 ∧ mn.getD j 0 < 256) : (mn.getD k 0).natAbs < 2 ^ 64 := by have := h k; omega
section
variable {prog : Program} {w : World} {A : Around} {E : Value → Shared → Prop} {s : Shared} {h₀ : Heap} {L D : Addr} {m : Str → Option Value} {news news' : List (Addr × Obj)} {n : Nat}
theorem my_pop {p : List Value} {y : Value} {Q : Value → Shared → Prop} (F : Fr h₀ L s.heap m) (N : News h₀ L s.heap news) (U : Upd D (listOf (p ++ [y]).toArray n) (listOf p.toArray (n + 1)) news news')
    (hz : p.length ≤ 100) (h : ∀ h', Fr h₀ L h' m → News h₀ L h' news' → Q y { s with heap := h' }) : wpAny (model prog w) A (call (.builtin "list.pop") [.ref D]) Q E s :=
  kl_pop F N (kl_last_snoc p y) U (by show (p ++ [y]).length ≤ sizeLine; rw [List.length_append, sizeLine_eq]; simp; omega) h
theorem shr6 {code : Int} {t u : Tok} {Q : Value → Shared → Prop} (hc : code = 77 ∨ code = 69) (h : ∀ (a : Tok) (b : Nat), Q (.int 1 a) { s with toks := b }) : wpAny (model prog w) A (binaryOp .RShift (.int code t) (.int 6 u)) Q E s := by
  refine rshift_int (by decide) ?_
  have e : Int.fdiv code (2 ^ Int.toNat 6) = 1 := by rcases hc with e | e <;> subst e <;> decide
  rw [e]
  exact h _ _
theorem shr3 {code : Int} {t u : Tok} {Q : Value → Shared → Prop} (_hc : code = 77 ∨ code = 69) (h : ∀ (v : Int) (a : Tok) (b : Nat), Q (.int v a) { s with toks := b }) : wpAny (model prog w) A (binaryOp .RShift (.int code t) (.int 3 u)) Q E s := by
  exact rshift_int (by decide) (h _ _ _)
theorem and7 {code : Int} {t u : Tok} {Q : Value → Shared → Prop} (hc : code = 77 ∨ code = 69) (h : ∀ (a : Tok) (b : Nat), Q (.int (Builtin.bitAnd 69 7) a) { s with toks := b }) : wpAny (model prog w) A (binaryOp .BitAnd (.int code t) (.int 7 u)) Q E s := by
  refine and_int ?_
  have e : Builtin.bitAnd code 7 = Builtin.bitAnd 69 7 := by rcases hc with e | e <;> subst e <;> rfl
  rw [e]
  exact h _ _
end
theorem tup_base {g h : Heap} {L : Addr} {m : Str → Option Value} {a : Addr} {l : List Value} {n : Nat} (F : Fr g L h m) (hl : g.get? a = some ({ cls := .type "tuple", data := .seq l.toArray n } : Obj)) : IsTup h a l.toArray := ⟨_, F.keep _ _ hl, rfl, _, rfl⟩
local macro_rules | `(tactic| walk_at "subscriptTail") => `(tactic| (k_here; (with_reducible show wpAny _ _ (subscriptTail _ _ (Value.ref _) (Value.int _ _)) _ _ _); k_dflt (refine' item_tupleT ?t ?a ?b ?c ?d ?_; (case t => exact tup_base (by k_asm) (by assumption)); (case a => decide); (case b => decide); (case c => rfl); (case d => rfl); k_whole)))
local macro_rules | `(tactic| walk_at "call builtin:list.pop") => `(tactic| ((with_reducible show wpAny _ _ (call (Value.builtin _) [Value.ref _]) _ _ _); refine Mine.stop_here ?_))
local macro_rules | `(tactic| walk_at "binaryOp LShift int int") => `(tactic| (k_here; k_dflt (refine' lshift_int_small ?a ?b ?c ?_; (case a => decide); (case b => decide); (case c => exact natAbs_small (by assumption)); k_whole)))
local macro_rules | `(tactic| walk_at "binaryOp RShift int int") => `(tactic| (k_here; (with_reducible show wpAny _ _ (binaryOp _ _ (Value.int 3 _)) _ _ _); (with_reducible refine shr3 (by with_reducible assumption) ?_); intro _ _ _))
local macro_rules | `(tactic| walk_at "binaryOp RShift int int") => `(tactic| (k_here; (with_reducible show wpAny _ _ (binaryOp _ _ (Value.int 6 _)) _ _ _); (with_reducible refine shr6 (by with_reducible assumption) ?_); intro _ _))
local macro_rules | `(tactic| walk_at "binaryOp BitAnd int int") => `(tactic| (k_here; (with_reducible show wpAny _ _ (binaryOp _ _ (Value.int 7 _)) _ _ _); (with_reducible refine and7 (by with_reducible assumption) ?_); intro _ _))
section
variable {w : World} {lo : List Str} {mean : ExcName → Option Value} {mg mb : Str → Option Value} {dp un : Nat} {gd : Option (List Code)} {cn : Str} {cs : Scope} {L a : Addr} {ccd : Value} {cl : List (Str × Addr)} {outer : List Env}
    {A₀ : Around} {base h₀ : Heap} {m : Str → Option Value} {rest : List (Addr × Obj)} {s : Shared} {Q E : Value → Shared → Prop}
theorem back_spec {cx dx mx px tx : Nat} {kt : Nat → Nat} {r ss ix iy i iff1 mode halt held states num : Value} {sp pc place iff2 : Int} {t2 : Nat} {ref : Value} {tsp tpc tpl tc : Nat} {mv pv : List Value} {mn : List Int} {nn pn : Nat} {code : Int}
    (hcode : code = 77 ∨ code = 69)
    (C : Cx w lo mean mg mb dp un cs outer A₀ base h₀ L m s.heap 20)
    (N : News h₀ L s.heap ((cpuL w.params cx dx mx kt r ss ix iy (.int sp tsp) (.int pc tpc) i ref iff1 (.int iff2 t2) mode halt held states mv nn ++ [(px, listOf (pv ++ [Value.ref tx]).toArray pn)]) ++ rest)) (ht : (tx, tup2 num (.int place tpl)) ∈ rest)
    (hoff : OwnOff rest [cx, dx, mx, px])
    (ho : mx < dx ∧ dx < cx ∧ cx < px)
    (hmv : IntsAre mv mn) (hml : mn.length = 256) (hmb : ∀ j, 0 ≤ mn.getD j 0 ∧ mn.getD j 0 < 256) (hsp : 0 ≤ sp) (hsp2 : sp ≤ 254) (hpl : pv.length ≤ 100)
    (hpc : mn.getD sp.toNat 0 + 256 * mn.getD (sp + 1).toNat 0 = place)
    (hret : ∀ (tsp' tpc' : Nat) (h' : Heap) (tk' : Nat), Fr h₀ L h' m →
      News h₀ L h' ((cpuL w.params cx dx mx kt r ss ix iy (.int (sp + 2) tsp') (.int place tpc') i ref (.int iff2 t2) (.int iff2 t2) mode halt held states mv nn ++ [(px, listOf pv.toArray (pn + 1))]) ++ rest) → Q (.bool true) { s with heap := h', toks := tk' }) :
    wpAny (model prg w) (ktrTop dp un gd cn cs L a ccd cl outer) (call (.ref 447) [.ref cx, .ref mx, .ref px, .int code tc]) Q E s := by
  obtain ⟨B, F, X, T, hk, hdp, hun⟩ := C
  obtain ⟨q1, q2, q3⟩ := ho
  have w1 : 0 ≤ sp := hsp
  have NK : Kept _ := ⟨N⟩
  k_dflt refine' call_rest2 (args := ⟨[.ref cx, .ref mx, .ref px, .int code tc], []⟩) (bl := [(Str.ofString "code", .int code tc), (Str.ofString "pile", .ref px), (Str.ofString "memory", .ref mx), (Str.ofString "cpu", .ref cx)]) B F X N hoff T rfl rfl hk ?k6 ?k7 ?k8 ?k9 ?kB ?kL ?_ ?c2 ?c3 ?c4 ?c5
  (case k6 => k_is)
  (case k7 => k_is)
  (case k8 => k_room)
  (case k9 => exact BindsTo.of_eq rfl)
  (case c5 => decide)
  (case kB => exact locs rfl)
  (case kL => rfl)
  (case c2 => exact rfl)
  (case c3 => exact rfl)
  (case c4 => exact rfl)
  clear N F
  intro g' L' h' tk' F' N' B' X' T' hr'
  k_fold
  have gt : g'.get? tx = some (tup2 num (.int place tpl)) := hr' _ ht
  clear hr'
  dsimp only [cpuL, tup2, List.cons_append, List.nil_append] at N' gt
  have ev : (Builtin.bitOr (mn.getD (sp.fmod ↑mn.length).toNat 0) (mn.getD ((Builtin.bitAnd (sp + 1) 65535).fmod ↑mn.length).toNat 0 * 2 ^ Int.toNat 8)) = place := (back_val hml hmb hsp hsp2).trans hpc
  have es : Builtin.bitAnd (sp + 2) 65535 = sp + 2 := by rw [bitAnd_m16]; omega
  have hret2 : ∀ (v p q : Int) (tsp' tpc' : Nat) (h' : Heap) (tk' : Nat), p = place → q = sp + 2 → Fr h₀ L h' m →
      News h₀ L h' ((cpuL w.params cx dx mx kt r ss ix iy (.int q tsp') (.int p tpc') i ref (.int iff2 t2) (.int iff2 t2) mode halt held states mv nn ++ [(px, listOf pv.toArray (pn + 1))]) ++ rest) → Q (.bool (p == place)) { s with heap := h', toks := tk' } := by
    intro v p q tsp' tpc' h' tk' e1 e2 F N
    subst e1
    subst e2
    have hb : (p == p) = true := by simp
    rw [hb]
    exact hret _ _ _ _ F N
  clear hret
  repeat' (first | (k_unfold; (try dsimp only)) | (refine Mine.stop_go ?_; first | ((with_reducible show wpAny _ _ (call (Value.builtin _) [Value.ref _]) _ _ _); k_dflt (refine' my_pop ?F ?N ?U ?z ?_; (case F => k_asm); (case N => k_asm); (case U => k_upd); (case z => assumption); k_whole); intro h' F' N'; (try k_sweep))) | (k_end; wrow_close) | (walk1; all_goals (try dsimp only); all_goals (try (with_reducible refine Mine.wp_tok ?_; intro _))) | (dsimp only; walk1) | (leave1; walk_say "STEP leave1"; try dsimp only))
  exact fun hr => hret2 0 _ _ _ _ _ _ ev es (by assumption) (news_join NK.out (News.sel (by assumption) (by tb_start)) hr)
end
end
section
open PySem PySem.W PyProof.Rows PySem.Spec PySem.Calls
theorem off10 : True := by (w_top off; trivial)
def notNone : Value → Bool
  | .none => false
  | _ => true
section
variable {prog : Program} {w : World} {A : Around} {E : Value → Shared → Prop} {s : Shared} {env : Env}
theorem comp_core {x1 x2 : Str} {pe p1 p2 tp pc1 pc2 pz pos : Pos} {kk kz : Nat} {iter : PySem.Expr} {scope : Scope} {RR : Value → Env → Result → Shared → Prop} (ps : List (Value × Value)) {l : Addr} {its : Array Value}
    (hh : A.handled = none) (hcell : ∀ y ∈ scope.names, y.2 ≠ .cell) (hkind : scope.kind = .function)
    (hx1 : scope.names.lookup x1 = some .local) (hx2 : scope.names.lookup x2 = some .local) (hne : x1 ≠ x2) (hd1 : (x1 == ("__debug__" : Str)) = false)
    (hl : s.heap.IsList l its) (hsz : its.size ≤ sizeLine) (hlen : its.size = ps.length) (hit : ∀ (i : Nat) (p : Value × Value), ps[i]? = some p → ∃ t : Addr, its[i]? = some (Value.ref t) ∧ IsTup s.heap t #[p.1, p.2])
    (hv : ∀ p ∈ ps, p.1 = Value.none ∨ ∃ (i : Int) (t : Nat), p.1 = Value.int i t)
    (h : ∀ (D C : Addr) (h' : Heap) (tk : Nat) (ys : Array Value) (n : Nat) (m : Str → Option Value), @LE.le Nat _ s.heap.objs.size D → s.heap.get? D = none → s.heap.get? C = none → @Ne Nat D C → h'.Ns C m → h'.get? D = some { cls := .type "list", data := .seq ys n } → ys.toList = (ps.map (·.1)).filter notNone → (∀ b o, s.heap.get? b = some o → h'.get? b = some o) →
      RR (.ref D) (compEnv scope C env) (.ok .next) { s with heap := h', toks := tk }) :
    wpAny (model prog w) A (newList []) (fun acc s₃ => wpAny (model prog w) A (newFunctionEnv scope env.globals [] [] env.qual none .none (some env)) (fun cenv s₄ =>
      codeAny (model prog w) A (.compStart (.ListComp (.Name x1 pe) [⟨.Tuple [.Name x1 p1, .Name x2 p2] kk tp, iter, [.Compare (.Name x1 pc1) [.IsNot] [.Constant .none kz pz] pc2], 0⟩] scope pos) 0 (.ref s.heap.objs.size) acc { cenv with scope := scope }) (RR acc { cenv with scope := scope }) s₄) E s₃) E { s with heap := s.heap.push { cls := .type "list_iterator", data := .fields #[.ref l, .int 0 0] } } := by
  refine wpAny_newObj_type (wpAny_newFunctionEnv hcell (by intro y hy; simp at hy) (fun h₁ hns₁ hsb₁ => ?_) hkind)
  dsimp only at hns₁ hsb₁ ⊢
  obtain ⟨ol, hol, _⟩ := id hl
  have hlt : l < s.heap.objs.size := Heap.lt_size hol
  generalize hH1 : s.heap.push { cls := .type "list_iterator", data := .fields #[.ref l, .int 0 0] } = H1 at hns₁ hsb₁ ⊢
  generalize hH2 : H1.push { cls := .type "list", dict := none, data := .seq ([] : List Value).toArray } = H2 at hns₁ hsb₁ ⊢
  generalize hI : s.heap.objs.size = I at *
  generalize hD : H1.objs.size = D at *
  generalize hC : H2.objs.size = C at *
  have eD : D = I + 1 := by rw [← hD, ← hH1, Heap.size_push, hI]
  have eC : C = I + 2 := by rw [← hC, ← hH2, Heap.size_push, hD, eD]
  have old1 : ∀ b o, s.heap.get? b = some o → H1.get? b = some o := fun b o e => hH1 ▸ Heap.get?_push_of_some _ e
  have old2 : ∀ b o, H1.get? b = some o → H2.get? b = some o := fun b o e => hH2 ▸ Heap.get?_push_of_some _ e
  have hsI : ∀ (b : Nat) (o : Obj), s.heap.get? b = some o → @LT.lt Nat _ b I := fun b o e => hI ▸ Heap.lt_size e
  have nIC : @Ne Nat I C := by omega
  have nID : @Ne Nat I D := by omega
  have nDC : @Ne Nat D C := by omega
  have bI : ∀ (b : Nat) (o : Obj), s.heap.get? b = some o → @Ne Nat b I := fun b o e => Nat.ne_of_lt (hsI b o e)
  have bD : ∀ (b : Nat) (o : Obj), s.heap.get? b = some o → @Ne Nat b D := fun b o e => by have := hsI b o e; omega
  have bC : ∀ (b : Nat) (o : Obj), s.heap.get? b = some o → @Ne Nat b C := fun b o e => by have := hsI b o e; omega
  have hI1 : H1.get? I = some { cls := .type "list_iterator", data := .fields #[.ref l, .int 0 0] } := by
    rw [← hH1, ← hI]; exact Heap.get?_push_size _ rfl
  have hD2 : H2.get? D = some { cls := .type "list", dict := none, data := .seq ([] : List Value).toArray } := by
    rw [← hH2, ← hD]; exact Heap.get?_push_size _ rfl
  have up₁ : ∀ b o, b ≠ C → H2.get? b = some o → h₁.get? b = some o := fun b o hb e => hsb₁.extBut b o hb (Heap.get?_push_of_some _ e)
  have hit₁ : h₁.IsListIter I l 0 := ⟨_, up₁ _ _ nIC (old2 _ _ hI1), rfl, rfl⟩
  have hacc₁ : h₁.PlainList D #[] := ⟨_, up₁ _ _ nDC hD2⟩
  have oldS : ∀ b o, s.heap.get? b = some o → h₁.get? b = some o := fun b o e => up₁ b o (bC b o e) (old2 _ _ (old1 _ _ e))
  have hp : ((compEnv scope C env).scope.kind == .class || ((compEnv scope C env).scope.kind == .module && (compEnv scope C env).locals != (compEnv scope C env).globals)) = false := by simp [compEnv, hkind]
  have loop : ∀ (RR : Result → Shared → Prop), (∀ m h' tk (ys : Array Value), h'.Ns C m → h'.PlainList D ys → ys.toList = (ps.map (·.1)).filter notNone → (∀ b o, s.heap.get? b = some o → h'.get? b = some o) → RR (.ok .next) { s with heap := h', toks := tk }) →
      codeAny (model prog w) A (.compLoop (.ListComp (.Name x1 pe) [⟨.Tuple [.Name x1 p1, .Name x2 p2] kk tp, iter, [.Compare (.Name x1 pc1) [.IsNot] [.Constant .none kz pz] pc2], 0⟩] scope pos) 0 (.ref I) (.ref D) (compEnv scope C env)) RR
        { s with heap := h₁, toks := s.toks } := by
    intro RR hRR
    refine kct_loop (fun k s' => ∃ h' tk i ys m, s' = { s with heap := h', toks := tk } ∧ i ≤ ps.length ∧ k = ps.length + 1 - i ∧ h'.IsListIter I l i ∧ h'.PlainList D ys ∧ ys.toList = ((ps.take i).map (·.1)).filter notNone ∧ h'.Ns C m ∧ (∀ b o, s.heap.get? b = some o → h'.get? b = some o)) ?_ (ps.length + 1)
      ⟨h₁, _, 0, #[], _, rfl, Nat.zero_le _, rfl, hit₁, hacc₁, by simp, hns₁, oldS⟩
    rintro k s' ⟨h', tk, i, ys, m, rfl, hi, rfl, hit', hacc', hys, hn', old'⟩
    have hl' : h'.IsList l its := hl.at fun o e => old' l o e
    by_cases hlt' : i < ps.length
    · obtain ⟨t, ht, hT⟩ := hit i ps[i] (List.getElem?_eq_getElem hlt')
      refine wpAny_pyNext_list_item hit' hl' ht fun h₂ hit₂ hs₂ => ?_
      have old2' : ∀ b o, s.heap.get? b = some o → h₂.get? b = some o := fun b o e => hs₂.extBut b o (bI b o e) (old' b o e)
      refine wpAny_letOwnedTupleGo_listiter hit₂ ?_
      refine assign_Tuple_tuple hh (IsTup.keeps hT old2') rfl rfl fun h₅ he => ?_
      have he' : ∀ b o, h₂.get? b = some o → h₅.get? b = some o := fun b o e => he b o (Nat.ne_of_lt (Heap.lt_size e)) e
      have hn₅ : h₅.Ns C m := (hn'.at' fun o e => hs₂.extBut _ o (Ne.symm nIC) e).at' fun o e => he' _ o e
      refine assignInOrder_cons (wpAny_assign_Name (wpAny_storeName_local (env := compEnv scope C env) hx1 hn₅ (fun h₆ hn₆ hs₆ => ?_) hp))
      refine assignInOrder_cons (wpAny_assign_Name (wpAny_storeName_local (env := compEnv scope C env) hx2 hn₆ (fun h₇ hn₇ hs₇ => ?_) hp))
      refine assignInOrder_nil ?_
      have up : ∀ b o, b ≠ C → h₂.get? b = some o → h₇.get? b = some o := fun b o hb e => hs₇.extBut b o hb (hs₆.extBut b o hb (he' b o e))
      have old7 : ∀ b o, s.heap.get? b = some o → h₇.get? b = some o := fun b o e => up b o (bC b o e) (old2' b o e)
      have hit₇ : h₇.IsListIter I l (i + 1) := hit₂.at fun o e => up I o nIC e
      have hacc₇ : h₇.PlainList D ys := (hacc'.extBut hs₂.extBut (Ne.symm nID)).at fun o e => up D o nDC e
      have hnum : (fun y => if y = x2 then some ps[i].2 else if y = x1 then some ps[i].1 else m y) x1 = some ps[i].1 := by simp [hne]
      have htake : (ps.take (i + 1)).map (·.1) = (ps.take i).map (·.1) ++ [ps[i].1] := by rw [List.take_add_one, List.getElem?_eq_getElem hlt', List.map_append]; rfl
      have cont : ∀ (h' : Heap) (tk : Nat) (ys : Array Value) m, h'.IsListIter I l (i + 1) → h'.PlainList D ys → ys.toList = ((ps.take (i + 1)).map (·.1)).filter notNone → h'.Ns C m → (∀ b o, s.heap.get? b = some o → h'.get? b = some o) →
          ∃ q, q < ps.length + 1 - i ∧ (∃ h'' tk' i ys m, ({ s with heap := h', toks := tk } : Shared) = { s with heap := h'', toks := tk' } ∧ i ≤ ps.length ∧ q = ps.length + 1 - i ∧ h''.IsListIter I l i ∧ h''.PlainList D ys ∧ ys.toList = ((ps.take i).map (·.1)).filter notNone ∧ h''.Ns C m ∧ (∀ b o, s.heap.get? b = some o → h''.get? b = some o)) :=
        fun h' tk ys m a b c d e => ⟨ps.length + 1 - (i + 1), by omega, h', tk, i + 1, ys, m, rfl, hlt', rfl, a, b, c, d, e⟩
      refine wpAny_isTrue_Compare1 (wpAny_Name (wpAny_loadName_local (env := compEnv scope C env) hkind hx1 hn₇ hnum ?_) hd1)
      refine wpAny_Constant_none ?_
      have hysz : ys.size ≤ sizeLine := by
        have e1 : ys.toList.length ≤ i := by rw [hys]; exact Nat.le_trans (List.length_filter_le _ _) (by simp; omega)
        have e2 : ys.toList.length = ys.size := by simp
        omega
      rcases hv ps[i] (List.getElem_mem hlt') with e | ⟨j, tj, e⟩ <;> rw [e]
      · refine isnot_none_none (wpAny_truthy_bool ?_)
        simp only [Bool.false_eq_true, if_false]
        refine cont _ _ ys _ hit₇ hacc₇ ?_ hn₇ old7
        rw [htake, e, List.filter_append, hys]
        simp [notNone]
      · refine isnot_int_none (wpAny_truthy_bool ?_)
        simp only [if_true]
        refine wpAny_Name (wpAny_loadName_local (env := compEnv scope C env) hkind hx1 hn₇ hnum ?_) hd1
        refine wpAny_list_append_plain (hsz := hysz) hacc₇ fun h₈ hl₈ hs₈ => ?_
        refine cont _ _ _ _ (hit₇.at fun o e => hs₈.extBut I o nID e) hl₈ ?_ (hn₇.sameBut hs₈ (Ne.symm nDC)) (fun b o e => hs₈.extBut b o (bD b o e) (old7 b o e))
        rw [htake, e, List.filter_append]
        rw [Array.toList_push, hys]
        rfl
    · have hin : i = ps.length := by omega
      subst hin
      refine wpAny_pyNext_list_end hh hit' hl' (by simp; omega) fun h₂ he₂ => ?_
      refine hRR m h₂ tk ys (hn'.at' fun o e => he₂ _ o (Ne.symm nIC) e) (hacc'.at fun o e => he₂ _ o (Ne.symm nID) e) (by rw [hys, List.take_length]) (fun b o e => he₂ b o (bI b o e) (old' b o e))
  exact codeAny_compStart_list (loop _ fun m h' tk ys a b c d => by obtain ⟨nD, eD'⟩ := b; exact h D C h' tk ys nD m (by omega) (by cases e : s.heap.get? D with | none => rfl | some o => exact absurd rfl (bD _ _ e)) (by cases e : s.heap.get? C with | none => rfl | some o => exact absurd rfl (bC _ _ e)) nDC a eD' c d) (wpAny_pyIter_listiter hit₁ (loop _ fun m h' tk ys a b c d => by obtain ⟨nD, eD'⟩ := b; exact h D C h' tk ys nD m (by omega) (by cases e : s.heap.get? D with | none => rfl | some o => exact absurd rfl (bD _ _ e)) (by cases e : s.heap.get? C with | none => rfl | some o => exact absurd rfl (bC _ _ e)) nDC a eD' c d))
theorem comp_assign {x1 x2 y : Str} {pe p1 p2 tp pc1 pc2 pz pos py spos : Pos} {kk kz : Nat} {iter : PySem.Expr} {scope : Scope} {Q : Flow → Shared → Prop} (ps : List (Value × Value)) {l : Addr} {its : Array Value} {m : Str → Option Value}
    (hh : A.handled = none)
    (hsw : swapsWith (.ListComp (.Name x1 pe) [⟨.Tuple [.Name x1 p1, .Name x2 p2] kk tp, iter, [.Compare (.Name x1 pc1) [.IsNot] [.Constant .none kz pz] pc2], 0⟩] scope pos) (some (.Name y py)) spos.line env = pure true)
    (hfree : ∀ y ∈ scope.names, y.2 ≠ .free) (hcell : ∀ y ∈ scope.names, y.2 ≠ .cell) (hkind : scope.kind = .function)
    (hnames : ∀ y ∈ scope.names, y.2 = .local → scope.names.lookup y.1 = some .local) (hx1 : scope.names.lookup x1 = some .local) (hx2 : scope.names.lookup x2 = some .local) (hne : x1 ≠ x2) (hd1 : (x1 == ("__debug__" : Str)) = false)
    (hy : env.kindOf y = some .local) (hp : (env.scope.kind == .class || (env.scope.kind == .module && env.locals != env.globals)) = false)
    (hn : s.heap.Ns env.locals m) (hl : s.heap.IsList l its) (hsz : its.size ≤ sizeLine) (hlen : its.size = ps.length) (hit : ∀ (i : Nat) (p : Value × Value), ps[i]? = some p → ∃ t : Addr, its[i]? = some (Value.ref t) ∧ IsTup s.heap t #[p.1, p.2])
    (hv : ∀ p ∈ ps, p.1 = Value.none ∨ ∃ (i : Int) (t : Nat), p.1 = Value.int i t)
    (hiter : ∀ Q' : Value → Shared → Prop, Q' (.ref l) s → wpAny (model prog w) A (eval iter env) Q' E s)
    (h : ∀ (D : Addr) (h' : Heap) (tk : Nat) (ys : Array Value) (n : Nat), @LE.le Nat _ s.heap.objs.size D → s.heap.get? D = none → @Ne Nat D env.locals → h'.get? D = some { cls := .type "list", data := .seq ys n } → ys.toList = (ps.map (·.1)).filter notNone →
      h'.Ns env.locals (fun z => if z = y then some (.ref D) else m z) → (∀ b o, @Ne Nat b env.locals → s.heap.get? b = some o → h'.get? b = some o) → Q .next { s with heap := h', toks := tk })
    (hs : ∀ x, foldedSetIterable iter env x = pure x := by intro _; rfl) :
    wpAny (model prog w) A (exec (.Assign [.Name y py] (.ListComp (.Name x1 pe) [⟨.Tuple [.Name x1 p1, .Name x2 p2] kk tp, iter, [.Compare (.Name x1 pc1) [.IsNot] [.Constant .none kz pz] pc2], 0⟩] scope pos) spos) env) Q E s := by
  rw [exec_Assign_Name_used _ _ _ _ hsw]
  refine wpAny_bind (wpAny_standAt (wpAny_bind ?_))
  show wpAny _ A (do let _ ← comprehension (.ListComp (.Name x1 pe) [⟨.Tuple [.Name x1 p1, .Name x2 p2] kk tp, iter, [.Compare (.Name x1 pc1) [.IsNot] [.Constant .none kz pz] pc2], 0⟩] scope pos) scope env _ (newList []) false (eval iter env) (some (assign (.Name y py) env))) _ _ s
  refine wpAny_bind (wpAny_mono (wpAny_comprehension_use (Q := fun _ s' => Q .next s') rfl hs hfree hkind hnames (hiter _ (wpAny_pyIter_list hl ?_))) (fun _ s' hq => wpAny_pure (wpAny_pure hq)) fun _ _ e => e)
  refine comp_core (RR := fun acc cenv r s' => match r with
      | .ok _ => wpAny (model prog w) A (assign (.Name y py) env acc) (fun _ s'' => ∃ m, s''.heap.Ns cenv.locals m ∧ ∀ h', Heap.SameBut cenv.locals s''.heap h' → Q .next { s'' with heap := h' }) E s'
      | .error x => ∃ m, s'.heap.Ns cenv.locals m ∧ ∀ h', Heap.SameBut cenv.locals s'.heap h' → wpAny (model prog w) A (PySem.passOn "comprehension.variables-let-go" x cenv) (fun _ s' => Q .next s') E { s' with heap := h' }) ps hh hcell hkind hx1 hx2 hne hd1 hl hsz hlen hit hv ?_
  intro D C h' tk ys n mC hDs hD hC hDC hnC hlD hys ho
  obtain ⟨oL, esL, epL, hoL, _⟩ := id hn
  have hLC : env.locals ≠ C := by rintro rfl; rw [hC] at hoL; cases hoL
  have hLD : env.locals ≠ D := by rintro rfl; rw [hD] at hoL; cases hoL
  refine wpAny_assign_Name (wpAny_storeName_local hy (hn.at' fun o e => ho _ o e) (fun h₂ hn₂ hs₂ => ?_) hp)
  refine ⟨mC, hnC.sameBut hs₂ (Ne.symm hLC), fun h₃ hs₃ => ?_⟩
  refine h D h₃ _ ys n hDs hD (Ne.symm hLD) (hs₃.extBut _ _ hDC (hs₂.extBut _ _ (Ne.symm hLD) hlD)) hys (hn₂.sameBut hs₃ hLC) fun b o hb e => ?_
  exact hs₃.extBut b o (by rintro rfl; rw [hC] at e; cases e) (hs₂.extBut b o hb (ho b o e))
end
end
section
open PySem PySem.W PyProof.Rows PySem.Spec PySem.Calls
theorem off11 : True := by (w_top off; trivial)
inductive PileIs (tl : List (Addr × Obj)) : List Value → List (Option Int × Int) → Prop
  | nil : PileIs tl [] []
  | cons {t : Addr} {nv : Value} {o : Option Int} {p : Int} {tp : Nat} {vs : List Value} {ds : List (Option Int × Int)} : IsOpt nv o → (t, tup2 nv (.int p tp)) ∈ tl → PileIs tl vs ds → PileIs tl (.ref t :: vs) ((o, p) :: ds)
theorem PileIs.length {tl : List (Addr × Obj)} {vs : List Value} {ds : List (Option Int × Int)} (h : PileIs tl vs ds) : vs.length = ds.length := by
  induction h with
  | nil => rfl
  | cons _ _ _ ih => rw [List.length_cons, List.length_cons, ih]
theorem PileIs.mono {tl tl' : List (Addr × Obj)} {vs : List Value} {ds : List (Option Int × Int)} (h : PileIs tl vs ds) (hs : ∀ p ∈ tl, p ∈ tl') : PileIs tl' vs ds := by
  induction h with
  | nil => exact .nil
  | cons a b _ ih => exact .cons a (hs _ b) ih
theorem PileIs.snoc {tl : List (Addr × Obj)} {vs : List Value} {ds : List (Option Int × Int)} (h : PileIs tl vs ds) {t : Addr} {nv : Value} {o : Option Int} {p : Int} {tp : Nat} (ho : IsOpt nv o) (hm : (t, tup2 nv (.int p tp)) ∈ tl) : PileIs tl (vs ++ [.ref t]) (ds ++ [(o, p)]) := by
  induction h with
  | nil => exact .cons ho hm .nil
  | cons a b _ ih => exact .cons a b ih
theorem PileIs.last {tl : List (Addr × Obj)} {vs : List Value} {ds : List (Option Int × Int)} (h : PileIs tl vs ds) : (vs = [] ∧ ds = []) ∨ ∃ (t : Addr) (nv : Value) (o : Option Int) (p : Int) (tp : Nat) (vs' : List Value) (ds' : List (Option Int × Int)), vs = vs' ++ [.ref t] ∧ ds = ds' ++ [(o, p)] ∧ IsOpt nv o ∧ (t, tup2 nv (.int p tp)) ∈ tl ∧ PileIs tl vs' ds' := by
  induction h with
  | nil => exact .inl ⟨rfl, rfl⟩
  | @cons t nv o p tp vs ds a b c ih =>
    right
    rcases ih with ⟨rfl, rfl⟩ | ⟨t', nv', o', p', tp', vs', ds', rfl, rfl, a', b', c'⟩
    · exact ⟨t, nv, o, p, tp, [], [], rfl, rfl, a, b, .nil⟩
    · exact ⟨t', nv', o', p', tp', .ref t :: vs', (o, p) :: ds', rfl, rfl, a', b', .cons a b c'⟩
theorem pile_pairs {tl : List (Addr × Obj)} {vs : List Value} {ds : List (Option Int × Int)} {g : Heap} (h : PileIs tl vs ds) (hr : ∀ p ∈ tl, g.get? p.1 = some p.2) :
    ∃ (ps : List (Value × Value)) (zs : List Value), vs.length = ps.length ∧ (∀ (i : Nat) (p : Value × Value), ps[i]? = some p → ∃ t : Addr, vs[i]? = some (Value.ref t) ∧ IsTup g t #[p.1, p.2]) ∧
      (∀ p ∈ ps, p.1 = Value.none ∨ ∃ (i : Int) (t : Nat), p.1 = Value.int i t) ∧ (ps.map (·.1)).filter notNone = zs ∧ IntsAre zs (ds.filterMap (·.1)) := by
  induction h with
  | nil => exact ⟨[], [], rfl, by simp, by simp, rfl, .nil⟩
  | @cons t nv o p tp vs ds a b c ih =>
    obtain ⟨ps, zs, e1, e2, e3, e4, e5⟩ := ih
    have hk : ∀ (i : Nat) (q : Value × Value), ((nv, Value.int p tp) :: ps)[i]? = some q → ∃ t' : Addr, (Value.ref t :: vs)[i]? = some (Value.ref t') ∧ IsTup g t' #[q.1, q.2] := by
      intro i q hq
      cases i with
      | zero => obtain rfl : (nv, Value.int p tp) = q := by simpa using hq
                exact ⟨t, rfl, _, hr _ b, rfl, _, rfl⟩
      | succ i => exact e2 i q (by simpa using hq)
    cases o with
    | none =>
      obtain rfl : nv = Value.none := a
      refine ⟨(Value.none, Value.int p tp) :: ps, zs, by rw [List.length_cons, List.length_cons, e1], hk, ?_, e4, e5⟩
      intro q hq
      rcases List.mem_cons.mp hq with rfl | hq
      · exact .inl rfl
      · exact e3 q hq
    | some i =>
      obtain ⟨ti, rfl⟩ := a
      refine ⟨(Value.int i ti, Value.int p tp) :: ps, Value.int i ti :: zs, by rw [List.length_cons, List.length_cons, e1], hk, ?_, ?_, .cons i ti e5⟩
      · intro q hq
        rcases List.mem_cons.mp hq with rfl | hq
        · exact .inr ⟨i, ti, rfl⟩
        · exact e3 q hq
      · rw [List.map_cons, List.filter_cons_of_pos rfl, e4]
end
section
open PySem PySem.W PyProof.Rows PySem.Spec
theorem off12 : True := by (w_top off; trivial)
theorem allObj_mono : ∀ {ws : List (Addr × String)} {k k' : List (Addr × Obj) → Prop}, AllObj ws k → (∀ its, k its → k' its) → AllObj ws k'
  | [], _, _, h, f => f _ h
  | w :: ws, k, k', h, f => fun o ho => allObj_mono (k := fun its => k ((w.1, o) :: its)) (h o ho) fun its hi => f _ hi
def Same3 (a b c : Str) (m₀ m : Str → Option Value) : Prop := ∀ z, z ≠ a → z ≠ b → z ≠ c → m z = m₀ z
theorem Same3.fr {a b c : Str} {m₀ m : Str → Option Value} {g h : Heap} {L : Addr} (hm : Same3 a b c m₀ m) (F : Fr g L h m) : Fr g L h (fun z => if z = a then m a else if z = b then m b else if z = c then m c else m₀ z) := by
  have e : (fun z => if z = a then m a else if z = b then m b else if z = c then m c else m₀ z) = m := by
    funext z
    by_cases h1 : z = a
    · rw [if_pos h1, h1]
    · rw [if_neg h1]
      by_cases h2 : z = b
      · rw [if_pos h2, h2]
      · rw [if_neg h2]
        by_cases h3 : z = c
        · rw [if_pos h3, h3]
        · rw [if_neg h3]; exact (hm z h1 h2 h3).symm
  rw [e]; exact F
section
variable {prog : Program} {w : World} {A : Around} {E : Value → Shared → Prop} {h₀ : Heap} {env : Env} {target : PySem.Expr} {body : List Stmt} {Q : Flow → Shared → Prop} {s : Shared} {ws : List (Addr × String)} {keep news tl : List (Addr × Obj)} {mn : List Int} {m₀ : Str → Option Value} {a b c : Str}
theorem items_ind (hkeep : SubL keep news)
    (turn : ∀ (k : Nat) (t : Addr) (nv : Value) (o : Option Int) (p : Int) (tp : Nat) (m : Str → Option Value), k < 12 → Same3 a b c m₀ m → IsOpt nv o → h₀.get? t = some (tup2 nv (.int p tp)) → mn.getD (254 - 2 * k) 0 + 256 * mn.getD (255 - 2 * k) 0 = p →
      ∀ T tt h tk, IsTup h T #[.int (k : Nat) tt, .ref t] → Fr h₀ env.locals h m → AllObj ws (fun its => News h₀ env.locals h (its ++ news) →
        wpAny (model prog w) A (assign target env (.ref T)) (fun _ s₂ => wpAny (model prog w) A (execs body env) (UnrPostW h₀ env.locals { s with heap := h, toks := tk } its (fun m' n' => n' = news ∧ Same3 a b c m₀ m') Q) E s₂) E { s with heap := h, toks := tk }))
    (done : ∀ m, Same3 a b c m₀ m → ∀ h tk, Fr h₀ env.locals h m → News h₀ env.locals h news → Q .next { s with heap := h, toks := tk })
    (hr : ∀ p ∈ tl, h₀.get? p.1 = some p.2) {vs : List Value} {ds : List (Option Int × Int)} (hp : PileIs tl vs ds) :
    ∀ (k : Nat), k + ds.length ≤ 12 → (∀ (j : Nat) p, ds[j]? = some p → mn.getD (254 - 2 * (k + j)) 0 + 256 * mn.getD (255 - 2 * (k + j)) 0 = p.2) → ∀ m, Same3 a b c m₀ m → ItemsRest prog w A E h₀ env target body Q s ws keep (enumItems k vs) m news := by
  induction hp with
  | nil => exact fun k _ _ m hm => ItemsRest.zero (done m hm)
  | @cons t nv o p tp vs ds ho hmem _ ih =>
    intro k hk hmn m hm
    refine ItemsRest.pair fun T tt h tk hT F => ?_
    have hmn0 := hmn 0 (o, p) rfl
    refine allObj_mono (turn k t nv o p tp m (by rw [List.length_cons] at hk; omega) hm ho (hr _ hmem) (by simpa using hmn0) T tt h tk hT F) fun its hi N => ?_
    refine wpAny_mono (hi N) (fun _ s₂ h₂ => wpAny_mono h₂ (fun f s₃ h₃ => ?_) fun _ _ e => e) fun _ _ e => e
    have up : UnrEndW h₀ env.locals { s with heap := h, toks := tk } its (fun m' n' => n' = news ∧ Same3 a b c m₀ m') s₃ → UnrEndW h₀ env.locals { s with heap := h, toks := tk } its (fun m' n' => SubL keep n' ∧ ItemsRest prog w A E h₀ env target body Q s ws keep (enumItems (k + 1) vs) m' n') s₃ := by
      rintro ⟨h', tk', m', news', e1, F', N', ho', rfl, hm'⟩
      refine ⟨h', tk', m', _, e1, F', N', ho', hkeep, ih (k + 1) (by rw [List.length_cons] at hk; omega) (fun j q hj => ?_) m' hm'⟩
      have := hmn (j + 1) q (by simpa using hj)
      rw [show k + (j + 1) = k + 1 + j by omega] at this
      exact this
    cases f with
    | ret v => exact h₃
    | brk => exact h₃
    | next => exact up h₃
    | cont => exact up h₃
end
end
section
open PySem PySem.W PyProof.Rows PySem.Spec PySem.Calls
theorem off13 : True := by (w_top off; trivial)
section
variable {prog : Program} {w : World} {A : Around} {E : Value → Shared → Prop} {s : Shared} {env : Env}
theorem assign_Tuple_list {elts : List PySem.Expr} {x1} {pos : Pos} {t : Addr} {items : Array Value} {Q : Unit → Shared → Prop} (hh : A.handled = none) (ht : s.heap.IsList t items)
    (hn : (assignEach elts env).length = items.size) (hstar : (assignEach elts env).findIdx? (·.1) = none)
    (h : ∀ h', Heap.ExtBut s.heap.objs.size s.heap h' → wpAny (model prog w) A (assignInOrder ((assignEach elts env).map (·.2)) items.toList) Q E { s with heap := h' }) :
    wpAny (model prog w) A (assign (.Tuple elts x1 pos) env (.ref t)) Q E s := by
  rw [assign_Tuple]
  refine wpAny_bind (wpAny_standAt ?_)
  unfold unpack
  rw [hn, hstar]
  exact wpAny_bind (wpAny_holding (kun_itemsOf hh ht h))
theorem diff_core {x1 x2 : Str} {pe pe2 pb p1 p2 tp pos : Pos} {kk : Nat} {iter : PySem.Expr} {scope : Scope} {RR : Value → Env → Result → Shared → Prop} (ps : List (Int × Int)) {l : Addr} {its : Array Value}
    (hh : A.handled = none) (hcell : ∀ y ∈ scope.names, y.2 ≠ .cell) (hkind : scope.kind = .function)
    (hx1 : scope.names.lookup x1 = some .local) (hx2 : scope.names.lookup x2 = some .local) (hne : x1 ≠ x2) (hd1 : (x1 == ("__debug__" : Str)) = false) (hd2 : (x2 == ("__debug__" : Str)) = false)
    (hl : s.heap.IsList l its) (hsz : its.size ≤ sizeLine) (hlen : its.size = ps.length) (hit : ∀ (i : Nat) (p : Int × Int), ps[i]? = some p → ∃ (t : Addr) (u v : Nat), its[i]? = some (Value.ref t) ∧ s.heap.IsList t #[Value.int p.1 u, Value.int p.2 v])
    (h : ∀ (D C : Addr) (h' : Heap) (tk : Nat) (ys : Array Value) (n : Nat) (m : Str → Option Value), @LE.le Nat _ s.heap.objs.size D → s.heap.get? D = none → s.heap.get? C = none → @Ne Nat D C → h'.Ns C m → h'.get? D = some { cls := .type "list", data := .seq ys n } → IntsAre ys.toList (ps.map fun p => p.1 - p.2) → (∀ b o, s.heap.get? b = some o → h'.get? b = some o) →
      RR (.ref D) (compEnv scope C env) (.ok .next) { s with heap := h', toks := tk }) :
    wpAny (model prog w) A (newList []) (fun acc s₃ => wpAny (model prog w) A (newFunctionEnv scope env.globals [] [] env.qual none .none (some env)) (fun cenv s₄ =>
      codeAny (model prog w) A (.compStart (.ListComp (.BinOp (.Name x1 pe) .Sub (.Name x2 pe2) pb) [⟨.Tuple [.Name x1 p1, .Name x2 p2] kk tp, iter, [], 0⟩] scope pos) 0 (.ref s.heap.objs.size) acc { cenv with scope := scope }) (RR acc { cenv with scope := scope }) s₄) E s₃) E { s with heap := s.heap.push { cls := .type "list_iterator", data := .fields #[.ref l, .int 0 0] } } := by
  refine wpAny_newObj_type (wpAny_newFunctionEnv hcell (by intro y hy; simp at hy) (fun h₁ hns₁ hsb₁ => ?_) hkind)
  dsimp only at hns₁ hsb₁ ⊢
  obtain ⟨ol, hol, _⟩ := id hl
  have hlt : l < s.heap.objs.size := Heap.lt_size hol
  generalize hH1 : s.heap.push { cls := .type "list_iterator", data := .fields #[.ref l, .int 0 0] } = H1 at hns₁ hsb₁ ⊢
  generalize hH2 : H1.push { cls := .type "list", dict := none, data := .seq ([] : List Value).toArray } = H2 at hns₁ hsb₁ ⊢
  generalize hI : s.heap.objs.size = I at *
  generalize hD : H1.objs.size = D at *
  generalize hC : H2.objs.size = C at *
  have eD : D = I + 1 := by rw [← hD, ← hH1, Heap.size_push, hI]
  have eC : C = I + 2 := by rw [← hC, ← hH2, Heap.size_push, hD, eD]
  have old1 : ∀ b o, s.heap.get? b = some o → H1.get? b = some o := fun b o e => hH1 ▸ Heap.get?_push_of_some _ e
  have old2 : ∀ b o, H1.get? b = some o → H2.get? b = some o := fun b o e => hH2 ▸ Heap.get?_push_of_some _ e
  have hsI : ∀ (b : Nat) (o : Obj), s.heap.get? b = some o → @LT.lt Nat _ b I := fun b o e => hI ▸ Heap.lt_size e
  have nIC : @Ne Nat I C := by omega
  have nID : @Ne Nat I D := by omega
  have nDC : @Ne Nat D C := by omega
  have bI : ∀ (b : Nat) (o : Obj), s.heap.get? b = some o → @Ne Nat b I := fun b o e => Nat.ne_of_lt (hsI b o e)
  have bD : ∀ (b : Nat) (o : Obj), s.heap.get? b = some o → @Ne Nat b D := fun b o e => by have := hsI b o e; omega
  have bC : ∀ (b : Nat) (o : Obj), s.heap.get? b = some o → @Ne Nat b C := fun b o e => by have := hsI b o e; omega
  have hI1 : H1.get? I = some { cls := .type "list_iterator", data := .fields #[.ref l, .int 0 0] } := by
    rw [← hH1, ← hI]; exact Heap.get?_push_size _ rfl
  have hD2 : H2.get? D = some { cls := .type "list", dict := none, data := .seq ([] : List Value).toArray } := by
    rw [← hH2, ← hD]; exact Heap.get?_push_size _ rfl
  have up₁ : ∀ b o, b ≠ C → H2.get? b = some o → h₁.get? b = some o := fun b o hb e => hsb₁.extBut b o hb (Heap.get?_push_of_some _ e)
  have hit₁ : h₁.IsListIter I l 0 := ⟨_, up₁ _ _ nIC (old2 _ _ hI1), rfl, rfl⟩
  have hacc₁ : h₁.PlainList D #[] := ⟨_, up₁ _ _ nDC hD2⟩
  have oldS : ∀ b o, s.heap.get? b = some o → h₁.get? b = some o := fun b o e => up₁ b o (bC b o e) (old2 _ _ (old1 _ _ e))
  have hp : ((compEnv scope C env).scope.kind == .class || ((compEnv scope C env).scope.kind == .module && (compEnv scope C env).locals != (compEnv scope C env).globals)) = false := by simp [compEnv, hkind]
  have loop : ∀ (RR : Result → Shared → Prop), (∀ m h' tk (ys : Array Value), h'.Ns C m → h'.PlainList D ys → IntsAre ys.toList (ps.map fun p => p.1 - p.2) → (∀ b o, s.heap.get? b = some o → h'.get? b = some o) → RR (.ok .next) { s with heap := h', toks := tk }) →
      codeAny (model prog w) A (.compLoop (.ListComp (.BinOp (.Name x1 pe) .Sub (.Name x2 pe2) pb) [⟨.Tuple [.Name x1 p1, .Name x2 p2] kk tp, iter, [], 0⟩] scope pos) 0 (.ref I) (.ref D) (compEnv scope C env)) RR
        { s with heap := h₁, toks := s.toks } := by
    intro RR hRR
    refine LCp.codeAny_compLoop_pair (fun k s' => ∃ h' tk i ys m, s' = { s with heap := h', toks := tk } ∧ i ≤ ps.length ∧ k = ps.length + 1 - i ∧ h'.IsListIter I l i ∧ h'.PlainList D ys ∧ IntsAre ys.toList ((ps.take i).map fun p => p.1 - p.2) ∧ h'.Ns C m ∧ (∀ b o, s.heap.get? b = some o → h'.get? b = some o)) ?_ (ps.length + 1)
      ⟨h₁, _, 0, #[], _, rfl, Nat.zero_le _, rfl, hit₁, hacc₁, by simpa using IntsAre.nil, hns₁, oldS⟩
    rintro k s' ⟨h', tk, i, ys, m, rfl, hi, rfl, hit', hacc', hys, hn', old'⟩
    have hl' : h'.IsList l its := hl.at fun o e => old' l o e
    by_cases hlt' : i < ps.length
    · obtain ⟨t, u, v, ht, hT⟩ := hit i ps[i] (List.getElem?_eq_getElem hlt')
      refine wpAny_pyNext_list_item hit' hl' ht fun h₂ hit₂ hs₂ => ?_
      have old2' : ∀ b o, s.heap.get? b = some o → h₂.get? b = some o := fun b o e => hs₂.extBut b o (bI b o e) (old' b o e)
      refine wpAny_letOwnedTupleGo_listiter hit₂ ?_
      refine assign_Tuple_list hh (hT.at fun o e => old2' t o e) rfl rfl fun h₅ he => ?_
      have he' : ∀ b o, h₂.get? b = some o → h₅.get? b = some o := fun b o e => he b o (Nat.ne_of_lt (Heap.lt_size e)) e
      have hn₅ : h₅.Ns C m := (hn'.at' fun o e => hs₂.extBut _ o (Ne.symm nIC) e).at' fun o e => he' _ o e
      refine assignInOrder_cons (wpAny_assign_Name (wpAny_storeName_local (env := compEnv scope C env) hx1 hn₅ (fun h₆ hn₆ hs₆ => ?_) hp))
      refine assignInOrder_cons (wpAny_assign_Name (wpAny_storeName_local (env := compEnv scope C env) hx2 hn₆ (fun h₇ hn₇ hs₇ => ?_) hp))
      refine assignInOrder_nil ?_
      have up : ∀ b o, b ≠ C → h₂.get? b = some o → h₇.get? b = some o := fun b o hb e => hs₇.extBut b o hb (hs₆.extBut b o hb (he' b o e))
      have old7 : ∀ b o, s.heap.get? b = some o → h₇.get? b = some o := fun b o e => up b o (bC b o e) (old2' b o e)
      have hit₇ : h₇.IsListIter I l (i + 1) := hit₂.at fun o e => up I o nIC e
      have hacc₇ : h₇.PlainList D ys := (hacc'.extBut hs₂.extBut (Ne.symm nID)).at fun o e => up D o nDC e
      have hnum : (fun y => if y = x2 then some (Value.int ps[i].2 v) else if y = x1 then some (Value.int ps[i].1 u) else m y) x1 = some (Value.int ps[i].1 u) := by simp [hne]
      have hnum2 : (fun y => if y = x2 then some (Value.int ps[i].2 v) else if y = x1 then some (Value.int ps[i].1 u) else m y) x2 = some (Value.int ps[i].2 v) := by simp
      have htake : (ps.take (i + 1)).map (fun p => p.1 - p.2) = (ps.take i).map (fun p => p.1 - p.2) ++ [ps[i].1 - ps[i].2] := by rw [List.take_add_one, List.getElem?_eq_getElem hlt', List.map_append]; rfl
      have hysz : ys.size ≤ sizeLine := by
        have e1 := hys.length
        rw [List.length_map, List.length_take] at e1
        have e2 : ys.toList.length = ys.size := by simp
        omega
      refine wpAny_BinOp (wpAny_Name (wpAny_loadName_local (env := compEnv scope C env) hkind hx1 hn₇ hnum (wpAny_Name (wpAny_loadName_local (env := compEnv scope C env) hkind hx2 hn₇ hnum2 (sub_int ?_)) hd2)) hd1)
      refine wpAny_list_append_plain (hsz := hysz) hacc₇ fun h₈ hl₈ hs₈ => ?_
      refine ⟨ps.length + 1 - (i + 1), by omega, h₈, _, i + 1, _, _, rfl, hlt', rfl, hit₇.at fun o e => hs₈.extBut I o nID e, hl₈, ?_, hn₇.sameBut hs₈ (Ne.symm nDC), fun b o e => hs₈.extBut b o (bD b o e) (old7 b o e)⟩
      rw [htake, Array.toList_push]
      exact hys.append (.cons _ _ .nil)
    · have hin : i = ps.length := by omega
      subst hin
      refine wpAny_pyNext_list_end hh hit' hl' (by simp; omega) fun h₂ he₂ => ?_
      refine hRR m h₂ tk ys (hn'.at' fun o e => he₂ _ o (Ne.symm nIC) e) (hacc'.at fun o e => he₂ _ o (Ne.symm nID) e) (by rw [List.take_length] at hys; exact hys) (fun b o e => he₂ b o (bI b o e) (old' b o e))
  exact codeAny_compStart_list (loop _ fun m h' tk ys a b c d => by obtain ⟨nD, eD'⟩ := b; exact h D C h' tk ys nD m (by omega) (by cases e : s.heap.get? D with | none => rfl | some o => exact absurd rfl (bD _ _ e)) (by cases e : s.heap.get? C with | none => rfl | some o => exact absurd rfl (bC _ _ e)) nDC a eD' c d) (wpAny_pyIter_listiter hit₁ (loop _ fun m h' tk ys a b c d => by obtain ⟨nD, eD'⟩ := b; exact h D C h' tk ys nD m (by omega) (by cases e : s.heap.get? D with | none => rfl | some o => exact absurd rfl (bD _ _ e)) (by cases e : s.heap.get? C with | none => rfl | some o => exact absurd rfl (bC _ _ e)) nDC a eD' c d))
theorem diff_eval {x1 x2 : Str} {pe pe2 pb p1 p2 tp pos : Pos} {kk : Nat} {iter : PySem.Expr} {scope : Scope} {Q : Value → Shared → Prop} (ps : List (Int × Int)) {l : Addr} {its : Array Value}
    (hh : A.handled = none) (hfree : ∀ y ∈ scope.names, y.2 ≠ .free) (hcell : ∀ y ∈ scope.names, y.2 ≠ .cell) (hkind : scope.kind = .function)
    (hnames : ∀ y ∈ scope.names, y.2 = .local → scope.names.lookup y.1 = some .local) (hx1 : scope.names.lookup x1 = some .local) (hx2 : scope.names.lookup x2 = some .local) (hne : x1 ≠ x2) (hd1 : (x1 == ("__debug__" : Str)) = false) (hd2 : (x2 == ("__debug__" : Str)) = false)
    (hl : s.heap.IsList l its) (hsz : its.size ≤ sizeLine) (hlen : its.size = ps.length) (hit : ∀ (i : Nat) (p : Int × Int), ps[i]? = some p → ∃ (t : Addr) (u v : Nat), its[i]? = some (Value.ref t) ∧ s.heap.IsList t #[Value.int p.1 u, Value.int p.2 v])
    (hiter : ∀ Q' : Value → Shared → Prop, Q' (.ref l) s → wpAny (model prog w) A (eval iter env) Q' E s)
    (h : ∀ (D : Addr) (h' : Heap) (tk : Nat) (ys : Array Value) (n : Nat), @LE.le Nat _ s.heap.objs.size D → s.heap.get? D = none → h'.get? D = some { cls := .type "list", data := .seq ys n } → IntsAre ys.toList (ps.map fun p => p.1 - p.2) →
      (∀ b o, s.heap.get? b = some o → h'.get? b = some o) → Q (.ref D) { s with heap := h', toks := tk })
    (hs : ∀ x, foldedSetIterable iter env x = pure x := by intro _; rfl) :
    wpAny (model prog w) A (eval (.ListComp (.BinOp (.Name x1 pe) .Sub (.Name x2 pe2) pb) [⟨.Tuple [.Name x1 p1, .Name x2 p2] kk tp, iter, [], 0⟩] scope pos) env) Q E s := by
  refine wpAny_ListComp hfree hkind hnames (hiter _ (wpAny_pyIter_list hl ?_)) hs
  refine diff_core (RR := fun acc cenv r s' => ∃ m, s'.heap.Ns cenv.locals m ∧ ∀ h', Heap.SameBut cenv.locals s'.heap h' →
    match r with | .ok _ => Q acc { s' with heap := h' } | .error x => wpAny (model prog w) A (PySem.passOn "comprehension.variables-let-go" x cenv) Q E { s' with heap := h' }) ps hh hcell hkind hx1 hx2 hne hd1 hd2 hl hsz hlen hit ?_
  intro D C h' tk ys n m hDs hD hC hDC hn hlD hys ho
  exact ⟨m, hn, fun h'' hs'' => h D h'' tk ys n hDs hD (hs''.extBut _ _ hDC hlD) hys fun b o e => hs''.extBut b o (by rintro rfl; rw [hC] at e; cases e) (ho b o e)⟩
end
end
section
open PySem PySem.W PyProof.Rows PySem.Spec
theorem off14 : True := by (w_top off; trivial)
theorem ats_perm (s0 s1 s2 s3 : Bool) : (ats s0 s1 s2 s3).Perm (nums s0 s1 s2 s3) := by cases s0 <;> cases s1 <;> cases s2 <;> cases s3 <;> decide
theorem ats_sorted (s0 s1 s2 s3 : Bool) : (ats s0 s1 s2 s3).Pairwise (· ≤ ·) := by cases s0 <;> cases s1 <;> cases s2 <;> cases s3 <;> decide
theorem ats_rev (s0 s1 s2 s3 : Bool) : nums s0 s1 s2 s3 = (ats s0 s1 s2 s3).reverse := by cases s0 <;> cases s1 <;> cases s2 <;> cases s3 <;> decide
theorem sort_ats {l l' : List Int} {s0 s1 s2 s3 : Bool} (p : l'.Perm l) (o : l'.Pairwise (· ≤ ·)) (e : l = nums s0 s1 s2 s3) : l' = ats s0 s1 s2 s3 := lks_uniq (p.trans (e ▸ (ats_perm s0 s1 s2 s3).symm)) o (ats_sorted ..)
section
variable {prog : Program} {w : World} {A : Around} {E : Value → Shared → Prop} {s : Shared} {g : Heap} {L : Addr} {news : List (Addr × Obj)}
theorem ne_same {a b : Addr} {vs us : List Value} {ns ms : List Int} {Q : Value → Shared → Prop} (hl : s.heap.IsList a vs.toArray) (hi : IntsAre vs ns) (hl' : s.heap.IsList b us.toArray) (hi' : IntsAre us ms) (hu : A.units + 64 < cLine) (e : ns = ms)
    (h : Q (.bool false) s) : wpAny (model prog w) A (compareOp .NotEq (.ref a) (.ref b)) Q E s := ne_intsK hl hi hl' hi' hu (by rw [decide_eq_true e]; exact h)
end
theorem inst_base {g h : Heap} {L : Addr} {m : Str → Option Value} {C x dx : Addr} {od : Obj} {sl : Array (Option Value)} (F : Fr g L h m) (h1 : g.get? x = some (⟨.ref C, some dx, .plain, sl⟩ : Obj)) (h2 : g.get? dx = some od) : InstAt h x ⟨.ref C, some dx, .plain, sl⟩ C (some od) := ⟨F.keep _ _ h1, rfl, rfl, F.keep _ _ h2⟩
local macro_rules | `(tactic| k_inst) => `(tactic| (refine' inst_base ?F ?h1 ?h2; (case F => k_asm); (case h1 => assumption); (case h2 => assumption)))
theorem list_base {g h : Heap} {L : Addr} {m : Str → Option Value} {a : Addr} {l : List Value} (F : Fr g L h m) (hl : g.IsList a l.toArray) : h.IsList a l.toArray := hl.at fun o e => F.keep a o e
local macro_rules | `(tactic| walk_at "subscriptTail") => `(tactic| (k_here; (with_reducible show wpAny _ _ (subscriptTail _ _ (Value.ref _) (Value.int _ _)) _ _ _); k_dflt (refine' item_listL (list_base ?F ?a) ?b ?c ?d ?_; (case F => k_asm); (case a => with_reducible assumption); (case b => decide); (case c => decide); (case d => rfl); k_whole)))
local macro_rules | `(tactic| walk_at "subscriptTail Name Name ref int") => `(tactic| (k_here; (with_reducible show wpAny _ _ (subscriptTail _ _ (Value.ref _) (Value.int _ _)) _ _ _); k_dflt (refine' item_listL (list_base ?F ?a) ?b ?c ?d ?_; (case F => k_asm); (case a => with_reducible assumption); (case b => decide); (case c => decide); (case d => rfl); k_whole)))
theorem led_list {g h : Heap} {L : Addr} {news : List (Addr × Obj)} {D : Addr} {vs : List Value} {n : Nat} (N : News g L h news) (hm : (D, listOf vs.toArray n) ∈ news) : h.IsList D vs.toArray := ⟨_, (N _ hm).1, rfl, n, rfl⟩
local macro_rules | `(tactic| walk_at "call builtin:sorted") => `(tactic| (k_here; (with_reducible show wpAny _ _ (call (Value.builtin "sorted") [Value.ref _]) _ _ _); k_dflt (refine' kso_sorted ?k1 ?k2 ?k3 ?k4 ?k5 ?_; (case k1 => k_asm); (case k2 => k_asm); (case k3 => exact led_list (by k_asm) (by k_mem)); (case k4 => with_reducible assumption); (case k5 => with_reducible assumption); k_whole); intro D' v' n' c' h' F' N' l1 i' e' p' o' b'; clear b'; (try k_lt l1); (have e9 := sort_ats p' o' (by with_reducible assumption)); clear p' o' e'; subst e9))
local macro_rules | `(tactic| walk_at "compareOp NotEq ref ref") => `(tactic| (k_here; (with_reducible show wpAny _ _ (compareOp CmpOp.NotEq (Value.ref _) (Value.ref _)) _ _ _); k_dflt (refine' ne_intsK ?k1 ?k2 ?k3 ?k4 ?k5 ?_; (case k1 => exact led_list (by k_asm) (by k_mem)); (case k2 => with_reducible assumption); (case k3 => exact led_list (by k_asm) (by k_mem)); (case k4 => with_reducible assumption); (case k5 => ktr_units); k_whole)))
local macro_rules | `(tactic| walk_at "compareOp NotEq ref ref") => `(tactic| (k_here; (with_reducible show wpAny _ _ (compareOp CmpOp.NotEq (Value.ref _) (Value.ref _)) _ _ _); k_dflt (refine' ne_same ?k1 ?k2 ?k3 ?k4 ?k5 ?k6 ?_; (case k1 => exact led_list (by k_asm) (by k_mem)); (case k2 => with_reducible assumption); (case k3 => exact led_list (by k_asm) (by k_mem)); (case k4 => with_reducible assumption); (case k5 => ktr_units); (case k6 => first | (with_reducible exact rfl) | (with_reducible assumption)); k_whole)))
local macro_rules | `(tactic| walk_at "call builtin:len") => `(tactic| (k_here; (with_reducible show wpAny _ _ (call (Value.builtin "len") [Value.ref _]) _ _ _); k_dflt (refine' my_len ?N ?m ?e ?k ?_; (case N => k_asm); (case m => k_mem); (case e => with_reducible assumption); (case k => omega); k_whole); intro t' tk'))
local macro_rules | `(tactic| walk_at "compareOp Eq ref ref") => `(tactic| (k_here; (with_reducible show wpAny _ _ (compareOp CmpOp.Eq (Value.ref _) (Value.ref _)) _ _ _); k_dflt (refine' eq_intsK ?k1 ?k2 ?k3 ?k4 ?k5 ?_; (case k1 => exact led_list (by k_asm) (by k_mem)); (case k2 => with_reducible assumption); (case k3 => exact led_list (by k_asm) (by k_mem)); (case k4 => first | (with_reducible assumption) | (repeat' (first | exact IntsAre.nil | refine IntsAre.cons _ _ ?_))); (case k5 => ktr_units); k_whole)))
local macro_rules | `(tactic| walk_at "exec For Tuple Call cons nil") => `(tactic| (k_here; (rename Fr _ _ _ _ => lF'); (with_unfolding_all refine' For_turns lF' ?_; k_whole)))
local macro_rules | `(tactic| walk_at "eval ListComp") => `(tactic| (k_here; (with_reducible show wpAny _ _ (eval (PySem.Expr.ListComp (PySem.Expr.BinOp _ _ _ _) _ _ _) _) _ _ _); refine stop_here ?_))
local macro_rules | `(tactic| walk_at "execs nil") => `(tactic| (with_reducible refine wpAny_execs_nil ?_))
local macro_rules | `(tactic| walk_at "compareOp NotEq int int") => `(tactic| (k_here; k_dflt (refine' ne_int_same ?e ?_; (case e => first | (with_reducible assumption) | (rw [Int.fmod_eq_emod_of_nonneg _ (by decide)]; omega)); k_whole)))
local macro_rules | `(tactic| tb_rel) => `(tactic| (repeat' (first | (with_reducible exact ownOff_nil) | (with_reducible refine ownOff_cons ?_ ?_) | (with_reducible exact List.forall_mem_nil _) | (with_reducible refine List.forall_mem_cons.mpr ⟨?_, ?_⟩) | (with_reducible assumption) | (refine neN ?_; dsimp only; first | (with_reducible assumption) | (refine Ne.symm ?_; with_reducible assumption) | (refine Nat.ne_of_lt ?_; (repeat' (first | with_reducible assumption | with_reducible refine Nat.lt_trans (by with_reducible assumption) ?_)); done) | (refine Nat.ne_of_gt ?_; (repeat' (first | with_reducible assumption | with_reducible refine Nat.lt_trans (by with_reducible assumption) ?_)); done) | omega))))
section
variable {w : World} {lo : List Str} {mean : ExcName → Option Value} {mg mb : Str → Option Value} {dp un : Nat} {gd : Option (List Code)} {cn : Str} {cs : Scope} {L a : Addr} {ccd : Value} {cl : List (Str × Addr)} {outer : List Env}
    {A₀ : Around} {base h₀ : Heap} {m : Str → Option Value} {rest : List (Addr × Obj)} {s : Shared} {Q E : Value → Shared → Prop}
def LstEnd (g : Heap) (L : Addr) (m : Str → Option Value) (news : List (Addr × Obj)) (s : Shared) (P : List Value → Prop) (v : Value) (s₃ : Shared) : Prop :=
  ∃ D h tk zs n, v = .ref D ∧ s₃ = { s with heap := h, toks := tk } ∧ P zs ∧ Fr g L h m ∧ News g L h ((D, listOf zs.toArray n) :: news)
theorem via_list {M : Model} {A : Around} {t : Sem Value} {Q E : Value → Shared → Prop} {s : Shared} {g : Heap} {L : Addr} {m : Str → Option Value} {news : List (Addr × Obj)} (P : List Value → Prop) (_F : Fr g L s.heap m) (_N : News g L s.heap news)
    (h : wpAny M A t (LstEnd g L m news s P) E s) (k : ∀ D h tk zs n, P zs → Fr g L h m → News g L h ((D, listOf zs.toArray n) :: news) → Q (.ref D) { s with heap := h, toks := tk }) : wpAny M A t Q E s :=
  wpAny_mono h (fun v s₃ hv => by obtain ⟨D, h, tk, zs, n, rfl, rfl, hp, F, N⟩ := hv; exact k D h tk zs n hp F N) fun _ _ e => e
theorem news_lt {g h : Heap} {L : Addr} {l : List (Addr × Obj)} {D : Addr} (N : News g L h l) (hD : @LE.le Nat _ h.objs.size D) : ∀ p ∈ l, p.1 < D := fun p hp => Nat.lt_of_lt_of_le (Heap.lt_size (N p hp).1) hD
theorem news_new {g h hD : Heap} {L : Addr} {m : Str → Option Value} {l : List (Addr × Obj)} {D : Addr} {o : Obj} (F : Fr g L h m) (N : News g L h l) (hDn : h.get? D = none) (hDL : @Ne Nat D L) (hDo : hD.get? D = some o) (hold : ∀ b o, @Ne Nat b L → h.get? b = some o → hD.get? b = some o) : News g L hD ((D, o) :: l) := fun p hp => by
  rcases List.mem_cons.mp hp with e | e
  · subst e
    refine ⟨hDo, hDL, ?_⟩
    cases q : g.get? D with
    | none => rfl
    | some o => have := F.keep _ _ q; rw [hDn] at this; cases this
  · exact ⟨hold _ _ (N p e).2.1 (N p e).1, (N p e).2⟩
theorem right_spec {ch x0 d0 x1 d1 x2 d2 x3 d3 cx dx mx px pn qx c0 c1 c2 c3 qn : Nat} {k0 k1 k2 k3 kt : Nat → Nat} {o0 o1 o2 o3 : Value} {a0 s0 a1 s1 a2 s2 a3 s3 : Bool} {r ss ix iy i mode ref halt held states : Value} {sp pc iff1 iff2 : Int} {tsp tpc t1 t2 : Nat} {mv pv : List Value} {mn : List Int} {nn : Nat}
    {e0 f0 e1 f1 e2 f2 e3 f3 : Int} {u0 v0 n0 u1 v1 n1 u2 v2 n2 u3 v3 n3 : Nat} {dl : List (Option Int × Int)}
    (C : Cx w lo mean mg mb dp un cs outer A₀ base h₀ L m s.heap 20)
    (N : News h₀ L s.heap ([(px, listOf pv.toArray pn)] ++ (chainL w.params ch x0 d0 x1 d1 x2 d2 x3 d3 k0 k1 k2 k3 o0 o1 o2 o3 a0 s0 a1 s1 a2 s2 a3 s3 ++ (cpuL w.params cx dx mx kt r ss ix iy (.int sp tsp) (.int pc tpc) i ref (.int iff1 t1) (.int iff2 t2) mode halt held states mv nn ++ (cntL qx c0 c1 c2 c3 qn e0 f0 e1 f1 e2 f2 e3 f3 u0 v0 n0 u1 v1 n1 u2 v2 n2 u3 v3 n3 ++ rest)))))
    (hoff : OwnOff rest [px])
    (hchp : ch ≠ px) (ho : mx < dx ∧ dx < cx ∧ cx < d0 ∧ d0 < x0 ∧ x0 < d1 ∧ d1 < x1 ∧ x1 < d2 ∧ d2 < x2 ∧ x2 < d3 ∧ d3 < x3 ∧ x3 < px ∧ px < c0 ∧ c0 < c1 ∧ c1 < c2 ∧ c2 < c3 ∧ c3 < qx)
    (hmv : IntsAre mv mn) (hml : mn.length = 256) (hp : PileIs rest pv dl)
    (hnum : dl.filterMap (·.1) = (if s3 then [3] else []) ++ (if s2 then [2] else []) ++ (if s1 then [1] else []) ++ (if s0 then [0] else []))
    (hlen : dl.length ≤ 12) (hsp : sp = 256 - 2 * dl.length) (hiff : iff1 ≤ iff2)
    (hmem : ∀ (j : Nat) p, dl[j]? = some p → mn.getD (254 - 2 * j) 0 + 256 * mn.getD (255 - 2 * j) 0 = p.2)
    (hc0 : e0 - f0 = (if a0 then 1 else 0) + (if s0 then 1 else 0)) (hc1 : e1 - f1 = (if a1 then 1 else 0) + (if s1 then 1 else 0)) (hc2 : e2 - f2 = (if a2 then 1 else 0) + (if s2 then 1 else 0)) (hc3 : e3 - f3 = (if a3 then 1 else 0) + (if s3 then 1 else 0))
    (hret : ∀ (h' : Heap) (tk' : Nat), Fr h₀ L h' m →
      News h₀ L h' ([(px, listOf pv.toArray pn)] ++ (chainL w.params ch x0 d0 x1 d1 x2 d2 x3 d3 k0 k1 k2 k3 o0 o1 o2 o3 a0 s0 a1 s1 a2 s2 a3 s3 ++ (cpuL w.params cx dx mx kt r ss ix iy (.int sp tsp) (.int pc tpc) i ref (.int iff1 t1) (.int iff2 t2) mode halt held states mv nn ++ (cntL qx c0 c1 c2 c3 qn e0 f0 e1 f1 e2 f2 e3 f3 u0 v0 n0 u1 v1 n1 u2 v2 n2 u3 v3 n3 ++ rest)))) → Q (.bool true) { s with heap := h', toks := tk' }) :
    wpAny (model prg w) (ktrTop dp un gd cn cs L a ccd cl outer) (call (.ref 440) [.ref cx, .ref mx, .ref ch, .ref px, .ref qx]) Q E s := by
  obtain ⟨B, F, X, T, hk, hdp, hun⟩ := C
  obtain ⟨q1, q2, q4, q5, q6, q7, q8, q9, q10, q11, q12, q13, q14, q15, q16, q17⟩ := ho
  have NK : Kept _ := ⟨N⟩
  have hoff2 : OwnOff (chainL w.params ch x0 d0 x1 d1 x2 d2 x3 d3 k0 k1 k2 k3 o0 o1 o2 o3 a0 s0 a1 s1 a2 s2 a3 s3 ++ (cpuL w.params cx dx mx kt r ss ix iy (.int sp tsp) (.int pc tpc) i ref (.int iff1 t1) (.int iff2 t2) mode halt held states mv nn ++ (cntL qx c0 c1 c2 c3 qn e0 f0 e1 f1 e2 f2 e3 f3 u0 v0 n0 u1 v1 n1 u2 v2 n2 u3 v3 n3 ++ rest))) [px] := by
    dsimp only [chainL, cpuL, cntL, int2L, List.cons_append, List.nil_append]
    tb_rel
  k_dflt refine' call_restC (args := ⟨[.ref cx, .ref mx, .ref ch, .ref px, .ref qx], []⟩) B F X N hoff2 T rfl rfl hk ?k6 ?k7 ?k8 ?k9 ?kB ?kD ?_ ?c2 ?c3 ?c4
  (case k6 => k_is)
  (case k7 => k_is)
  (case k8 => k_room)
  (case k9 => exact BindsTo.of_eq rfl)
  (case kB => exact rfl)
  (case kD => decide +kernel)
  (case c2 => exact rfl)
  (case c3 => exact rfl)
  (case c4 => exact rfl)
  clear N F
  intro g' L' h' tk' cells' F' N' Y' B' X' T' hr' l1'
  k_lt l1'
  obtain ⟨oc, hE, d1'⟩ := CellsAre.one Y'
  subst hE
  clear Y'
  simp only [List.cons_append, List.nil_append] at N'
  have hch : g'.IsList ch [Value.ref x0, Value.ref x1, Value.ref x2, Value.ref x3].toArray := ⟨_, hr' (ch, listOf [Value.ref x0, Value.ref x1, Value.ref x2, Value.ref x3].toArray 4) (by k_memK), rfl, _, rfl⟩
  have gx0 : g'.get? x0 = some (instObj 212 d0) := hr' (x0, _) (by k_memK)
  have gd0 : g'.get? d0 = some (dictOf (askEs w.params k0 o0 a0 s0) 3) := hr' (d0, _) (by k_memK)
  have gx1 : g'.get? x1 = some (instObj 212 d1) := hr' (x1, _) (by k_memK)
  have gd1 : g'.get? d1 = some (dictOf (askEs w.params k1 o1 a1 s1) 3) := hr' (d1, _) (by k_memK)
  have gx2 : g'.get? x2 = some (instObj 212 d2) := hr' (x2, _) (by k_memK)
  have gd2 : g'.get? d2 = some (dictOf (askEs w.params k2 o2 a2 s2) 3) := hr' (d2, _) (by k_memK)
  have gx3 : g'.get? x3 = some (instObj 212 d3) := hr' (x3, _) (by k_memK)
  have gd3 : g'.get? d3 = some (dictOf (askEs w.params k3 o3 a3 s3) 3) := hr' (d3, _) (by k_memK)
  have gcx : g'.get? cx = some (instObj 31 dx) := hr' (cx, _) (by k_memK)
  have gdx : g'.get? dx = some (dictOf (cpuEs w.params kt r ss ix iy (.int sp tsp) (.int pc tpc) i ref (.int iff1 t1) (.int iff2 t2) mode halt held states) 14) := hr' (dx, _) (by k_memK)
  have hmx : g'.IsList mx mv.toArray := ⟨_, hr' (mx, listOf mv.toArray nn) (by k_memK), rfl, _, rfl⟩
  have hqx : g'.IsList qx [Value.ref c0, Value.ref c1, Value.ref c2, Value.ref c3].toArray := ⟨_, hr' (qx, listOf [Value.ref c0, Value.ref c1, Value.ref c2, Value.ref c3].toArray qn) (by k_memK), rfl, _, rfl⟩
  have hcc0 : g'.IsList c0 [Value.int e0 u0, Value.int f0 v0].toArray := ⟨_, hr' (c0, listOf [Value.int e0 u0, Value.int f0 v0].toArray n0) (by k_memK), rfl, _, rfl⟩
  have hcc1 : g'.IsList c1 [Value.int e1 u1, Value.int f1 v1].toArray := ⟨_, hr' (c1, listOf [Value.int e1 u1, Value.int f1 v1].toArray n1) (by k_memK), rfl, _, rfl⟩
  have hcc2 : g'.IsList c2 [Value.int e2 u2, Value.int f2 v2].toArray := ⟨_, hr' (c2, listOf [Value.int e2 u2, Value.int f2 v2].toArray n2) (by k_memK), rfl, _, rfl⟩
  have hcc3 : g'.IsList c3 [Value.int e3 u3, Value.int f3 v3].toArray := ⟨_, hr' (c3, listOf [Value.int e3 u3, Value.int f3 v3].toArray n3) (by k_memK), rfl, _, rfl⟩
  have hrr : ∀ p ∈ rest, g'.get? p.1 = some p.2 := fun p hp => hr' p (List.mem_append_right _ (List.mem_append_right _ (List.mem_append_right _ hp)))
  clear hr'
  obtain ⟨ps, zs, z1, z2, z3, z4, z5⟩ := pile_pairs hp hrr
  refine wpAny_execs_cons ?_
  have hpx := N' (px, listOf pv.toArray pn) (by k_mem)
  refine comp_assign ps (by rfl) (by with_unfolding_all rfl) (by decide) (by decide) (by rfl) (by decide) (by rfl) (by rfl) (by decide) (by decide) (by rfl) (by rfl) F'.ns ⟨_, hpx.1, rfl, _, rfl⟩ (by rw [List.size_toArray, hp.length, sizeLine_eq]; omega) (by rw [List.size_toArray]; exact z1) ?it z3 ?iter ?_
  case it =>
    intro j p hj
    obtain ⟨t, b1, b2⟩ := z2 j p hj
    exact ⟨t, by simpa using b1, b2.keeps F'.keep⟩
  case iter =>
    intro Q' hQ'
    refine' nameX_L F' ?v hQ' ?a ?b
    (case a => rfl)
    (case b => rfl)
    (case v => rfl)
  intro D hD tk2 ys n hDs hDn hDL hDo hys hns hold
  obtain rfl : ys = zs.toArray := by rw [← z4, ← hys]
  have F2 := Fr.mk hns (fun b o e => hold b o (Nat.ne_of_lt (Nat.lt_of_lt_of_le (Heap.lt_size e) F'.above)) (F'.keep b o e)) F'.above
  have l2' := news_lt N' hDs
  have N2 := news_new F' N' hDn hDL hDo hold
  k_lt l2'
  clear hns hold hDn hDL hDo hys hDs F' N' hpx
  iterate 4 (first | (k_unfold; (try dsimp only)) | (k_end; wrow_close) | walk1 | (dsimp only; walk1) | (leave1; walk_say "STEP leave1"; try dsimp only))
  refine via_list (fun zs => IntsAre zs (ats s0 s1 s2 s3)) F2 N2 ?_ ?_
  · clear hret hnum hlen hsp hiff hmem hc0 hc1 hc2 hc3 hmv hml hp hoff hoff2 hchp q1 q2 q4 q5 q6 q7 q8 q9 q10 q11 q12 q13 q14 q15 q16 q17 NK gcx gdx hmx hqx hcc0 hcc1 hcc2 hcc3 hrr z1 z2 z3 z4 z5
    k_dflt (refine LCt.ListComp_T (F₀ := by k_asm) (by with_unfolding_all rfl) (by decide) (by rfl) (by decide) (by rfl) ?_)
    repeat (first | (k_unfold; (try dsimp only)) | (k_end; wrow_close) | walk1 | (dsimp only; walk1) | (leave1; walk_say "STEP leave1"; try dsimp only))
    refine LCt.CompSrcT.range (n := 4) (by rfl) (by k_asm) (by k_asm) (by assumption) (by first | decide | rfl) (by first | rfl | decide) (by first | size_fits | exact Nat.le_of_ble_eq_true rfl) ?_
    intro g'
    repeat' (first | (k_unfold; (try dsimp only)) | (k_end; wrow_close) | walk1 | (dsimp only; walk1) | (leave1; walk_say "STEP leave1"; try dsimp only))
    all_goals (subst_vars; refine ⟨_, _, _, _, _, rfl, rfl, ?_, (by assumption), (by assumption)⟩)
    all_goals (repeat' (first | exact IntsAre.nil | refine IntsAre.cons _ _ ?_))
  · intro D2 h2 tk3 zs2 n2' y1 F3 N3
    clear F2 N2
    have hnum' : dl.filterMap (·.1) = nums s0 s1 s2 s3 := hnum
    have hrev : dl.filterMap (·.1) = (ats s0 s1 s2 s3).reverse := hnum'.trans (ats_rev ..)
    have hpd := hp.length
    have hmem0 : ∀ (j : Nat) p, dl[j]? = some p → mn.getD (254 - 2 * (0 + j)) 0 + 256 * mn.getD (255 - 2 * (0 + j)) 0 = p.2 := fun j p h => by rw [Nat.zero_add]; exact hmem j p h
    have hal : (ats s0 s1 s2 s3).length ≤ 4 := by cases s0 <;> cases s1 <;> cases s2 <;> cases s3 <;> decide
    have hfl : (dl.filterMap (·.1)).length < 64 := Nat.lt_of_le_of_lt (List.length_filterMap_le _ _) (by omega)
    (try dsimp only)
    repeat' (first | (k_unfold; (try dsimp only)) | (k_end; wrow_close) | walk1 | (dsimp only; walk1) | (leave1; walk_say "STEP leave1"; try dsimp only))
    (rename Fr _ _ _ _ => lF')
    (rename News _ _ _ _ => lN')
    have lN2 : News g' L' _ [(L' + 1, oc), (px, listOf pv.toArray pn)] := News.sub lN' (by k_allIn)
    (refine ktu_enum (by rfl) lF' lN2 (by k_mem) (by rfl) (by rfl) (by rfl) ?_)
    intro i' l3'
    (try clear N3)
    (try clear F3)
    clear lN2 lN' y1
    k_lt l3'
    refine' items_ind (a := Str.ofString "at") (b := Str.ofString "number") (c := Str.ofString "place") (mn := mn) ?hq ?turn ?done hrr hp 0 ?hk ?hm _ ?hs
    (case hs => exact fun _ _ _ _ => rfl)
    (case hq => k_subL)
    (case hk => omega)
    (case hm => assumption)
    case turn =>
      intro k t nv o p tp m2 hk hsm hio hgt hmk T tt h4 tk4 hT F4
      have hgT : IsTup g' t [nv, Value.int p tp].toArray := ⟨_, hgt, rfl, _, rfl⟩
      replace F4 := hsm.fr F4
      have eA : (254 - 2 * (k : Int)).toNat = 254 - 2 * k := by omega
      have eB : (255 - 2 * (k : Int)).toNat = 255 - 2 * k := by omega
      have hmk2 : mn.getD (254 - 2 * (k : Int)).toNat 0 + 256 * mn.getD (255 - 2 * (k : Int)).toNat 0 = p := by rw [eA, eB]; exact hmk
      ktu_objs
      have hnv : handedIn nv = true := by cases o with | none => (rw [show nv = Value.none from hio]; rfl) | some i => (obtain ⟨t, e⟩ := hio; rw [e]; rfl)
      repeat' (first | (k_unfold; (try dsimp only)) | (k_end; wrow_close) | walk1 | (dsimp only; walk1) | (leave1; walk_say "STEP leave1"; try dsimp only))
      refine UnrEndW.intro (by assumption) (by assumption) [(L' + 1, oc), (px, listOf pv.toArray pn)] (by k_subL) (by k_subL) (by ktu_offL) ⟨rfl, ?_⟩
      intro z h1 h2 h3
      simp only [if_neg h1, if_neg h2, if_neg h3]
    case done =>
      intro m2 hsm h4 tk4 F4 N4
      replace F4 := hsm.fr F4
      (try dsimp only)
      repeat' (first | (k_unfold; (try dsimp only)) | (k_end; wrow_close) | walk1 | (dsimp only; walk1) | (leave1; walk_say "STEP leave1"; try dsimp only))
      refine stop_go ?_
      (rename Fr _ _ _ _ => lF')
      (rename News _ _ _ _ => lN')
      refine diff_eval [(e0, f0), (e1, f1), (e2, f2), (e3, f3)] (by rfl) (by decide) (by decide) (by rfl) (by decide) (by rfl) (by rfl) (by decide) (by decide) (by decide) (list_base lF' hqx) (Nat.le_of_ble_eq_true rfl) rfl ?it ?iter ?_
      case it =>
        intro j p hj
        rcases j with _ | _ | _ | _ | j
        · obtain rfl : (e0, f0) = p := by simpa using hj
          exact ⟨c0, u0, v0, rfl, list_base lF' hcc0⟩
        · obtain rfl : (e1, f1) = p := by simpa using hj
          exact ⟨c1, u1, v1, rfl, list_base lF' hcc1⟩
        · obtain rfl : (e2, f2) = p := by simpa using hj
          exact ⟨c2, u2, v2, rfl, list_base lF' hcc2⟩
        · obtain rfl : (e3, f3) = p := by simpa using hj
          exact ⟨c3, u3, v3, rfl, list_base lF' hcc3⟩
        · simp at hj
      case iter =>
        intro Q' hQ'
        refine' nameX_L lF' ?v hQ' ?a ?b
        (case a => rfl)
        (case b => rfl)
        (case v => rfl)
      intro D5 hD5 tk5 ys5 n5 hs5 hn5 ho5 hy5 hold5
      have F5 : Fr g' L' hD5 _ := lF'.keeps hold5
      rw [← Array.toArray_toList (xs := ys5)] at ho5
      have N5 := news_new lF' lN' hn5 (fun e => by obtain ⟨oL, _, _, hL, _⟩ := lF'.ns; rw [e, hL] at hn5; cases hn5) ho5 (fun b o _ e => hold5 b o e)
      clear lF' lN' hold5 ho5 hn5 hs5
      (try dsimp only)
      repeat' (first | (k_unfold; (try dsimp only)) | (k_end; wrow_close) | walk1 | (dsimp only; walk1) | (leave1; walk_say "STEP leave1"; try dsimp only))
      have hret2 : ∀ (b : Bool) (h' : Heap) (tk' : Nat), b = true → Fr h₀ L h' m → News h₀ L h' ([(px, listOf pv.toArray pn)] ++ (chainL w.params ch x0 d0 x1 d1 x2 d2 x3 d3 k0 k1 k2 k3 o0 o1 o2 o3 a0 s0 a1 s1 a2 s2 a3 s3 ++ (cpuL w.params cx dx mx kt r ss ix iy (.int sp tsp) (.int pc tpc) i ref (.int iff1 t1) (.int iff2 t2) mode halt held states mv nn ++ (cntL qx c0 c1 c2 c3 qn e0 f0 e1 f1 e2 f2 e3 f3 u0 v0 n0 u1 v1 n1 u2 v2 n2 u3 v3 n3 ++ rest)))) → Q (.bool b) { s with heap := h', toks := tk' } := by
        rintro _ h' tk' rfl F N
        exact hret h' tk' F N
      exact fun hr => hret2 _ _ _ (decide_eq_true (by show [e0 - f0, e1 - f1, e2 - f2, e3 - f3] = _; rw [hc0, hc1, hc2, hc3])) (by assumption) (news_join NK.out (News.sel (by assumption) (by tb_start)) hr)


end
end
section
open PySem PySem.W PyProof.Rows
theorem off15 : True := by (w_top off; trivial)
structure LawFn (P : Params) where
  oc : Value
  od : Option Addr
  osl : Array (Option Value)
  name : Str
  qual : Str
  params : Arguments
  body : List Stmt
  scope : Scope
  dV : Value
  kV : Value
  doc : Value
  pm : Value
  an : Option Addr
  cdv : Value
  ct : Value
  ok : (hd.heap_1_1 P).lookup 452 = some ⟨oc, od, .func (fnOf name qual params body scope dV kV doc pm an cdv ct), osl⟩
  a0 : Stmt
  a1 : Stmt
  a2 : Stmt
  a3 : Stmt
  a5 : Stmt
  tgt : PySem.Expr
  iter : PySem.Expr
  b0 : Stmt
  b1 : Stmt
  b2 : Stmt
  b4 : Stmt
  t0 : PySem.Expr
  x0 : List Stmt
  t1 : PySem.Expr
  x1 : List Stmt
  t2 : PySem.Expr
  blk : List Stmt
  els : List Stmt
  p0 : Pos
  p1 : Pos
  p2 : Pos
  pf : Pos
  ok2 : body = a0 :: a1 :: a2 :: a3 :: .For tgt iter (b0 :: b1 :: b2 :: .If t0 x0 [.If t1 x1 [.If t2 blk els p2] p1] p0 :: b4 :: []) [] pf :: a5 :: []
def lawFn (P : Params) : LawFn P := ⟨_, _, _, _, _, _, _, _, _, _, _, _, _, _, _, by k_is, _, _, _, _, _, _, _, _, _, _, _, _, _, _, _, _, _, _, _, _, _, _, by exact rfl⟩
@[reducible] def lawName : Str := Str.ofString "law"
@[reducible] def lawScope (P : Params) : Scope := (lawFn P).scope
structure TS where
  t : Int
  tt : Nat
  mv : List Value
  mn : List Int
  sp : Int
  tsp : Nat
  pc : Int
  tpc : Nat
  ref : Int
  tref : Nat
  i1 : Int
  t1 : Nat
  i2 : Int
  t2 : Nat
  halt : Value
  st : Int
  tst : Nat
  a0 : Bool
  s0 : Bool
  a1 : Bool
  s1 : Bool
  a2 : Bool
  s2 : Bool
  a3 : Bool
  s3 : Bool
  pv : List Value
  pn : Nat
  dl : List (Option Int × Int)
  e0 : Int
  f0 : Int
  u0 : Nat
  v0 : Nat
  e1 : Int
  f1 : Int
  u1 : Nat
  v1 : Nat
  e2 : Int
  f2 : Int
  u2 : Nat
  v2 : Nat
  e3 : Int
  f3 : Int
  u3 : Nat
  v3 : Nat
structure TF where
  fx : Nat
  gx : Nat
  mx : Nat
  dx : Nat
  cx : Nat
  ch : Nat
  d0 : Nat
  x0 : Nat
  d1 : Nat
  x1 : Nat
  d2 : Nat
  x2 : Nat
  d3 : Nat
  x3 : Nat
  px : Nat
  c0 : Nat
  c1 : Nat
  c2 : Nat
  c3 : Nat
  qx : Nat
  kt : Nat → Nat
  k0 : Nat → Nat
  k1 : Nat → Nat
  k2 : Nat → Nat
  k3 : Nat → Nat
  z0 : Int
  y0 : Nat
  z1 : Int
  y1 : Nat
  z2 : Int
  y2 : Nat
  z3 : Int
  y3 : Nat
  cv : List Value
  cnn : Nat
  r : Value
  ss : Value
  ix : Value
  iy : Value
  i : Value
  tm : Nat
  nn : Nat
  qn : Nat
  n0 : Nat
  n1 : Nat
  n2 : Nat
  n3 : Nat
@[reducible] def LedT (P : Params) (f : TF) (c : TS) : List (Addr × Obj) :=
  feedL f.fx f.gx c.t c.tt f.cv f.cnn ++ ([(f.px, listOf c.pv.toArray c.pn)] ++ (chainL P f.ch f.x0 f.d0 f.x1 f.d1 f.x2 f.d2 f.x3 f.d3 f.k0 f.k1 f.k2 f.k3 (.int f.z0 f.y0) (.int f.z1 f.y1) (.int f.z2 f.y2) (.int f.z3 f.y3) c.a0 c.s0 c.a1 c.s1 c.a2 c.s2 c.a3 c.s3 ++
    (cpuL P f.cx f.dx f.mx f.kt f.r f.ss f.ix f.iy (.int c.sp c.tsp) (.int c.pc c.tpc) f.i (.int c.ref c.tref) (.int c.i1 c.t1) (.int c.i2 c.t2) (.int 1 f.tm) c.halt (.bool false) (.int c.st c.tst) c.mv f.nn ++
      cntL f.qx f.c0 f.c1 f.c2 f.c3 f.qn c.e0 c.f0 c.e1 c.f1 c.e2 c.f2 c.e3 c.f3 c.u0 c.v0 f.n0 c.u1 c.v1 f.n1 c.u2 c.v2 f.n2 c.u3 c.v3 f.n3)))
@[reducible] def adrT (f : TF) : List Addr := [f.fx, f.gx, f.px, f.ch, f.x0, f.d0, f.x1, f.d1, f.x2, f.d2, f.x3, f.d3, f.cx, f.dx, f.mx, f.qx, f.c0, f.c1, f.c2, f.c3]
theorem led_adr (P : Params) (f : TF) (c : TS) : (LedT P f c ++ []).map Prod.fst = adrT f := rfl
structure OrdT (f : TF) : Prop where
  h : f.gx < f.fx ∧ f.fx < f.mx ∧ f.mx < f.dx ∧ f.dx < f.cx ∧ f.cx < f.d0 ∧ f.d0 < f.x0 ∧ f.x0 < f.d1 ∧ f.d1 < f.x1 ∧ f.x1 < f.d2 ∧ f.d2 < f.x2 ∧ f.x2 < f.d3 ∧ f.d3 < f.x3 ∧ f.x3 < f.px ∧ f.px < f.c0 ∧ f.c0 < f.c1 ∧ f.c1 < f.c2 ∧ f.c2 < f.c3 ∧ f.c3 < f.qx
  ch : ∀ b ∈ [f.gx, f.fx, f.mx, f.dx, f.cx, f.d0, f.x0, f.d1, f.x1, f.d2, f.x2, f.d3, f.x3, f.px, f.c0, f.c1, f.c2, f.c3, f.qx], f.ch ≠ b
@[reducible] def b2i (b : Bool) : Int := if b then 1 else 0
structure InvT (c : TS) : Prop where
  mv : IntsAre c.mv c.mn
  ml : c.mn.length = 256
  mb : Bytes c.mn
  pc0 : 0 ≤ c.pc
  pc1 : c.pc < 65536
  i0 : 0 ≤ c.i1
  i1 : c.i1 ≤ c.i2
  i2 : c.i2 ≤ 1
  sp : c.sp = 256 - 2 * c.dl.length
  cn : c.dl.countP (·.1.isNone) ≤ 8
  nu : c.dl.filterMap (·.1) = nums c.s0 c.s1 c.s2 c.s3
  mem : MemOk c.mn c.dl
  h0 : c.e0 - c.f0 = (if c.a0 then 1 else 0) + (if c.s0 then 1 else 0)
  h1 : c.e1 - c.f1 = (if c.a1 then 1 else 0) + (if c.s1 then 1 else 0)
  h2 : c.e2 - c.f2 = (if c.a2 then 1 else 0) + (if c.s2 then 1 else 0)
  h3 : c.e3 - c.f3 = (if c.a3 then 1 else 0) + (if c.s3 then 1 else 0)
  b0 : ¬ (c.a0 = true ∧ c.s0 = true)
  b1 : ¬ (c.a1 = true ∧ c.s1 = true)
  b2 : ¬ (c.a2 = true ∧ c.s2 = true)
  b3 : ¬ (c.a3 = true ∧ c.s3 = true)
@[reducible] def storedT : List Str := [Str.ofString "form", Str.ofString "number", Str.ofString "place", Str.ofString "was_let", Str.ofString "due", Str.ofString "top", Str.ofString "let"]
@[reducible] def psT (f : TF) : List (Str × Value) := [(Str.ofString "feed", .ref f.fx), (Str.ofString "memory", .ref f.mx), (Str.ofString "cpu", .ref f.cx), (Str.ofString "chain", .ref f.ch), (Str.ofString "pile", .ref f.px), (Str.ofString "counts", .ref f.qx)]
@[reducible] def MM (f : TF) (kv : Value) (m₀ u : Str → Option Value) : Str → Option Value := fun y => if y = Str.ofString "turn" then some kv else kstB (fun z => if storedT.contains z then u z else m₀ z) (psT f) y
@[reducible] def MW (f : TF) (kv : Value) (m₀ u : Str → Option Value) (fo nu pl wl : Value) : Str → Option Value := fun y => if y = Str.ofString "place" then some pl else if y = Str.ofString "was_let" then some wl else if y = Str.ofString "form" then some fo else if y = Str.ofString "number" then some nu else MM f kv m₀ u y
def MmOk (f : TF) (kv : Value) (m₀ m' : Str → Option Value) : Prop := ∀ z, storedT.contains z = false → ∃ u, m' z = MM f kv m₀ u z
theorem mm_base {f : TF} {kv : Value} {m₀ u : Str → Option Value} : MmOk f kv m₀ (MM f kv m₀ u) := fun _ _ => ⟨u, rfl⟩
theorem mm_step {f : TF} {kv : Value} {m₀ m' : Str → Option Value} {x : Str} {v : Option Value} (hx : storedT.contains x = true) (h : MmOk f kv m₀ m') : MmOk f kv m₀ (fun z => if z = x then v else m' z) := fun z hz => by
  have : z ≠ x := fun e => by rw [e, hx] at hz; cases hz
  dsimp only
  rw [if_neg this]
  exact h z hz
theorem mm_fr {f : TF} {kv : Value} {m₀ m' : Str → Option Value} {g h : Heap} {L : Addr} (F : Fr g L h m') (H : MmOk f kv m₀ m') : Fr g L h (MM f kv m₀ m') := by
  have e : MM f kv m₀ m' = m' := by
    funext z
    cases hz : storedT.contains z with
    | false =>
      obtain ⟨u, e⟩ := H z hz
      rw [e]
      simp only [MM, kstB, psT, hz]
      simp
    | true =>
      have h0 : z ≠ Str.ofString "turn" := fun e => by rw [e] at hz; revert hz; decide
      have h1 : z ≠ Str.ofString "feed" := fun e => by rw [e] at hz; revert hz; decide
      have h2 : z ≠ Str.ofString "memory" := fun e => by rw [e] at hz; revert hz; decide
      have h3 : z ≠ Str.ofString "cpu" := fun e => by rw [e] at hz; revert hz; decide
      have h4 : z ≠ Str.ofString "chain" := fun e => by rw [e] at hz; revert hz; decide
      have h5 : z ≠ Str.ofString "pile" := fun e => by rw [e] at hz; revert hz; decide
      have h6 : z ≠ Str.ofString "counts" := fun e => by rw [e] at hz; revert hz; decide
      simp only [MM, kstB, psT, hz, if_neg h0, if_neg h1, if_neg h2, if_neg h3, if_neg h4, if_neg h5, if_neg h6]
      simp
  rw [e]
  exact F
section
variable {prog : Program} {w : World} {A : Around} {E : Value → Shared → Prop} {s : Shared} {h₀ : Heap} {L D : Addr} {m : Str → Option Value} {news news' : List (Addr × Obj)} {n : Nat}
theorem my_append {p : List Value} {y : Value} {Q : Value → Shared → Prop} (F : Fr h₀ L s.heap m) (N : News h₀ L s.heap news) (U : Upd D (listOf p.toArray n) (listOf (p ++ [y]).toArray (n + 1)) news news')
    (hz : p.length ≤ 100) (h : ∀ h', Fr h₀ L h' m → News h₀ L h' news' → Q .none { s with heap := h' }) : wpAny (model prog w) A (call (.builtin "list.append") [.ref D, y]) Q E s := by
  refine append_K (n := n) F N (its := p.toArray) ?_ h (by rw [List.size_toArray, sizeLine_eq]; omega)
  rw [List.push_toArray]
  exact U
end
end
local macro_rules | `(tactic| tb_start) => `(tactic| ((try dsimp only [LedT, feedL, cntL, int2L, chainL, cpuL, List.cons_append, List.nil_append]); repeat' (first | exact Sel.done | exact Sel.nil | exact Pick.head | refine' Pick.tail ?_ | refine' Sel.pick ?_ ?_)))
section
open PySem PySem.W PyProof.Rows
theorem off16 : True := by (w_top off; trivial)
theorem inv_len {c : TS} (I : InvT c) : c.dl.length ≤ 12 := by
  have h1 := len_split c.dl
  have h2 := nums_len c.s0 c.s1 c.s2 c.s3
  have h3 := I.cn
  rw [← I.nu] at h2
  omega
theorem inv_serve {c : TS} (I : InvT c) {j : Int} (hw : want c.a0 c.s0 c.a1 c.s1 c.a2 c.s2 c.a3 c.s3 = some j) {mv' pv' : List Value} {tsp' tpc' tref' t1' t2' tst' pn' : Nat} {ref' st' : Int} {halt' : Value}
    (hmv : IntsAre mv' ((c.mn.set (c.sp - 2).toNat (c.pc % 256)).set (c.sp - 1).toNat (c.pc / 256 % 256))) :
    InvT { c with mv := mv', mn := (c.mn.set (c.sp - 2).toNat (c.pc % 256)).set (c.sp - 1).toNat (c.pc / 256 % 256), sp := c.sp - 2, tsp := tsp', pc := 56, tpc := tpc', ref := ref', tref := tref', i1 := 0, t1 := t1', i2 := 0, t2 := t2', halt := halt', st := st', tst := tst', a0 := if j = 0 then false else c.a0, s0 := if j = 0 then true else c.s0, a1 := if j = 1 then false else c.a1, s1 := if j = 1 then true else c.s1, a2 := if j = 2 then false else c.a2, s2 := if j = 2 then true else c.s2, a3 := if j = 3 then false else c.a3, s3 := if j = 3 then true else c.s3, pv := pv', pn := pn', dl := c.dl ++ [(some j, c.pc)] } := by
  obtain ⟨hn, hj, q0, q1, q2, q3⟩ := want_num hw
  have h1 := len_split c.dl
  have h2 := nums_len (if j = 0 then true else c.s0) (if j = 1 then true else c.s1) (if j = 2 then true else c.s2) (if j = 3 then true else c.s3)
  have h3 := I.cn
  rw [← hn, List.length_append, List.length_singleton, ← I.nu] at h2
  obtain ⟨m1, m2, m3⟩ := push_mem (o := some j) I.ml I.mb I.mem (by omega) I.sp I.pc0 I.pc1
  have hl : ((c.dl ++ [(some j, c.pc)]).length : Int) = c.dl.length + 1 := by simp
  constructor <;> dsimp only
  · exact hmv
  · exact m1
  · exact m2
  · decide
  · decide
  · decide
  · decide
  · decide
  · rw [hl, I.sp]; omega
  · rw [List.countP_append]; simp; omega
  · rw [List.filterMap_append, I.nu]; exact hn
  · exact m3
  · have := I.h0; by_cases e : j = 0 <;> simp only [e, if_true, if_false] <;> first | (obtain ⟨x, y⟩ := q0 e; rw [x, y] at this; simpa using this) | exact this
  · have := I.h1; by_cases e : j = 1 <;> simp only [e, if_true, if_false] <;> first | (obtain ⟨x, y⟩ := q1 e; rw [x, y] at this; simpa using this) | exact this
  · have := I.h2; by_cases e : j = 2 <;> simp only [e, if_true, if_false] <;> first | (obtain ⟨x, y⟩ := q2 e; rw [x, y] at this; simpa using this) | exact this
  · have := I.h3; by_cases e : j = 3 <;> simp only [e, if_true, if_false] <;> first | (obtain ⟨x, y⟩ := q3 e; rw [x, y] at this; simpa using this) | exact this
  · have := I.b0; by_cases e : j = 0 <;> simp only [e, if_true, if_false] <;> first | exact this | simp
  · have := I.b1; by_cases e : j = 1 <;> simp only [e, if_true, if_false] <;> first | exact this | simp
  · have := I.b2; by_cases e : j = 2 <;> simp only [e, if_true, if_false] <;> first | exact this | simp
  · have := I.b3; by_cases e : j = 3 <;> simp only [e, if_true, if_false] <;> first | exact this | simp
theorem inv_nmi {c : TS} (I : InvT c) (hl8 : c.dl.length < 8) {mv' pv' : List Value} {tsp' tpc' tref' t1' tst' pn' : Nat} {ref' st' : Int} {halt' : Value}
    (hmv : IntsAre mv' ((c.mn.set (c.sp - 2).toNat (c.pc % 256)).set (c.sp - 1).toNat (c.pc / 256 % 256))) :
    InvT { c with mv := mv', mn := (c.mn.set (c.sp - 2).toNat (c.pc % 256)).set (c.sp - 1).toNat (c.pc / 256 % 256), sp := c.sp - 2, tsp := tsp', pc := 102, tpc := tpc', ref := ref', tref := tref', i1 := 0, t1 := t1', halt := halt', st := st', tst := tst', pv := pv', pn := pn', dl := c.dl ++ [(none, c.pc)] } := by
  obtain ⟨m1, m2, m3⟩ := push_mem (o := none) I.ml I.mb I.mem (by omega) I.sp I.pc0 I.pc1
  have hl : ((c.dl ++ [(none, c.pc)]).length : Int) = c.dl.length + 1 := by simp
  have h1 := I.i0
  have h2 := I.i1
  have h3 := I.i2
  have h4 : c.dl.countP (·.1.isNone) ≤ c.dl.length := List.countP_le_length
  constructor <;> dsimp only
  · exact hmv
  · exact m1
  · exact m2
  · decide
  · decide
  · decide
  · omega
  · omega
  · rw [hl, I.sp]; omega
  · rw [List.countP_append]; simp; omega
  · rw [List.filterMap_append, I.nu]; simp
  · exact m3
  · exact I.h0
  · exact I.h1
  · exact I.h2
  · exact I.h3
  · exact I.b0
  · exact I.b1
  · exact I.b2
  · exact I.b3
theorem inv_let {c : TS} (I : InvT c) {t1' t2' : Nat} : InvT { c with i1 := 1, t1 := t1', i2 := 1, t2 := t2' } :=
  ⟨I.mv, I.ml, I.mb, I.pc0, I.pc1, by dsimp only; decide, by dsimp only; decide, by dsimp only; decide, I.sp, I.cn, I.nu, I.mem, I.h0, I.h1, I.h2, I.h3, I.b0, I.b1, I.b2, I.b3⟩
theorem inv_pc {c : TS} (I : InvT c) {t' : Int} {tt' tpc' : Nat} : InvT { c with t := t', tt := tt', pc := Builtin.bitAnd (c.pc + 1) 65535, tpc := tpc' } := by
  have h : Builtin.bitAnd (c.pc + 1) 65535 = (c.pc + 1) % 65536 := by rw [bitAnd_m16]
  exact ⟨I.mv, I.ml, I.mb, by dsimp only; omega, by dsimp only; omega, I.i0, I.i1, I.i2, I.sp, I.cn, I.nu, I.mem, I.h0, I.h1, I.h2, I.h3, I.b0, I.b1, I.b2, I.b3⟩
theorem inv_pop {c : TS} (I : InvT c) {o : Option Int} {p : Int} {dl' : List (Option Int × Int)} (hd : c.dl = dl' ++ [(o, p)]) :
    c.mn.getD c.sp.toNat 0 + 256 * c.mn.getD (c.sp + 1).toNat 0 = p ∧ 0 ≤ c.sp ∧ c.sp ≤ 254 ∧ 0 ≤ p ∧ p < 65536 ∧ c.sp + 2 = 256 - 2 * dl'.length ∧ MemOk c.mn dl' ∧ dl'.countP (·.1.isNone) ≤ 8 := by
  have hm := I.mem
  have hs := I.sp
  have hl := inv_len I
  have hc := I.cn
  rw [hd] at hm hs hl hc
  have ht := top_mem hm (by rw [List.length_append, List.length_singleton] at hl; omega) hs
  have b1 := I.mb c.sp.toNat
  have b2 := I.mb (c.sp + 1).toNat
  rw [List.length_append, List.length_singleton] at hl hs
  rw [List.countP_append] at hc
  exact ⟨ht, by omega, by omega, by omega, by omega, by omega, pop_mem hm, by omega⟩
theorem inv_retn {c : TS} (I : InvT c) {p : Int} {dl' : List (Option Int × Int)} (hd : c.dl = dl' ++ [(none, p)]) {tsp' tpc' t1' pn' : Nat} {pv' : List Value} :
    InvT { c with sp := c.sp + 2, tsp := tsp', pc := p, tpc := tpc', i1 := c.i2, t1 := t1', pv := pv', pn := pn', dl := dl' } := by
  obtain ⟨h1, h2, h3, h4, h5, h6, h7, h8⟩ := inv_pop I hd
  have g1 := I.i0
  have g2 := I.i1
  have hn := I.nu
  rw [hd, List.filterMap_append] at hn
  exact ⟨I.mv, I.ml, I.mb, h4, h5, by dsimp only; omega, by dsimp only; omega, I.i2, h6, h8, by simpa using hn, h7, I.h0, I.h1, I.h2, I.h3, I.b0, I.b1, I.b2, I.b3⟩
theorem inv_reti {c : TS} (I : InvT c) {j p : Int} {dl' : List (Option Int × Int)} (hd : c.dl = dl' ++ [(some j, p)]) {tsp' tpc' t1' pn' w0 w1 w2 w3 : Nat} {pv' : List Value} :
    firstS c.s0 c.s1 c.s2 c.s3 = some j ∧ (j = 0 ∨ j = 1 ∨ j = 2 ∨ j = 3) ∧
    InvT { c with sp := c.sp + 2, tsp := tsp', pc := p, tpc := tpc', i1 := c.i2, t1 := t1', pv := pv', pn := pn', dl := dl', s0 := if j = 0 then false else c.s0, s1 := if j = 1 then false else c.s1, s2 := if j = 2 then false else c.s2, s3 := if j = 3 then false else c.s3, f0 := if j = 0 then c.f0 + 1 else c.f0, f1 := if j = 1 then c.f1 + 1 else c.f1, f2 := if j = 2 then c.f2 + 1 else c.f2, f3 := if j = 3 then c.f3 + 1 else c.f3, v0 := if j = 0 then w0 else c.v0, v1 := if j = 1 then w1 else c.v1, v2 := if j = 2 then w2 else c.v2, v3 := if j = 3 then w3 else c.v3 } := by
  obtain ⟨h1, h2, h3, h4, h5, h6, h7, h8⟩ := inv_pop I hd
  have g1 := I.i0
  have g2 := I.i1
  have hn := I.nu
  rw [hd, List.filterMap_append] at hn
  obtain ⟨e1, e2⟩ := nums_end (l := dl'.filterMap (·.1)) (j := j) (by simpa using hn)
  have key : ∀ s0 s1 s2 s3 : Bool, firstS s0 s1 s2 s3 = none ∨ (firstS s0 s1 s2 s3 = some 0 ∧ s0 = true) ∨ (firstS s0 s1 s2 s3 = some 1 ∧ s1 = true) ∨ (firstS s0 s1 s2 s3 = some 2 ∧ s2 = true) ∨ (firstS s0 s1 s2 s3 = some 3 ∧ s3 = true) := by decide
  have hj : (j = 0 ∧ c.s0 = true) ∨ (j = 1 ∧ c.s1 = true) ∨ (j = 2 ∧ c.s2 = true) ∨ (j = 3 ∧ c.s3 = true) := by
    rcases key c.s0 c.s1 c.s2 c.s3 with k | ⟨k, l⟩ | ⟨k, l⟩ | ⟨k, l⟩ | ⟨k, l⟩ <;> rw [e1] at k
    · cases k
    · exact .inl ⟨Option.some.inj k, l⟩
    · exact .inr (.inl ⟨Option.some.inj k, l⟩)
    · exact .inr (.inr (.inl ⟨Option.some.inj k, l⟩))
    · exact .inr (.inr (.inr ⟨Option.some.inj k, l⟩))
  have hj2 : j = 0 ∨ j = 1 ∨ j = 2 ∨ j = 3 := by omega
  refine ⟨e1, hj2, ?_⟩
  have i0 := I.h0
  have i1 := I.h1
  have i2 := I.h2
  have i3 := I.h3
  have b0 := I.b0
  have b1 := I.b1
  have b2 := I.b2
  have b3 := I.b3
  refine ⟨I.mv, I.ml, I.mb, h4, h5, by dsimp only; omega, by dsimp only; omega, I.i2, h6, h8, e2, h7, ?_, ?_, ?_, ?_, ?_, ?_, ?_, ?_⟩ <;> dsimp only
  · rcases hj with ⟨rfl, l⟩ | ⟨rfl, l⟩ | ⟨rfl, l⟩ | ⟨rfl, l⟩
    · rw [l] at i0 b0; simp at i0 b0 ⊢; simp [b0] at i0 ⊢; omega
    all_goals simpa using i0
  · rcases hj with ⟨rfl, l⟩ | ⟨rfl, l⟩ | ⟨rfl, l⟩ | ⟨rfl, l⟩
    · simpa using i1
    · rw [l] at i1 b1; simp at i1 b1 ⊢; simp [b1] at i1 ⊢; omega
    all_goals simpa using i1
  · rcases hj with ⟨rfl, l⟩ | ⟨rfl, l⟩ | ⟨rfl, l⟩ | ⟨rfl, l⟩
    · simpa using i2
    · simpa using i2
    · rw [l] at i2 b2; simp at i2 b2 ⊢; simp [b2] at i2 ⊢; omega
    · simpa using i2
  · rcases hj with ⟨rfl, l⟩ | ⟨rfl, l⟩ | ⟨rfl, l⟩ | ⟨rfl, l⟩
    · simpa using i3
    · simpa using i3
    · simpa using i3
    · rw [l] at i3 b3; simp at i3 b3 ⊢; simp [b3] at i3 ⊢; omega
  · by_cases e : j = 0 <;> simp only [e, if_true, if_false] <;> first | exact b0 | simp
  · by_cases e : j = 1 <;> simp only [e, if_true, if_false] <;> first | exact b1 | simp
  · by_cases e : j = 2 <;> simp only [e, if_true, if_false] <;> first | exact b2 | simp
  · by_cases e : j = 3 <;> simp only [e, if_true, if_false] <;> first | exact b3 | simp
theorem inv_ask {c : TS} (I : InvT c) :
    (∀ u', c.a0 = false → c.s0 = false → InvT { c with a0 := true, e0 := c.e0 + 1, u0 := u' }) ∧ (∀ u', c.a1 = false → c.s1 = false → InvT { c with a1 := true, e1 := c.e1 + 1, u1 := u' }) ∧
    (∀ u', c.a2 = false → c.s2 = false → InvT { c with a2 := true, e2 := c.e2 + 1, u2 := u' }) ∧ (∀ u', c.a3 = false → c.s3 = false → InvT { c with a3 := true, e3 := c.e3 + 1, u3 := u' }) := by
  have i0 := I.h0
  have i1 := I.h1
  have i2 := I.h2
  have i3 := I.h3
  refine ⟨fun u' x y => ?_, fun u' x y => ?_, fun u' x y => ?_, fun u' x y => ?_⟩
  · exact ⟨I.mv, I.ml, I.mb, I.pc0, I.pc1, I.i0, I.i1, I.i2, I.sp, I.cn, I.nu, I.mem, by dsimp only; rw [x, y] at i0; rw [y]; simp at i0 ⊢; omega, I.h1, I.h2, I.h3, by dsimp only; rw [y]; simp, I.b1, I.b2, I.b3⟩
  · exact ⟨I.mv, I.ml, I.mb, I.pc0, I.pc1, I.i0, I.i1, I.i2, I.sp, I.cn, I.nu, I.mem, I.h0, by dsimp only; rw [x, y] at i1; rw [y]; simp at i1 ⊢; omega, I.h2, I.h3, I.b0, by dsimp only; rw [y]; simp, I.b2, I.b3⟩
  · exact ⟨I.mv, I.ml, I.mb, I.pc0, I.pc1, I.i0, I.i1, I.i2, I.sp, I.cn, I.nu, I.mem, I.h0, I.h1, by dsimp only; rw [x, y] at i2; rw [y]; simp at i2 ⊢; omega, I.h3, I.b0, I.b1, by dsimp only; rw [y]; simp, I.b3⟩
  · exact ⟨I.mv, I.ml, I.mb, I.pc0, I.pc1, I.i0, I.i1, I.i2, I.sp, I.cn, I.nu, I.mem, I.h0, I.h1, I.h2, by dsimp only; rw [x, y] at i3; rw [y]; simp at i3 ⊢; omega, I.b0, I.b1, I.b2, by dsimp only; rw [y]; simp⟩
theorem allLt_mem {d : Addr} {l : List (Addr × Obj)} : AllLt d l → ∀ p ∈ l, p.1 < d := by
  induction l with
  | nil => exact fun _ _ h => nomatch h
  | cons a r ih =>
    intro h p hp
    rcases List.mem_cons.mp hp with e | e
    · rw [e]; exact h.1
    · exact ih h.2 p e
theorem led_mem {P : Params} {f : TF} {c : TS} {b : Addr} (hb : b ∈ adrT f) : ∃ p ∈ LedT P f c, p.1 = b := by
  have e : (LedT P f c).map Prod.fst = adrT f := rfl
  exact List.mem_map.mp (Eq.mpr (congrArg (b ∈ ·) e) hb)
theorem led_ne {g h : Heap} {L D : Addr} {o : Obj} {l R : List (Addr × Obj)} {P : Params} {f : TF} {c : TS} (_N : News g L h ((D, o) :: l)) (S : ∀ p ∈ LedT P f c ++ R, p ∈ l) (H : AllLt D l) :
    (∀ q ∈ [(D, o)], ∀ b ∈ adrT f, b < q.1) ∧ ∀ q ∈ [(D, o)], ∀ p ∈ R, p.1 ≠ q.1 := by
  have key : ∀ p ∈ LedT P f c ++ R, p.1 < D := fun p hp => allLt_mem H p (S p hp)
  refine ⟨fun q hq b hb => ?_, fun q hq p hp => ?_⟩
  · obtain rfl := List.mem_singleton.mp hq
    obtain ⟨p, hp, e⟩ := led_mem (P := P) (c := c) hb
    exact e ▸ key p (List.mem_append_left _ hp)
  · obtain rfl := List.mem_singleton.mp hq
    exact Nat.ne_of_lt (key p (List.mem_append_right _ hp))
theorem led_join {g h : Heap} {L D : Addr} {o : Obj} {l R : List (Addr × Obj)} {P : Params} {f : TF} {c : TS} (N : News g L h ((D, o) :: l)) (S : ∀ p ∈ LedT P f c ++ R, p ∈ l) : News g L h (LedT P f c ++ ([(D, o)] ++ R)) := fun p hp => by
  rcases List.mem_append.mp hp with e | e
  · exact N p (.tail _ (S p (List.mem_append_left _ e)))
  · rcases List.mem_cons.mp e with e | e
    · exact e ▸ N _ (.head _)
    · exact N p (.tail _ (S p (List.mem_append_right _ e)))
def Asc (l : List Nat) : Prop := l.Nodup
theorem asc_ne {l : List Nat} (h : Asc l) (i j : Nat) {a b : Nat} (hi : l[i]? = some a) (hj : l[j]? = some b) (hij : i ≠ j) : a ≠ b := by
  obtain ⟨h1, e1⟩ := List.getElem?_eq_some_iff.mp hi
  obtain ⟨h2, e2⟩ := List.getElem?_eq_some_iff.mp hj
  subst e1
  subst e2
  rcases Nat.lt_or_gt_of_ne hij with g | g
  · exact List.pairwise_iff_getElem.mp h i j h1 h2 g
  · exact Ne.symm (List.pairwise_iff_getElem.mp h j i h2 h1 g)
theorem asc_off {l : List Nat} (h : Asc l) (i : Nat) (js : List Nat) {a : Nat} {adr : List Nat} (hi : l[i]? = some a) (hj : js.map (l[·]?) = adr.map some) (hd : ¬ i ∈ js := by decide) : ∀ b ∈ adr, a ≠ b := fun b hb => by
  have : some b ∈ js.map (l[·]?) := by rw [hj]; exact List.mem_map_of_mem hb
  obtain ⟨j, hj1, hj2⟩ := List.mem_map.mp this
  exact asc_ne h i j hi hj2 fun e => hd (e ▸ hj1)
theorem sub_idx {l adr : List Nat} (js : List Nat) (hj : js.map (l[·]?) = adr.map some) : ∀ b ∈ adr, b ∈ l := fun b hb => by
  have : some b ∈ js.map (l[·]?) := by rw [hj]; exact List.mem_map_of_mem hb
  obtain ⟨j, _, hj2⟩ := List.mem_map.mp this
  exact List.mem_of_getElem? hj2
@[reducible] def srtT (f : TF) : List Nat := [f.gx, f.fx, f.mx, f.dx, f.cx, f.ch, f.d0, f.x0, f.d1, f.x1, f.d2, f.x2, f.d3, f.x3, f.px, f.c0, f.c1, f.c2, f.c3, f.qx]
theorem ord_asc {f : TF} (h : OrdT f) : Asc (srtT f) := by
  have hc := h.ch
  obtain ⟨q1, q2, q3, q4, q5, q6, q7, q8, q9, q10, q11, q12, q13, q14, q15, q16, q17, q18⟩ := h.h
  have key : ∀ (l : List Nat) (a b : Nat), a < b → ((b :: l).Pairwise (· < ·)) → ((a :: b :: l).Pairwise (· < ·)) := fun l a b hab h => by
    refine List.pairwise_cons.mpr ⟨fun c hc => ?_, h⟩
    rcases List.mem_cons.mp hc with e | e
    · rw [e]; exact hab
    · exact Nat.lt_trans hab ((List.pairwise_cons.mp h).1 c e)
  have hs : ([f.gx, f.fx, f.mx, f.dx, f.cx, f.d0, f.x0, f.d1, f.x1, f.d2, f.x2, f.d3, f.x3, f.px, f.c0, f.c1, f.c2, f.c3, f.qx] : List Nat).Pairwise (· < ·) :=
    key _ _ _ q1 (key _ _ _ q2 (key _ _ _ q3 (key _ _ _ q4 (key _ _ _ q5 (key _ _ _ q6 (key _ _ _ q7 (key _ _ _ q8 (key _ _ _ q9 (key _ _ _ q10 (key _ _ _ q11 (key _ _ _ q12 (key _ _ _ q13 (key _ _ _ q14 (key _ _ _ q15 (key _ _ _ q16 (key _ _ _ q17 (key _ _ _ q18 (List.pairwise_singleton _ _))))))))))))))))))
  have hn : ([f.gx, f.fx, f.mx, f.dx, f.cx, f.d0, f.x0, f.d1, f.x1, f.d2, f.x2, f.d3, f.x3, f.px, f.c0, f.c1, f.c2, f.c3, f.qx] : List Nat).Nodup := hs.imp fun h => Nat.ne_of_lt h
  have hm : f.ch ∉ ([f.gx, f.fx, f.mx, f.dx, f.cx, f.d0, f.x0, f.d1, f.x1, f.d2, f.x2, f.d3, f.x3, f.px, f.c0, f.c1, f.c2, f.c3, f.qx] : List Nat) := fun hb => hc _ hb rfl
  have hp : (f.ch :: ([f.gx, f.fx, f.mx, f.dx, f.cx] ++ [f.d0, f.x0, f.d1, f.x1, f.d2, f.x2, f.d3, f.x3, f.px, f.c0, f.c1, f.c2, f.c3, f.qx])).Nodup := List.nodup_cons.mpr ⟨hm, hn⟩
  exact (List.perm_middle (l₁ := [f.gx, f.fx, f.mx, f.dx, f.cx])).nodup_iff.mpr hp
end
section
open PySem PySem.W PyProof.Rows
theorem off17 : True := by (w_top off; trivial)
section
variable {w : World} {lo : List Str} {mean : ExcName → Option Value} {mg mb : Str → Option Value} {dp un : Nat} {gd : Option (List Code)} {cn : Str} {cs : Scope} {L a : Addr} {ccd : Value} {cl : List (Str × Addr)} {outer : List Env}
    {A₀ : Around} {base h₀ : Heap} {m : Str → Option Value} {rest : List (Addr × Obj)} {s : Shared} {E : Value → Shared → Prop}
theorem serve_none {Q : Value → Shared → Prop} {ch x0 d0 x1 d1 x2 d2 x3 d3 cx dx mx : Nat} {k0 k1 k2 k3 kt : Nat → Nat} {z0 z1 z2 z3 : Int} {y0 y1 y2 y3 : Nat} {a0 s0 a1 s1 a2 s2 a3 s3 : Bool} {r ss ix iy i iff2 halt : Value} {sp pc ref states iff1 : Int} {tsp tpc tref tst t1 tm : Nat} {mv : List Value} {mn : List Int} {nn : Nat}
    (C : Cx w lo mean mg mb dp un cs outer A₀ base h₀ L m s.heap 20)
    (N : News h₀ L s.heap ((chainL w.params ch x0 d0 x1 d1 x2 d2 x3 d3 k0 k1 k2 k3 (.int z0 y0) (.int z1 y1) (.int z2 y2) (.int z3 y3) a0 s0 a1 s1 a2 s2 a3 s3 ++ cpuL w.params cx dx mx kt r ss ix iy (.int sp tsp) (.int pc tpc) i (.int ref tref) (.int iff1 t1) iff2 (.int 1 tm) halt (.bool false) (.int states tst) mv nn) ++ rest))
    (hoff : OwnOff rest (chainA ch x0 d0 x1 d1 x2 d2 x3 d3 ++ [cx, dx, mx]))
    (ho : mx < dx ∧ dx < cx ∧ cx < d0 ∧ d0 < x0 ∧ x0 < d1 ∧ d1 < x1 ∧ x1 < d2 ∧ d2 < x2 ∧ x2 < d3 ∧ d3 < x3) (hch : ∀ b ∈ [mx, dx, cx, d0, x0, d1, x1, d2, x2, d3, x3], ch ≠ b)
    (hmv : IntsAre mv mn) (hml : mn.length = 256) (hsp : 2 ≤ sp) (hsp2 : sp ≤ 256) (hn : want a0 s0 a1 s1 a2 s2 a3 s3 = none ∨ iff1 ≠ 1)
    (hret0 : ∀ (h' : Heap) (tk' : Nat), Fr h₀ L h' m →
      News h₀ L h' ((chainL w.params ch x0 d0 x1 d1 x2 d2 x3 d3 k0 k1 k2 k3 (.int z0 y0) (.int z1 y1) (.int z2 y2) (.int z3 y3) a0 s0 a1 s1 a2 s2 a3 s3 ++ cpuL w.params cx dx mx kt r ss ix iy (.int sp tsp) (.int pc tpc) i (.int ref tref) (.int iff1 t1) iff2 (.int 1 tm) halt (.bool false) (.int states tst) mv nn) ++ rest) → Q .none { s with heap := h', toks := tk' }) :
    wpAny (model prg w) (ktrTop dp un gd cn cs L a ccd cl outer) (call (.ref 230) [.ref cx, .ref mx, .ref ch]) Q E s :=
  serve_spec C N hoff ho hch hmv hml hsp hsp2 (fun h' tk' _ F' N' => hret0 h' tk' F' N') fun j _ _ _ _ _ _ _ _ _ _ _ _ _ hw hi => by
    rcases hn with e | e
    · rw [e] at hw; cases hw
    · exact absurd hi e
theorem serve_some {Q : Value → Shared → Prop} {ch x0 d0 x1 d1 x2 d2 x3 d3 cx dx mx : Nat} {k0 k1 k2 k3 kt : Nat → Nat} {z0 z1 z2 z3 : Int} {y0 y1 y2 y3 : Nat} {a0 s0 a1 s1 a2 s2 a3 s3 : Bool} {r ss ix iy i iff2 halt : Value} {sp pc ref states : Int} {tsp tpc tref tst t1 tm : Nat} {mv : List Value} {mn : List Int} {nn : Nat} {j : Int}
    (C : Cx w lo mean mg mb dp un cs outer A₀ base h₀ L m s.heap 20)
    (N : News h₀ L s.heap ((chainL w.params ch x0 d0 x1 d1 x2 d2 x3 d3 k0 k1 k2 k3 (.int z0 y0) (.int z1 y1) (.int z2 y2) (.int z3 y3) a0 s0 a1 s1 a2 s2 a3 s3 ++ cpuL w.params cx dx mx kt r ss ix iy (.int sp tsp) (.int pc tpc) i (.int ref tref) (.int 1 t1) iff2 (.int 1 tm) halt (.bool false) (.int states tst) mv nn) ++ rest))
    (hoff : OwnOff rest (chainA ch x0 d0 x1 d1 x2 d2 x3 d3 ++ [cx, dx, mx]))
    (ho : mx < dx ∧ dx < cx ∧ cx < d0 ∧ d0 < x0 ∧ x0 < d1 ∧ d1 < x1 ∧ x1 < d2 ∧ d2 < x2 ∧ x2 < d3 ∧ d3 < x3) (hch : ∀ b ∈ [mx, dx, cx, d0, x0, d1, x1, d2, x2, d3, x3], ch ≠ b)
    (hmv : IntsAre mv mn) (hml : mn.length = 256) (hsp : 2 ≤ sp) (hsp2 : sp ≤ 256) (hn : want a0 s0 a1 s1 a2 s2 a3 s3 = some j)
    (hret : ∀ (t : Nat) (st' ref' : Int) (t1 t2 tsp' tpc' tref' tst' : Nat) (mv' : List Value) (h' : Heap) (tk' : Nat), IntsAre mv' ((mn.set (sp - 2).toNat (pc % 256)).set (sp - 1).toNat (pc / 256 % 256)) → Fr h₀ L h' m →
      News h₀ L h' ((chainL w.params ch x0 d0 x1 d1 x2 d2 x3 d3 k0 k1 k2 k3 (.int z0 y0) (.int z1 y1) (.int z2 y2) (.int z3 y3) (if j = 0 then false else a0) (if j = 0 then true else s0) (if j = 1 then false else a1) (if j = 1 then true else s1) (if j = 2 then false else a2) (if j = 2 then true else s2) (if j = 3 then false else a3) (if j = 3 then true else s3) ++
        cpuL w.params cx dx mx kt r ss ix iy (.int (sp - 2) tsp') (.int 56 tpc') i (.int ref' tref') (.int 0 t1) (.int 0 t2) (.int 1 tm) (.bool false) (.bool false) (.int st' tst') mv' nn) ++ rest) → Q (.int j t) { s with heap := h', toks := tk' }) :
    wpAny (model prg w) (ktrTop dp un gd cn cs L a ccd cl outer) (call (.ref 230) [.ref cx, .ref mx, .ref ch]) Q E s :=
  serve_spec C N hoff ho hch hmv hml hsp hsp2 (fun h' tk' hw F' N' => by
    rcases hw with e | e
    · rw [e] at hn; cases hn
    · exact absurd rfl e) fun j' t st' ref' t1 t2 tsp' tpc' tref' tst' mv' mn' h' tk' hw _ e hi F' N' => by
    subst e
    obtain rfl : j = j' := Option.some.inj (hn.symm.trans hw)
    exact hret t st' ref' t1 t2 tsp' tpc' tref' tst' mv' h' tk' hi F' N'
theorem isOpt_cases {v : Value} {o : Option Int} (h : IsOpt v o) : (o = none ∧ v = .none) ∨ ∃ j t, o = some j ∧ v = .int j t := by
  cases o with
  | none => exact .inl ⟨rfl, h⟩
  | some j => obtain ⟨t, e⟩ := h; exact .inr ⟨j, t, rfl, e⟩
local macro_rules | `(tactic| walk_at "call ref") => `(tactic| ((with_reducible show wpAny _ _ (call (Value.ref 435) _) _ _ _); refine Mine.stop_here ?_))
local macro_rules | `(tactic| walk_at "call ref") => `(tactic| ((with_reducible show wpAny _ _ (call (Value.ref 230) _) _ _ _); refine Mine.stop_here ?_))
local macro_rules | `(tactic| walk_at "call ref") => `(tactic| ((with_reducible show wpAny _ _ (call (Value.ref 230) _) _ _ _); refine Mine.stop_here ?_))
local macro_rules | `(tactic| walk_at "compareOp NotEq int int") => `(tactic| (k_here; k_dflt (refine' ne_int_same ?e ?_; (case e => first | (with_reducible exact rfl) | (with_reducible assumption)); k_whole)))
local macro_rules | `(tactic| walk_at "call builtin:list.append") => `(tactic| ((with_reducible show wpAny _ _ (call (Value.builtin _) [Value.ref _, _]) _ _ _); refine Mine.stop_here ?_))
theorem blk_spec {Q : Flow → Shared → Prop} {f : TF} {kv fo nu : Value} {m₀ u : Str → Option Value} {pl wl : Nat} {R : List (Addr × Obj)} {sp pc ref i1 i2 st : Int} {tsp tpc tref t1 t2 tst pn : Nat} {halt : Value} {mv pv : List Value} {mn : List Int} {a0 s0 a1 s1 a2 s2 a3 s3 : Bool}
    (C : Cx w lo mean mg mb dp un (lawScope w.params) outer A₀ base h₀ L (MW f kv m₀ u fo nu (.int pc pl) (.int i1 wl)) s.heap 40)
    (N : News h₀ L s.heap ((chainL w.params f.ch f.x0 f.d0 f.x1 f.d1 f.x2 f.d2 f.x3 f.d3 f.k0 f.k1 f.k2 f.k3 (.int f.z0 f.y0) (.int f.z1 f.y1) (.int f.z2 f.y2) (.int f.z3 f.y3) a0 s0 a1 s1 a2 s2 a3 s3 ++ (cpuL w.params f.cx f.dx f.mx f.kt f.r f.ss f.ix f.iy (.int sp tsp) (.int pc tpc) f.i (.int ref tref) (.int i1 t1) (.int i2 t2) (.int 1 f.tm) halt (.bool false) (.int st tst) mv f.nn ++ [(f.px, listOf pv.toArray pn)])) ++ R)) (hoffc : OwnOff R [f.ch, f.x0, f.d0, f.x1, f.d1, f.x2, f.d2, f.x3, f.d3]) (hoffs : OwnOff R [f.ch, f.x0, f.d0, f.x1, f.d1, f.x2, f.d2, f.x3, f.d3, f.cx, f.dx, f.mx]) (hoffp : OwnOff R [f.px]) (hord : OrdT f) (hasc : Asc (srtT f))
    (hmv : IntsAre mv mn) (hml : mn.length = 256) (hsp : 2 ≤ sp) (hsp2 : sp ≤ 256) (hpl : pv.length ≤ 100) (hi : i1 = 0 ∨ i1 = 1)
    (k0 : ∀ (m' : Str → Option Value) (h' : Heap) (tk' : Nat), MmOk f kv m₀ m' → Fr h₀ L h' m' → News h₀ L h' ((chainL w.params f.ch f.x0 f.d0 f.x1 f.d1 f.x2 f.d2 f.x3 f.d3 f.k0 f.k1 f.k2 f.k3 (.int f.z0 f.y0) (.int f.z1 f.y1) (.int f.z2 f.y2) (.int f.z3 f.y3) a0 s0 a1 s1 a2 s2 a3 s3 ++ (cpuL w.params f.cx f.dx f.mx f.kt f.r f.ss f.ix f.iy (.int sp tsp) (.int pc tpc) f.i (.int ref tref) (.int i1 t1) (.int i2 t2) (.int 1 f.tm) halt (.bool false) (.int st tst) mv f.nn ++ [(f.px, listOf pv.toArray pn)])) ++ R) → Q .next { s with heap := h', toks := tk' })
    (k1 : ∀ (j : Int) (tj : Nat) (st' ref' : Int) (D t1' t2' tsp' tpc' tref' tst' : Nat) (mv' : List Value) (m' : Str → Option Value) (h' : Heap) (tk' : Nat) (l : List (Addr × Obj)), i1 = 1 → want a0 s0 a1 s1 a2 s2 a3 s3 = some j → IntsAre mv' ((mn.set (sp - 2).toNat (pc % 256)).set (sp - 1).toNat (pc / 256 % 256)) → MmOk f kv m₀ m' → Fr h₀ L h' m' →
      News h₀ L h' ((D, tup2 (.int j tj) (.int pc pl)) :: l) → AllLt D l → Sel ((chainL w.params f.ch f.x0 f.d0 f.x1 f.d1 f.x2 f.d2 f.x3 f.d3 f.k0 f.k1 f.k2 f.k3 (.int f.z0 f.y0) (.int f.z1 f.y1) (.int f.z2 f.y2) (.int f.z3 f.y3) (if j = 0 then false else a0) (if j = 0 then true else s0) (if j = 1 then false else a1) (if j = 1 then true else s1) (if j = 2 then false else a2) (if j = 2 then true else s2) (if j = 3 then false else a3) (if j = 3 then true else s3) ++ (cpuL w.params f.cx f.dx f.mx f.kt f.r f.ss f.ix f.iy (.int (sp - 2) tsp') (.int 56 tpc') f.i (.int ref' tref') (.int 0 t1') (.int 0 t2') (.int 1 f.tm) (.bool false) (.bool false) (.int st' tst') mv' f.nn ++ [(f.px, listOf (pv ++ [Value.ref D]).toArray (pn + 1))])) ++ R) l → Q .next { s with heap := h', toks := tk' }) :
    wpAny (model prg w) (ktrTop dp un gd lawName (lawScope w.params) L a ccd [] outer) (execs (lawFn w.params).blk (envOf lawName (lawScope w.params) L a ccd)) Q E s := by
  dsimp only [lawScope, lawName, lawFn]
  obtain ⟨B, F, X, T, hk, hdp, hun⟩ := C
  delta MW MM psT at F
  dsimp only [kstB] at F
  have n_ch : f.ch ≠ f.px := asc_ne hasc 5 14 rfl rfl (by decide)
  have n_x0 : f.x0 ≠ f.px := asc_ne hasc 7 14 rfl rfl (by decide)
  have n_d0 : f.d0 ≠ f.px := asc_ne hasc 6 14 rfl rfl (by decide)
  have n_x1 : f.x1 ≠ f.px := asc_ne hasc 9 14 rfl rfl (by decide)
  have n_d1 : f.d1 ≠ f.px := asc_ne hasc 8 14 rfl rfl (by decide)
  have n_x2 : f.x2 ≠ f.px := asc_ne hasc 11 14 rfl rfl (by decide)
  have n_d2 : f.d2 ≠ f.px := asc_ne hasc 10 14 rfl rfl (by decide)
  have n_x3 : f.x3 ≠ f.px := asc_ne hasc 13 14 rfl rfl (by decide)
  have n_d3 : f.d3 ≠ f.px := asc_ne hasc 12 14 rfl rfl (by decide)
  have n_cx : f.cx ≠ f.px := asc_ne hasc 4 14 rfl rfl (by decide)
  have n_dx : f.dx ≠ f.px := asc_ne hasc 3 14 rfl rfl (by decide)
  have n_mx : f.mx ≠ f.px := asc_ne hasc 2 14 rfl rfl (by decide)
  have r1 : f.mx < f.dx ∧ f.dx < f.cx ∧ f.cx < f.d0 ∧ f.d0 < f.x0 ∧ f.x0 < f.d1 ∧ f.d1 < f.x1 ∧ f.x1 < f.d2 ∧ f.d2 < f.x2 ∧ f.x2 < f.d3 ∧ f.d3 < f.x3 := ⟨hord.h.2.2.1, hord.h.2.2.2.1, hord.h.2.2.2.2.1, hord.h.2.2.2.2.2.1, hord.h.2.2.2.2.2.2.1, hord.h.2.2.2.2.2.2.2.1, hord.h.2.2.2.2.2.2.2.2.1, hord.h.2.2.2.2.2.2.2.2.2.1, hord.h.2.2.2.2.2.2.2.2.2.2.1, hord.h.2.2.2.2.2.2.2.2.2.2.2.1⟩
  have r2 : ∀ b ∈ [f.mx, f.dx, f.cx, f.d0, f.x0, f.d1, f.x1, f.d2, f.x2, f.d3, f.x3], f.ch ≠ b := asc_off hasc 5 [2, 3, 4, 6, 7, 8, 9, 10, 11, 12, 13] rfl rfl
  dsimp only [chainL, cpuL, List.cons_append, List.nil_append] at N
  rcases hi with hi | hi
  · subst hi
    repeat' (first | (k_unfold; (try dsimp only)) | (refine Mine.stop_go ?_; first | ((with_reducible show wpAny _ _ (call (Value.builtin _) [Value.ref _, _]) _ _ _); k_dflt (refine' my_append ?F ?N ?U ?z ?_; (case F => k_asm); (case N => k_asm); (case U => k_upd); (case z => with_reducible assumption); k_whole); intro h' F' N'; (try k_sweep)) | ((with_reducible show wpAny _ _ (call (Value.ref 230) _) _ _ _); k_dflt (refine' serve_some ?C ?N ?ho ?h1 ?hc ?h2 ?h3 ?h4 ?h5 ?h6 ?_; (case C => exact ⟨by k_asm, by k_asm, by k_asm, by k_asm, by exact rfl, by k_room, by ktr_units⟩); (case N => (refine' News.sel ?hN ?hS; (case hN => k_asm); (case hS => tb_start))); (case ho => (try dsimp only [chainA, List.cons_append, List.nil_append]); repeat' (first | (with_reducible assumption) | refine ownOff_cons (asc_off (by with_reducible assumption) 14 [5, 7, 6, 9, 8, 11, 10, 13, 12, 4, 3, 2] rfl rfl) ?_)); (case h1 => with_reducible assumption); (case hc => with_reducible assumption); (case h2 => assumption); (case h3 => assumption); (case h4 => with_reducible assumption); (case h5 => with_reducible assumption); (case h6 => with_reducible assumption); k_whole); intro t' st' ref' t1' t2' tsp' tpc' tref' tst' mv' h' tk' hi' F' N'; dsimp only [chainL, cpuL, List.cons_append, List.nil_append] at N'; k_sweep) | ((with_reducible show wpAny _ _ (call (Value.ref 230) _) _ _ _); k_dflt (refine' serve_none ?C ?N ?ho ?h1 ?hc ?h2 ?h3 ?h4 ?h5 ?h6 ?_; (case C => exact ⟨by k_asm, by k_asm, by k_asm, by k_asm, by exact rfl, by k_room, by ktr_units⟩); (case N => (refine' News.sel ?hN ?hS; (case hN => k_asm); (case hS => tb_start))); (case ho => (try dsimp only [chainA, List.cons_append, List.nil_append]); repeat' (first | (with_reducible assumption) | refine ownOff_cons (asc_off (by with_reducible assumption) 14 [5, 7, 6, 9, 8, 11, 10, 13, 12, 4, 3, 2] rfl rfl) ?_)); (case h1 => with_reducible assumption); (case hc => with_reducible assumption); (case h2 => assumption); (case h3 => assumption); (case h4 => with_reducible assumption); (case h5 => with_reducible assumption); (case h6 => first | exact .inl (by assumption) | exact .inr (by decide)); k_whole); intro h' tk' F' N'; dsimp only [chainL, cpuL, List.cons_append, List.nil_append] at N'; k_sweep) | ((with_reducible show wpAny _ _ (call (Value.ref 435) _) _ _ _); k_dflt (refine' wanted_spec ?C ?N ?ho ?_; (case C => exact ⟨by k_asm, by k_asm, by k_asm, by k_asm, by exact rfl, by k_room, by ktr_units⟩); (case N => (refine' News.sel ?hN ?hS; (case hN => k_asm); (case hS => tb_start))); (case ho => (try dsimp only [chainA, List.cons_append, List.nil_append]); repeat' (first | (with_reducible assumption) | refine ownOff_cons (asc_off (by with_reducible assumption) 4 [5, 7, 6, 9, 8, 11, 10, 13, 12] rfl rfl) ?_ | refine ownOff_cons (asc_off (by with_reducible assumption) 3 [5, 7, 6, 9, 8, 11, 10, 13, 12] rfl rfl) ?_ | refine ownOff_cons (asc_off (by with_reducible assumption) 2 [5, 7, 6, 9, 8, 11, 10, 13, 12] rfl rfl) ?_ | refine ownOff_cons (asc_off (by with_reducible assumption) 14 [5, 7, 6, 9, 8, 11, 10, 13, 12] rfl rfl) ?_)); k_whole); intro v' h' tk' hv' F' N'; dsimp only [chainL, cpuL, List.cons_append, List.nil_append] at N'; k_sweep; (rcases isOpt_cases hv' with ⟨hw', ev'⟩ | ⟨j', ti', hw', ev'⟩ <;> (subst ev'; clear hv'; (try dsimp only))))) | (k_end; wrow_close) | (walk1; all_goals (try dsimp only); all_goals (try (with_reducible refine Mine.wp_tok ?_; intro _))) | (dsimp only; walk1) | (leave1; walk_say "STEP leave1"; try dsimp only))
    (rename News _ _ _ _ => lN'; rename Fr _ _ _ _ => lF')
    exact k0 _ _ _ (by repeat' (first | exact mm_base | refine mm_step (by decide) ?_)) lF' (News.sel lN' (by tb_start))
  · subst hi
    repeat' (first | (k_unfold; (try dsimp only)) | (refine Mine.stop_go ?_; first | ((with_reducible show wpAny _ _ (call (Value.builtin _) [Value.ref _, _]) _ _ _); k_dflt (refine' my_append ?F ?N ?U ?z ?_; (case F => k_asm); (case N => k_asm); (case U => k_upd); (case z => with_reducible assumption); k_whole); intro h' F' N'; (try k_sweep)) | ((with_reducible show wpAny _ _ (call (Value.ref 230) _) _ _ _); k_dflt (refine' serve_some ?C ?N ?ho ?h1 ?hc ?h2 ?h3 ?h4 ?h5 ?h6 ?_; (case C => exact ⟨by k_asm, by k_asm, by k_asm, by k_asm, by exact rfl, by k_room, by ktr_units⟩); (case N => (refine' News.sel ?hN ?hS; (case hN => k_asm); (case hS => tb_start))); (case ho => (try dsimp only [chainA, List.cons_append, List.nil_append]); repeat' (first | (with_reducible assumption) | refine ownOff_cons (asc_off (by with_reducible assumption) 14 [5, 7, 6, 9, 8, 11, 10, 13, 12, 4, 3, 2] rfl rfl) ?_)); (case h1 => with_reducible assumption); (case hc => with_reducible assumption); (case h2 => assumption); (case h3 => assumption); (case h4 => with_reducible assumption); (case h5 => with_reducible assumption); (case h6 => with_reducible assumption); k_whole); intro t' st' ref' t1' t2' tsp' tpc' tref' tst' mv' h' tk' hi' F' N'; dsimp only [chainL, cpuL, List.cons_append, List.nil_append] at N'; k_sweep) | ((with_reducible show wpAny _ _ (call (Value.ref 230) _) _ _ _); k_dflt (refine' serve_none ?C ?N ?ho ?h1 ?hc ?h2 ?h3 ?h4 ?h5 ?h6 ?_; (case C => exact ⟨by k_asm, by k_asm, by k_asm, by k_asm, by exact rfl, by k_room, by ktr_units⟩); (case N => (refine' News.sel ?hN ?hS; (case hN => k_asm); (case hS => tb_start))); (case ho => (try dsimp only [chainA, List.cons_append, List.nil_append]); repeat' (first | (with_reducible assumption) | refine ownOff_cons (asc_off (by with_reducible assumption) 14 [5, 7, 6, 9, 8, 11, 10, 13, 12, 4, 3, 2] rfl rfl) ?_)); (case h1 => with_reducible assumption); (case hc => with_reducible assumption); (case h2 => assumption); (case h3 => assumption); (case h4 => with_reducible assumption); (case h5 => with_reducible assumption); (case h6 => first | exact .inl (by assumption) | exact .inr (by decide)); k_whole); intro h' tk' F' N'; dsimp only [chainL, cpuL, List.cons_append, List.nil_append] at N'; k_sweep) | ((with_reducible show wpAny _ _ (call (Value.ref 435) _) _ _ _); k_dflt (refine' wanted_spec ?C ?N ?ho ?_; (case C => exact ⟨by k_asm, by k_asm, by k_asm, by k_asm, by exact rfl, by k_room, by ktr_units⟩); (case N => (refine' News.sel ?hN ?hS; (case hN => k_asm); (case hS => tb_start))); (case ho => (try dsimp only [chainA, List.cons_append, List.nil_append]); repeat' (first | (with_reducible assumption) | refine ownOff_cons (asc_off (by with_reducible assumption) 4 [5, 7, 6, 9, 8, 11, 10, 13, 12] rfl rfl) ?_ | refine ownOff_cons (asc_off (by with_reducible assumption) 3 [5, 7, 6, 9, 8, 11, 10, 13, 12] rfl rfl) ?_ | refine ownOff_cons (asc_off (by with_reducible assumption) 2 [5, 7, 6, 9, 8, 11, 10, 13, 12] rfl rfl) ?_ | refine ownOff_cons (asc_off (by with_reducible assumption) 14 [5, 7, 6, 9, 8, 11, 10, 13, 12] rfl rfl) ?_)); k_whole); intro v' h' tk' hv' F' N'; dsimp only [chainL, cpuL, List.cons_append, List.nil_append] at N'; k_sweep; (rcases isOpt_cases hv' with ⟨hw', ev'⟩ | ⟨j', ti', hw', ev'⟩ <;> (subst ev'; clear hv'; (try dsimp only))))) | (k_end; wrow_close) | (walk1; all_goals (try dsimp only); all_goals (try (with_reducible refine Mine.wp_tok ?_; intro _))) | (dsimp only; walk1) | (leave1; walk_say "STEP leave1"; try dsimp only))
    · (rename News _ _ _ _ => lN'; rename Fr _ _ _ _ => lF')
      exact k0 _ _ _ (by repeat' (first | exact mm_base | refine mm_step (by decide) ?_)) lF' (News.sel lN' (by tb_start))
    · (rename News _ _ _ _ => lN'; rename Fr _ _ _ _ => lF'; rename _ ∧ _ => l1')
      exact k1 _ _ _ _ _ _ _ _ _ _ _ _ _ _ _ _ rfl (by assumption) (by assumption) (by repeat' (first | exact mm_base | refine mm_step (by decide) ?_)) lF' lN' l1' (by tb_start)
end
end
section
open PySem PySem.W PyProof.Rows
theorem off18 : True := by (w_top off; trivial)
structure ElsFn (P : Params) where
  t3 : PySem.Expr
  x3 : List Stmt
  t4 : PySem.Expr
  x4 : List Stmt
  t5 : PySem.Expr
  x5 : List Stmt
  p3 : Pos
  p4 : Pos
  p5 : Pos
  ok : (lawFn P).els = [.If t3 x3 [.If t4 x4 [.If t5 x5 [] p5] p4] p3]
def elsFn (P : Params) : ElsFn P := ⟨_, _, _, _, _, _, _, _, _, by exact rfl⟩
section
variable {M : Model} {A : Around} {env : Env} {E : Value → Shared → Prop} {s : Shared} {test : PySem.Expr} {body orelse : List Stmt} {pos : Pos} {Q : Flow → Shared → Prop}
theorem if_no (h : wpAny M A (isTrue test env (eval test env)) (fun b s₂ => b = false ∧ wpAny M A (execs orelse env) Q E s₂) E s) : wpAny M A (exec (.If test body orelse pos) env) Q E s :=
  wpAny_If (wpAny_mono h (fun b s₂ hb => by obtain ⟨rfl, hb⟩ := hb; exact hb) fun _ _ x => x)
theorem if_yes (h : wpAny M A (isTrue test env (eval test env)) (fun b s₂ => b = true ∧ wpAny M A (execs body env) Q E s₂) E s) : wpAny M A (exec (.If test body orelse pos) env) Q E s :=
  wpAny_If (wpAny_mono h (fun b s₂ hb => by obtain ⟨rfl, hb⟩ := hb; exact hb) fun _ _ x => x)
theorem execs_one {st : Stmt} (h : wpAny M A (exec st env) Q E s) : wpAny M A (execs [st] env) Q E s :=
  wpAny_execs_cons (wpAny_mono h (fun fl s' hq => by cases fl <;> first | exact wpAny_execs_nil hq | exact hq) fun _ _ x => x)
def Val (b c : Bool) : Prop := b = c
theorem bool_val {b c : Bool} {Q : Bool → Shared → Prop} (hb : Val b c) (h : wpAny M A (truthy (.bool c)) Q E s) : wpAny M A (truthy (.bool b)) Q E s := (show b = c from hb) ▸ h
end
def toDat (p : Option Int × Int) : Dat := .tuple [match p.1 with | none => .none | some i => .int i, .int p.2]
theorem pile_dat {tl : List (Addr × Obj)} {vs : List Value} {ds : List (Option Int × Int)} (h : PileIs tl vs ds) : DatAll tl vs (ds.map toDat) := by
  induction h with
  | nil => exact .nil
  | @cons t nv o p tp vs ds a b _ ih =>
    refine .cons (.tuple (n := 0) b (.cons ?_ (.cons (.int p tp) .nil))) ih
    cases o with
    | none => rw [show nv = Value.none from a]; exact .none
    | some i => obtain ⟨t, e⟩ := a; rw [e]; exact .int i t
theorem pile_ok {ds : List (Option Int × Int)} : ∀ d ∈ ds.map toDat, kqdOk 8 d = true := fun d hd => by
  obtain ⟨⟨o, p⟩, _, rfl⟩ := List.mem_map.mp hd
  cases o <;> rfl
section
variable {prog : Program} {w : World} {A : Around} {E : Value → Shared → Prop} {s : Shared} {h₀ : Heap} {L px D : Addr} {news R : List (Addr × Obj)} {pv : List Value} {dl : List (Option Int × Int)} {pn k : Nat} {Q : Value → Shared → Prop}
theorem news_cons {h : Heap} {p : Addr × Obj} (N : News h₀ L h news) (m : p ∈ news) : News h₀ L h (p :: news) := fun q hq => by
  rcases List.mem_cons.mp hq with e | e
  · exact e ▸ N _ m
  · exact N q e
theorem subs_tail {x : Addr × Obj} {l R : List (Addr × Obj)} (h : ∀ p ∈ R, p ∈ l) : ∀ p ∈ R, p ∈ x :: l := fun p hp => .tail _ (h p hp)
theorem pile_eq_t (hp : PileIs R pv dl) (hd : dl = []) (N : News h₀ L s.heap news) (m : (px, listOf pv.toArray pn) ∈ news) (hR : ∀ p ∈ R, p ∈ news) (mD : (D, listOf ([] : List Value).toArray k) ∈ news) (hu : A.units + 64 < cLine)
    (h : Q (.bool true) s) : wpAny (model prog w) A (compareOp .Eq (.ref px) (.ref D)) Q E s :=
  kqd_eq N m rfl rfl (pile_dat hp) hR mD rfl rfl (n₂ := []) .nil (fun _ h => nomatch h) pile_ok (fun _ h => nomatch h) hu (by subst hd; simpa using h)
theorem pile_eq_f (hp : PileIs R pv dl) (hd : dl ≠ []) (N : News h₀ L s.heap news) (m : (px, listOf pv.toArray pn) ∈ news) (hR : ∀ p ∈ R, p ∈ news) (mD : (D, listOf ([] : List Value).toArray k) ∈ news) (hu : A.units + 64 < cLine)
    (h : Q (.bool false) s) : wpAny (model prog w) A (compareOp .Eq (.ref px) (.ref D)) Q E s :=
  kqd_eq N m rfl rfl (pile_dat hp) hR mD rfl rfl (n₂ := []) .nil (fun _ h => nomatch h) pile_ok (fun _ h => nomatch h) hu (by simpa [hd] using h)
theorem pile_ne_t (hp : PileIs R pv dl) (hd : dl ≠ []) (N : News h₀ L s.heap news) (m : (px, listOf pv.toArray pn) ∈ news) (hR : ∀ p ∈ R, p ∈ news) (mD : (D, listOf ([] : List Value).toArray k) ∈ news) (hu : A.units + 64 < cLine)
    (h : Q (.bool true) s) : wpAny (model prog w) A (compareOp .NotEq (.ref px) (.ref D)) Q E s :=
  kqd_ne N m rfl rfl (pile_dat hp) hR mD rfl rfl (n₂ := []) .nil (fun _ h => nomatch h) pile_ok (fun _ h => nomatch h) hu (by simpa [hd] using h)
theorem pile_ne_f (hp : PileIs R pv dl) (hd : dl = []) (N : News h₀ L s.heap news) (m : (px, listOf pv.toArray pn) ∈ news) (hR : ∀ p ∈ R, p ∈ news) (mD : (D, listOf ([] : List Value).toArray k) ∈ news) (hu : A.units + 64 < cLine)
    (h : Q (.bool false) s) : wpAny (model prog w) A (compareOp .NotEq (.ref px) (.ref D)) Q E s :=
  kqd_ne N m rfl rfl (pile_dat hp) hR mD rfl rfl (n₂ := []) .nil (fun _ h => nomatch h) pile_ok (fun _ h => nomatch h) hu (by subst hd; simpa using h)
end
section
variable {prog : Program} {w : World} {A : Around} {E : Value → Shared → Prop} {s : Shared} {h₀ : Heap} {L D : Addr} {news : List (Addr × Obj)} {n : Nat}
theorem pile_last {value slice : PySem.Expr} {vi : List Value} {x : Value} {t : Tok} {Q : Value → Shared → Prop} (N : News h₀ L s.heap news) (m : (D, listOf (vi ++ [x]).toArray n) ∈ news) (h : Q x s)
    (hs : subscripted slice false (.ref D) (.int (-1) t) = operate [.ref D, .int (-1) t] (getItem (.ref D) (.int (-1) t)) := by with_unfolding_all rfl) (hg : ∀ r, letTemporaryGo value (.ref D) r = pure () := by intro _; with_unfolding_all rfl) :
    wpAny (model prog w) A (subscriptTail value slice (.ref D) (.int (-1) t)) Q E s :=
  PySem.W.kim_back N m rfl rfl (by decide) (by rw [List.length_append, List.length_singleton]; omega) (by decide) (by
    have e : ((-1 : Int) + ((vi ++ [x]).length : Int)).toNat = vi.length := by rw [List.length_append, List.length_singleton]; omega
    rw [e]; simp) h hs hg
end
local macro_rules | `(tactic| walk_at "pad") => `(tactic| skip)
local macro_rules | `(tactic| walk_at "truthy bool") => `(tactic| (k_here; k_dflt (refine' bool_val ?hb ?_; (case hb => with_reducible assumption); k_whole)))
local macro_rules | `(tactic| walk_at "subscriptTail Name UnaryOp ref int") => `(tactic| (k_here; k_dflt (refine' pile_last ?N ?m ?_; (case N => k_asm); (case m => k_mem); k_whole)))
local macro_rules | `(tactic| walk_at "call builtin:len") => `(tactic| ((with_reducible show wpAny _ _ (call (Value.builtin "len") [Value.ref _]) _ _ _); refine Mine.stop_here ?_))
local macro_rules | `(tactic| walk_at "compareOp Eq ref ref") => `(tactic| (k_here; k_dflt (first
  | (refine' pile_eq_t (by with_reducible assumption) ?d ?N ?m ?R ?D ?u ?_; (case d => with_reducible assumption); (case N => k_asm); (case m => k_mem); (case R => repeat' (first | (with_reducible assumption) | refine subs_tail ?_)); (case D => k_mem); (case u => ktr_units); k_whole)
  | (refine' pile_eq_f (by with_reducible assumption) ?d ?N ?m ?R ?D ?u ?_; (case d => with_reducible assumption); (case N => k_asm); (case m => k_mem); (case R => repeat' (first | (with_reducible assumption) | refine subs_tail ?_)); (case D => k_mem); (case u => ktr_units); k_whole))))
local macro_rules | `(tactic| walk_at "compareOp NotEq ref ref") => `(tactic| (k_here; k_dflt (first
  | (refine' pile_ne_t (by with_reducible assumption) ?d ?N ?m ?R ?D ?u ?_; (case d => with_reducible assumption); (case N => k_asm); (case m => k_mem); (case R => repeat' (first | (with_reducible assumption) | refine subs_tail ?_)); (case D => k_mem); (case u => ktr_units); k_whole)
  | (refine' pile_ne_f (by with_reducible assumption) ?d ?N ?m ?R ?D ?u ?_; (case d => with_reducible assumption); (case N => k_asm); (case m => k_mem); (case R => repeat' (first | (with_reducible assumption) | refine subs_tail ?_)); (case D => k_mem); (case u => ktr_units); k_whole))))
section
variable {w : World} {lo : List Str} {mean : ExcName → Option Value} {mg mb : Str → Option Value} {dp un : Nat} {gd : Option (List Code)} {L a : Addr} {ccd : Value} {outer : List Env}
    {A₀ : Around} {base h₀ : Heap} {s : Shared} {E : Value → Shared → Prop} {f : TF} {kv nu pl wl : Value} {m₀ u : Str → Option Value} {v : Int} {tv : Nat} {news : List (Addr × Obj)} {Q : Bool → Shared → Prop}
    {R : List (Addr × Obj)} {pv : List Value} {dl : List (Option Int × Int)} {pn : Nat}
theorem t0_no (C : Cx w lo mean mg mb dp un (lawScope w.params) outer A₀ base h₀ L (MW f kv m₀ u (.int v tv) nu pl wl) s.heap 40)
    (N : News h₀ L s.heap news) (hv : v ≠ 0)
    (k : ∀ (h' : Heap) (tk' : Nat), Fr h₀ L h' (MW f kv m₀ u (.int v tv) nu pl wl) → News h₀ L h' news → Q false { s with heap := h', toks := tk' }) :
    wpAny (model prg w) (ktrTop dp un gd lawName (lawScope w.params) L a ccd [] outer) (isTrue (lawFn w.params).t0 (envOf lawName (lawScope w.params) L a ccd) (eval (lawFn w.params).t0 (envOf lawName (lawScope w.params) L a ccd))) Q E s := by
  dsimp only [lawScope, lawName, lawFn]
  obtain ⟨B, F, X, T, hk, hdp, hun⟩ := C
  delta MW MM psT at F
  dsimp only [kstB] at F
  have e0 : Val ((v == 0)) false := by show (v == 0) = false; simp [hv]
  repeat' (first | (k_unfold; (try dsimp only)) | (refine Mine.stop_go ?_; first | ((with_reducible show wpAny _ _ (call (Value.builtin "len") [Value.ref _]) _ _ _); k_dflt (refine' my_len ?N ?m ?e ?k ?_; (case N => k_asm); (case m => k_mem); (case e => with_reducible assumption); (case k => omega); k_whole); intro t' tk')) | (k_end; wrow_close) | walk1 | (dsimp only; walk1) | (leave1; walk_say "STEP leave1"; try dsimp only))
  exact k _ _ (by assumption) (by assumption)
theorem t1_no (C : Cx w lo mean mg mb dp un (lawScope w.params) outer A₀ base h₀ L (MW f kv m₀ u (.int v tv) nu pl wl) s.heap 40)
    (N : News h₀ L s.heap news) (hv : v ≠ 1)
    (k : ∀ (h' : Heap) (tk' : Nat), Fr h₀ L h' (MW f kv m₀ u (.int v tv) nu pl wl) → News h₀ L h' news → Q false { s with heap := h', toks := tk' }) :
    wpAny (model prg w) (ktrTop dp un gd lawName (lawScope w.params) L a ccd [] outer) (isTrue (lawFn w.params).t1 (envOf lawName (lawScope w.params) L a ccd) (eval (lawFn w.params).t1 (envOf lawName (lawScope w.params) L a ccd))) Q E s := by
  dsimp only [lawScope, lawName, lawFn]
  obtain ⟨B, F, X, T, hk, hdp, hun⟩ := C
  delta MW MM psT at F
  dsimp only [kstB] at F
  have e0 : Val ((v == 1)) false := by show (v == 1) = false; simp [hv]
  repeat' (first | (k_unfold; (try dsimp only)) | (refine Mine.stop_go ?_; first | ((with_reducible show wpAny _ _ (call (Value.builtin "len") [Value.ref _]) _ _ _); k_dflt (refine' my_len ?N ?m ?e ?k ?_; (case N => k_asm); (case m => k_mem); (case e => with_reducible assumption); (case k => omega); k_whole); intro t' tk')) | (k_end; wrow_close) | walk1 | (dsimp only; walk1) | (leave1; walk_say "STEP leave1"; try dsimp only))
  exact k _ _ (by assumption) (by assumption)
theorem t2_no (C : Cx w lo mean mg mb dp un (lawScope w.params) outer A₀ base h₀ L (MW f kv m₀ u (.int v tv) nu pl wl) s.heap 40)
    (N : News h₀ L s.heap news) (hv : v ≠ 2) (hv3 : v ≠ 3)
    (k : ∀ (h' : Heap) (tk' : Nat), Fr h₀ L h' (MW f kv m₀ u (.int v tv) nu pl wl) → News h₀ L h' news → Q false { s with heap := h', toks := tk' }) :
    wpAny (model prg w) (ktrTop dp un gd lawName (lawScope w.params) L a ccd [] outer) (isTrue (lawFn w.params).t2 (envOf lawName (lawScope w.params) L a ccd) (eval (lawFn w.params).t2 (envOf lawName (lawScope w.params) L a ccd))) Q E s := by
  dsimp only [lawScope, lawName, lawFn]
  obtain ⟨B, F, X, T, hk, hdp, hun⟩ := C
  delta MW MM psT at F
  dsimp only [kstB] at F
  have e0 : Val (([2, 3].any fun x => x == v)) false := by show ([2, 3].any fun x => x == v) = false; simp [Ne.symm hv, Ne.symm hv3]
  repeat' (first | (k_unfold; (try dsimp only)) | (refine Mine.stop_go ?_; first | ((with_reducible show wpAny _ _ (call (Value.builtin "len") [Value.ref _]) _ _ _); k_dflt (refine' my_len ?N ?m ?e ?k ?_; (case N => k_asm); (case m => k_mem); (case e => with_reducible assumption); (case k => omega); k_whole); intro t' tk')) | (k_end; wrow_close) | walk1 | (dsimp only; walk1) | (leave1; walk_say "STEP leave1"; try dsimp only))
  exact k _ _ (by assumption) (News.tl1 (by assumption))
theorem t2_true (C : Cx w lo mean mg mb dp un (lawScope w.params) outer A₀ base h₀ L (MW f kv m₀ u (.int v tv) nu pl wl) s.heap 40)
    (N : News h₀ L s.heap news) (hm : (f.px, listOf pv.toArray pn) ∈ news) (hp : PileIs R pv dl) (hR : ∀ p ∈ R, p ∈ news) (hv : v = 2 ∨ v = 3 ∧ (dl = [] ∨ ∃ dl' p, dl = dl' ++ [(none, p)]))
    (k : ∀ (h' : Heap) (tk' : Nat), Fr h₀ L h' (MW f kv m₀ u (.int v tv) nu pl wl) → News h₀ L h' news → Q true { s with heap := h', toks := tk' }) :
    wpAny (model prg w) (ktrTop dp un gd lawName (lawScope w.params) L a ccd [] outer) (isTrue (lawFn w.params).t2 (envOf lawName (lawScope w.params) L a ccd) (eval (lawFn w.params).t2 (envOf lawName (lawScope w.params) L a ccd))) Q E s := by
  dsimp only [lawScope, lawName, lawFn]
  obtain ⟨B, F, X, T, hk, hdp, hun⟩ := C
  delta MW MM psT at F
  dsimp only [kstB] at F
  have e0 : Val (([2, 3].any fun x => x == v)) true := by show ([2, 3].any fun x => x == v) = true; rcases hv with rfl | ⟨rfl, _⟩ <;> decide
  have NN : News h₀ L s.heap ((f.px, listOf pv.toArray pn) :: news) := fun p hp => by
    rcases List.mem_cons.mp hp with e | e
    · exact e ▸ N _ hm
    · exact N p e
  by_cases hd : dl = []
  · repeat' (first | (k_unfold; (try dsimp only)) | (refine Mine.stop_go ?_; first | ((with_reducible show wpAny _ _ (call (Value.builtin "len") [Value.ref _]) _ _ _); k_dflt (refine' my_len ?N ?m ?e ?k ?_; (case N => k_asm); (case m => k_mem); (case e => with_reducible assumption); (case k => omega); k_whole); intro t' tk')) | (k_end; wrow_close) | walk1 | (dsimp only; walk1) | (leave1; walk_say "STEP leave1"; try dsimp only))
    exact k _ _ (by assumption) (News.tl1 (News.tl1 (News.tl1 (by assumption))))
  · rcases hv with rfl | ⟨rfl, h | ⟨dl', p, e⟩⟩
    · repeat' (first | (k_unfold; (try dsimp only)) | (refine Mine.stop_go ?_; first | ((with_reducible show wpAny _ _ (call (Value.builtin "len") [Value.ref _]) _ _ _); k_dflt (refine' my_len ?N ?m ?e ?k ?_; (case N => k_asm); (case m => k_mem); (case e => with_reducible assumption); (case k => omega); k_whole); intro t' tk')) | (k_end; wrow_close) | walk1 | (dsimp only; walk1) | (leave1; walk_say "STEP leave1"; try dsimp only))
      exact k _ _ (by assumption) (News.tl1 (News.tl1 (News.tl1 (by assumption))))
    · exact absurd h hd
    · rcases hp.last with ⟨_, e'⟩ | ⟨t, nv, o, q, tp, vs', ds', rfl, e', ho, ht, -⟩
      · exact absurd e' hd
      · obtain ⟨rfl, eo⟩ := List.append_inj' (e'.symm.trans e) rfl
        obtain ⟨rfl, rfl⟩ : o = none ∧ q = p := by simpa using eo
        obtain rfl : nv = Value.none := ho
        have N2 : News h₀ L s.heap ((t, tup2 .none (.int q tp)) :: (f.px, listOf (vs' ++ [Value.ref t]).toArray pn) :: news) := fun p hp => by
          rcases List.mem_cons.mp hp with e | e
          · exact e ▸ N _ (hR _ ht)
          · exact NN p e
        clear NN
        dsimp only [tup2] at N2
        repeat' (first | (k_unfold; (try dsimp only)) | (refine Mine.stop_go ?_; first | ((with_reducible show wpAny _ _ (call (Value.builtin "len") [Value.ref _]) _ _ _); k_dflt (refine' my_len ?N ?m ?e ?k ?_; (case N => k_asm); (case m => k_mem); (case e => with_reducible assumption); (case k => omega); k_whole); intro t' tk')) | (k_end; wrow_close) | walk1 | (dsimp only; walk1) | (leave1; walk_say "STEP leave1"; try dsimp only))
        exact k _ _ (by assumption) (News.tl1 (News.tl1 (News.tl1 (News.tl1 (by assumption)))))
theorem t2_false (C : Cx w lo mean mg mb dp un (lawScope w.params) outer A₀ base h₀ L (MW f kv m₀ u (.int v tv) nu pl wl) s.heap 40)
    (N : News h₀ L s.heap news) (hm : (f.px, listOf pv.toArray pn) ∈ news) (hp : PileIs R pv dl) (hR : ∀ p ∈ R, p ∈ news) (hv : v = 3) {j p : Int} {dl' : List (Option Int × Int)} (e : dl = dl' ++ [(some j, p)])
    (k : ∀ (h' : Heap) (tk' : Nat), Fr h₀ L h' (MW f kv m₀ u (.int v tv) nu pl wl) → News h₀ L h' news → Q false { s with heap := h', toks := tk' }) :
    wpAny (model prg w) (ktrTop dp un gd lawName (lawScope w.params) L a ccd [] outer) (isTrue (lawFn w.params).t2 (envOf lawName (lawScope w.params) L a ccd) (eval (lawFn w.params).t2 (envOf lawName (lawScope w.params) L a ccd))) Q E s := by
  dsimp only [lawScope, lawName, lawFn, elsFn]
  obtain ⟨B, F, X, T, hk, hdp, hun⟩ := C
  delta MW MM psT at F
  dsimp only [kstB] at F
  subst hv
  have hd : dl ≠ [] := by rw [e]; simp
  rcases hp.last with ⟨_, e'⟩ | ⟨t, nv, o, q, tp, vs', ds', rfl, e', ho, ht, -⟩
  · rw [e'] at e; simp at e
  obtain ⟨rfl, eo⟩ := List.append_inj' (e'.symm.trans e) rfl
  obtain ⟨rfl, rfl⟩ : o = some j ∧ q = p := by simpa using eo
  obtain ⟨tj, rfl⟩ := ho
  have N2 := news_cons (news_cons N hm) (.tail _ (hR _ ht))
  dsimp only [tup2] at N2
  clear N
  repeat' (first | (k_unfold; (try dsimp only)) | (refine Mine.stop_go ?_; first | ((with_reducible show wpAny _ _ (call (Value.builtin "len") [Value.ref _]) _ _ _); k_dflt (refine' my_len ?N ?m ?e ?k ?_; (case N => k_asm); (case m => k_mem); (case e => with_reducible assumption); (case k => omega); k_whole); intro t' tk')) | (k_end; wrow_close) | walk1 | (dsimp only; walk1) | (leave1; walk_say "STEP leave1"; try dsimp only))
  exact k _ _ (by assumption) (News.tl1 (News.tl1 (News.tl1 (News.tl1 (by assumption)))))
theorem t3_no (C : Cx w lo mean mg mb dp un (lawScope w.params) outer A₀ base h₀ L (MW f kv m₀ u (.int v tv) nu pl wl) s.heap 40)
    (N : News h₀ L s.heap news) (hv : v ≠ 3)
    (k : ∀ (h' : Heap) (tk' : Nat), Fr h₀ L h' (MW f kv m₀ u (.int v tv) nu pl wl) → News h₀ L h' news → Q false { s with heap := h', toks := tk' }) :
    wpAny (model prg w) (ktrTop dp un gd lawName (lawScope w.params) L a ccd [] outer) (isTrue (elsFn w.params).t3 (envOf lawName (lawScope w.params) L a ccd) (eval (elsFn w.params).t3 (envOf lawName (lawScope w.params) L a ccd))) Q E s := by
  dsimp only [lawScope, lawName, lawFn, elsFn]
  obtain ⟨B, F, X, T, hk, hdp, hun⟩ := C
  delta MW MM psT at F
  dsimp only [kstB] at F
  have e0 : Val (v == 3) false := by show (v == 3) = false; simp [hv]
  repeat' (first | (k_unfold; (try dsimp only)) | (refine Mine.stop_go ?_; first | ((with_reducible show wpAny _ _ (call (Value.builtin "len") [Value.ref _]) _ _ _); k_dflt (refine' my_len ?N ?m ?e ?k ?_; (case N => k_asm); (case m => k_mem); (case e => with_reducible assumption); (case k => omega); k_whole); intro t' tk')) | (k_end; wrow_close) | walk1 | (dsimp only; walk1) | (leave1; walk_say "STEP leave1"; try dsimp only))
  exact k _ _ (by assumption) (by assumption)
theorem t4_no (C : Cx w lo mean mg mb dp un (lawScope w.params) outer A₀ base h₀ L (MW f kv m₀ u (.int v tv) nu pl wl) s.heap 40)
    (N : News h₀ L s.heap news) (hv : v ≠ 4)
    (k : ∀ (h' : Heap) (tk' : Nat), Fr h₀ L h' (MW f kv m₀ u (.int v tv) nu pl wl) → News h₀ L h' news → Q false { s with heap := h', toks := tk' }) :
    wpAny (model prg w) (ktrTop dp un gd lawName (lawScope w.params) L a ccd [] outer) (isTrue (elsFn w.params).t4 (envOf lawName (lawScope w.params) L a ccd) (eval (elsFn w.params).t4 (envOf lawName (lawScope w.params) L a ccd))) Q E s := by
  dsimp only [lawScope, lawName, lawFn, elsFn]
  obtain ⟨B, F, X, T, hk, hdp, hun⟩ := C
  delta MW MM psT at F
  dsimp only [kstB] at F
  have e0 : Val (v == 4) false := by show (v == 4) = false; simp [hv]
  repeat' (first | (k_unfold; (try dsimp only)) | (refine Mine.stop_go ?_; first | ((with_reducible show wpAny _ _ (call (Value.builtin "len") [Value.ref _]) _ _ _); k_dflt (refine' my_len ?N ?m ?e ?k ?_; (case N => k_asm); (case m => k_mem); (case e => with_reducible assumption); (case k => omega); k_whole); intro t' tk')) | (k_end; wrow_close) | walk1 | (dsimp only; walk1) | (leave1; walk_say "STEP leave1"; try dsimp only))
  exact k _ _ (by assumption) (by assumption)
theorem t5_no (C : Cx w lo mean mg mb dp un (lawScope w.params) outer A₀ base h₀ L (MW f kv m₀ u (.int v tv) nu pl wl) s.heap 40)
    (N : News h₀ L s.heap news) (hv : v ≠ 5)
    (k : ∀ (h' : Heap) (tk' : Nat), Fr h₀ L h' (MW f kv m₀ u (.int v tv) nu pl wl) → News h₀ L h' news → Q false { s with heap := h', toks := tk' }) :
    wpAny (model prg w) (ktrTop dp un gd lawName (lawScope w.params) L a ccd [] outer) (isTrue (elsFn w.params).t5 (envOf lawName (lawScope w.params) L a ccd) (eval (elsFn w.params).t5 (envOf lawName (lawScope w.params) L a ccd))) Q E s := by
  dsimp only [lawScope, lawName, lawFn, elsFn]
  obtain ⟨B, F, X, T, hk, hdp, hun⟩ := C
  delta MW MM psT at F
  dsimp only [kstB] at F
  have e0 : Val (v == 5) false := by show (v == 5) = false; simp [hv]
  repeat' (first | (k_unfold; (try dsimp only)) | (refine Mine.stop_go ?_; first | ((with_reducible show wpAny _ _ (call (Value.builtin "len") [Value.ref _]) _ _ _); k_dflt (refine' my_len ?N ?m ?e ?k ?_; (case N => k_asm); (case m => k_mem); (case e => with_reducible assumption); (case k => omega); k_whole); intro t' tk')) | (k_end; wrow_close) | walk1 | (dsimp only; walk1) | (leave1; walk_say "STEP leave1"; try dsimp only))
  exact k _ _ (by assumption) (by assumption)
theorem t1_yes (C : Cx w lo mean mg mb dp un (lawScope w.params) outer A₀ base h₀ L (MW f kv m₀ u (.int v tv) nu pl wl) s.heap 40)
    (N : News h₀ L s.heap news) (hv : v = 1)
    (k : ∀ (h' : Heap) (tk' : Nat), Fr h₀ L h' (MW f kv m₀ u (.int v tv) nu pl wl) → News h₀ L h' news → Q true { s with heap := h', toks := tk' }) :
    wpAny (model prg w) (ktrTop dp un gd lawName (lawScope w.params) L a ccd [] outer) (isTrue (lawFn w.params).t1 (envOf lawName (lawScope w.params) L a ccd) (eval (lawFn w.params).t1 (envOf lawName (lawScope w.params) L a ccd))) Q E s := by
  dsimp only [lawScope, lawName, lawFn, elsFn]
  obtain ⟨B, F, X, T, hk, hdp, hun⟩ := C
  delta MW MM psT at F
  dsimp only [kstB] at F
  subst hv
  repeat' (first | (k_unfold; (try dsimp only)) | (refine Mine.stop_go ?_; first | ((with_reducible show wpAny _ _ (call (Value.builtin "len") [Value.ref _]) _ _ _); k_dflt (refine' my_len ?N ?m ?e ?k ?_; (case N => k_asm); (case m => k_mem); (case e => with_reducible assumption); (case k => omega); k_whole); intro t' tk')) | (k_end; wrow_close) | walk1 | (dsimp only; walk1) | (leave1; walk_say "STEP leave1"; try dsimp only))
  exact k _ _ (by assumption) (by assumption)
theorem t3_yes (C : Cx w lo mean mg mb dp un (lawScope w.params) outer A₀ base h₀ L (MW f kv m₀ u (.int v tv) nu pl wl) s.heap 40)
    (N : News h₀ L s.heap news) (hv : v = 3)
    (k : ∀ (h' : Heap) (tk' : Nat), Fr h₀ L h' (MW f kv m₀ u (.int v tv) nu pl wl) → News h₀ L h' news → Q true { s with heap := h', toks := tk' }) :
    wpAny (model prg w) (ktrTop dp un gd lawName (lawScope w.params) L a ccd [] outer) (isTrue (elsFn w.params).t3 (envOf lawName (lawScope w.params) L a ccd) (eval (elsFn w.params).t3 (envOf lawName (lawScope w.params) L a ccd))) Q E s := by
  dsimp only [lawScope, lawName, lawFn, elsFn]
  obtain ⟨B, F, X, T, hk, hdp, hun⟩ := C
  delta MW MM psT at F
  dsimp only [kstB] at F
  subst hv
  repeat' (first | (k_unfold; (try dsimp only)) | (refine Mine.stop_go ?_; first | ((with_reducible show wpAny _ _ (call (Value.builtin "len") [Value.ref _]) _ _ _); k_dflt (refine' my_len ?N ?m ?e ?k ?_; (case N => k_asm); (case m => k_mem); (case e => with_reducible assumption); (case k => omega); k_whole); intro t' tk')) | (k_end; wrow_close) | walk1 | (dsimp only; walk1) | (leave1; walk_say "STEP leave1"; try dsimp only))
  exact k _ _ (by assumption) (by assumption)
theorem t5_nil (C : Cx w lo mean mg mb dp un (lawScope w.params) outer A₀ base h₀ L (MW f kv m₀ u (.int v tv) nu pl wl) s.heap 40)
    (N : News h₀ L s.heap news) (hm : (f.px, listOf pv.toArray pn) ∈ news) (hp : PileIs R pv dl) (hR : ∀ p ∈ R, p ∈ news) (hv : v = 5) (hd : dl = [])
    (k : ∀ (h' : Heap) (tk' : Nat), Fr h₀ L h' (MW f kv m₀ u (.int v tv) nu pl wl) → News h₀ L h' news → Q false { s with heap := h', toks := tk' }) :
    wpAny (model prg w) (ktrTop dp un gd lawName (lawScope w.params) L a ccd [] outer) (isTrue (elsFn w.params).t5 (envOf lawName (lawScope w.params) L a ccd) (eval (elsFn w.params).t5 (envOf lawName (lawScope w.params) L a ccd))) Q E s := by
  dsimp only [lawScope, lawName, lawFn, elsFn]
  obtain ⟨B, F, X, T, hk, hdp, hun⟩ := C
  delta MW MM psT at F
  dsimp only [kstB] at F
  subst hv
  have N2 := news_cons N hm
  clear N
  repeat' (first | (k_unfold; (try dsimp only)) | (refine Mine.stop_go ?_; first | ((with_reducible show wpAny _ _ (call (Value.builtin "len") [Value.ref _]) _ _ _); k_dflt (refine' my_len ?N ?m ?e ?k ?_; (case N => k_asm); (case m => k_mem); (case e => with_reducible assumption); (case k => omega); k_whole); intro t' tk')) | (k_end; wrow_close) | walk1 | (dsimp only; walk1) | (leave1; walk_say "STEP leave1"; try dsimp only))
  exact k _ _ (by assumption) (News.tl1 (News.tl1 (by assumption)))
theorem t5_some (C : Cx w lo mean mg mb dp un (lawScope w.params) outer A₀ base h₀ L (MW f kv m₀ u (.int v tv) nu pl wl) s.heap 40)
    (N : News h₀ L s.heap news) (hm : (f.px, listOf pv.toArray pn) ∈ news) (hp : PileIs R pv dl) (hR : ∀ p ∈ R, p ∈ news) (hv : v = 5) {j p : Int} {dl' : List (Option Int × Int)} (e : dl = dl' ++ [(some j, p)])
    (k : ∀ (h' : Heap) (tk' : Nat), Fr h₀ L h' (MW f kv m₀ u (.int v tv) nu pl wl) → News h₀ L h' news → Q false { s with heap := h', toks := tk' }) :
    wpAny (model prg w) (ktrTop dp un gd lawName (lawScope w.params) L a ccd [] outer) (isTrue (elsFn w.params).t5 (envOf lawName (lawScope w.params) L a ccd) (eval (elsFn w.params).t5 (envOf lawName (lawScope w.params) L a ccd))) Q E s := by
  dsimp only [lawScope, lawName, lawFn, elsFn]
  obtain ⟨B, F, X, T, hk, hdp, hun⟩ := C
  delta MW MM psT at F
  dsimp only [kstB] at F
  subst hv
  have hd : dl ≠ [] := by rw [e]; simp
  rcases hp.last with ⟨_, e'⟩ | ⟨t, nv, o, q, tp, vs', ds', rfl, e', ho, ht, -⟩
  · rw [e'] at e; simp at e
  obtain ⟨rfl, eo⟩ := List.append_inj' (e'.symm.trans e) rfl
  obtain ⟨rfl, rfl⟩ : o = some j ∧ q = p := by simpa using eo
  obtain ⟨tj, rfl⟩ := ho
  have N2 := news_cons (news_cons N hm) (.tail _ (hR _ ht))
  dsimp only [tup2] at N2
  clear N
  repeat' (first | (k_unfold; (try dsimp only)) | (refine Mine.stop_go ?_; first | ((with_reducible show wpAny _ _ (call (Value.builtin "len") [Value.ref _]) _ _ _); k_dflt (refine' my_len ?N ?m ?e ?k ?_; (case N => k_asm); (case m => k_mem); (case e => with_reducible assumption); (case k => omega); k_whole); intro t' tk')) | (k_end; wrow_close) | walk1 | (dsimp only; walk1) | (leave1; walk_say "STEP leave1"; try dsimp only))
  exact k _ _ (by assumption) (News.tl1 (News.tl1 (News.tl1 (by assumption))))
theorem t5_yes (C : Cx w lo mean mg mb dp un (lawScope w.params) outer A₀ base h₀ L (MW f kv m₀ u (.int v tv) nu pl wl) s.heap 40)
    (N : News h₀ L s.heap news) (hm : (f.px, listOf pv.toArray pn) ∈ news) (hp : PileIs R pv dl) (hR : ∀ p ∈ R, p ∈ news) (hv : v = 5) {p : Int} {dl' : List (Option Int × Int)} (e : dl = dl' ++ [(none, p)])
    (k : ∀ (h' : Heap) (tk' : Nat), Fr h₀ L h' (MW f kv m₀ u (.int v tv) nu pl wl) → News h₀ L h' news → Q true { s with heap := h', toks := tk' }) :
    wpAny (model prg w) (ktrTop dp un gd lawName (lawScope w.params) L a ccd [] outer) (isTrue (elsFn w.params).t5 (envOf lawName (lawScope w.params) L a ccd) (eval (elsFn w.params).t5 (envOf lawName (lawScope w.params) L a ccd))) Q E s := by
  dsimp only [lawScope, lawName, lawFn, elsFn]
  obtain ⟨B, F, X, T, hk, hdp, hun⟩ := C
  delta MW MM psT at F
  dsimp only [kstB] at F
  subst hv
  have hd : dl ≠ [] := by rw [e]; simp
  rcases hp.last with ⟨_, e'⟩ | ⟨t, nv, o, q, tp, vs', ds', rfl, e', ho, ht, -⟩
  · rw [e'] at e; simp at e
  obtain ⟨rfl, eo⟩ := List.append_inj' (e'.symm.trans e) rfl
  obtain ⟨rfl, rfl⟩ : o = none ∧ q = p := by simpa using eo
  obtain rfl : nv = Value.none := ho
  have N2 := news_cons (news_cons N hm) (.tail _ (hR _ ht))
  dsimp only [tup2] at N2
  clear N
  repeat' (first | (k_unfold; (try dsimp only)) | (refine Mine.stop_go ?_; first | ((with_reducible show wpAny _ _ (call (Value.builtin "len") [Value.ref _]) _ _ _); k_dflt (refine' my_len ?N ?m ?e ?k ?_; (case N => k_asm); (case m => k_mem); (case e => with_reducible assumption); (case k => omega); k_whole); intro t' tk')) | (k_end; wrow_close) | walk1 | (dsimp only; walk1) | (leave1; walk_say "STEP leave1"; try dsimp only))
  exact k _ _ (by assumption) (News.tl1 (News.tl1 (News.tl1 (by assumption))))
theorem t4_yes (C : Cx w lo mean mg mb dp un (lawScope w.params) outer A₀ base h₀ L (MW f kv m₀ u (.int v tv) nu pl wl) s.heap 40)
    (N : News h₀ L s.heap news) (hm : (f.px, listOf pv.toArray pn) ∈ news) (hv : v = 4) (hl : pv.length < 8)
    (k : ∀ (h' : Heap) (tk' : Nat), Fr h₀ L h' (MW f kv m₀ u (.int v tv) nu pl wl) → News h₀ L h' news → Q true { s with heap := h', toks := tk' }) :
    wpAny (model prg w) (ktrTop dp un gd lawName (lawScope w.params) L a ccd [] outer) (isTrue (elsFn w.params).t4 (envOf lawName (lawScope w.params) L a ccd) (eval (elsFn w.params).t4 (envOf lawName (lawScope w.params) L a ccd))) Q E s := by
  dsimp only [lawScope, lawName, lawFn, elsFn]
  obtain ⟨B, F, X, T, hk, hdp, hun⟩ := C
  delta MW MM psT at F
  dsimp only [kstB] at F
  subst hv
  have N2 := news_cons N hm
  clear N
  obtain ⟨n, hn⟩ : ∃ n, pv.length = n := ⟨_, rfl⟩
  have e1 : Val (decide ((n : Int) < 8)) true := by show decide ((n : Int) < 8) = true; exact decide_eq_true (by omega)
  repeat' (first | (k_unfold; (try dsimp only)) | (refine Mine.stop_go ?_; first | ((with_reducible show wpAny _ _ (call (Value.builtin "len") [Value.ref _]) _ _ _); k_dflt (refine' my_len ?N ?m ?e ?k ?_; (case N => k_asm); (case m => k_mem); (case e => with_reducible assumption); (case k => omega); k_whole); intro t' tk')) | (k_end; wrow_close) | walk1 | (dsimp only; walk1) | (leave1; walk_say "STEP leave1"; try dsimp only))
  exact k _ _ (by assumption) (News.tl1 (by assumption))
theorem t4_full (C : Cx w lo mean mg mb dp un (lawScope w.params) outer A₀ base h₀ L (MW f kv m₀ u (.int v tv) nu pl wl) s.heap 40)
    (N : News h₀ L s.heap news) (hm : (f.px, listOf pv.toArray pn) ∈ news) (hv : v = 4) (hl : ¬ pv.length < 8) (hl2 : pv.length ≤ 100)
    (k : ∀ (h' : Heap) (tk' : Nat), Fr h₀ L h' (MW f kv m₀ u (.int v tv) nu pl wl) → News h₀ L h' news → Q false { s with heap := h', toks := tk' }) :
    wpAny (model prg w) (ktrTop dp un gd lawName (lawScope w.params) L a ccd [] outer) (isTrue (elsFn w.params).t4 (envOf lawName (lawScope w.params) L a ccd) (eval (elsFn w.params).t4 (envOf lawName (lawScope w.params) L a ccd))) Q E s := by
  dsimp only [lawScope, lawName, lawFn, elsFn]
  obtain ⟨B, F, X, T, hk, hdp, hun⟩ := C
  delta MW MM psT at F
  dsimp only [kstB] at F
  subst hv
  have N2 := news_cons N hm
  clear N
  obtain ⟨n, hn⟩ : ∃ n, pv.length = n := ⟨_, rfl⟩
  have e1 : Val (decide ((n : Int) < 8)) false := by show decide ((n : Int) < 8) = false; exact decide_eq_false (by omega)
  repeat' (first | (k_unfold; (try dsimp only)) | (refine Mine.stop_go ?_; first | ((with_reducible show wpAny _ _ (call (Value.builtin "len") [Value.ref _]) _ _ _); k_dflt (refine' my_len ?N ?m ?e ?k ?_; (case N => k_asm); (case m => k_mem); (case e => with_reducible assumption); (case k => omega); k_whole); intro t' tk')) | (k_end; wrow_close) | walk1 | (dsimp only; walk1) | (leave1; walk_say "STEP leave1"; try dsimp only))
  exact k _ _ (by assumption) (News.tl1 (by assumption))
end
end
section
open PySem PySem.W PyProof.Rows
theorem off19 : True := by (w_top off; trivial)
structure X3Fn (P : Params) where
  y0 : Stmt
  y1 : Stmt
  y2 : Stmt
  ok : (elsFn P).x3 = [y0, y1, y2]
def x3Fn (P : Params) : X3Fn P := ⟨_, _, _, by exact rfl⟩
section
variable {prog : Program} {w : World} {A : Around} {E : Value → Shared → Prop} {s : Shared} {h₀ : Heap} {L D : Addr} {news : List (Addr × Obj)} {n : Nat}
theorem list_item {value slice : PySem.Expr} {l : List Value} {x : Value} {j : Int} {t : Tok} {Q : Value → Shared → Prop} (N : News h₀ L s.heap news) (m : (D, listOf l.toArray n) ∈ news) (h0 : 0 ≤ j) (h1 : j < 2 ^ 63) (hx : l[j.toNat]? = some x) (h : Q x s)
    (hs : subscripted slice false (.ref D) (.int j t) = operate [.ref D, .int j t] (getItem (.ref D) (.int j t)) := by with_unfolding_all rfl) (hg : ∀ r, letTemporaryGo value (.ref D) r = pure () := by intro _; with_unfolding_all rfl) :
    wpAny (model prog w) A (subscriptTail value slice (.ref D) (.int j t)) Q E s := PySem.W.kim_list N m rfl rfl h0 h1 hx h hs hg
end
theorem ends_val {v : Value} {o : Option Int} {j : Int} (h : IsOpt v o) (e : o = some j) : ∃ t, v = .int j t := by subst e; exact h
local macro_rules | `(tactic| walk_at "truthy bool") => `(tactic| (k_here; k_dflt (refine' bool_val ?hb ?_; (case hb => with_reducible assumption); k_whole)))
local macro_rules | `(tactic| walk_at "subscriptTail Name UnaryOp ref int") => `(tactic| (k_here; k_dflt (refine' pile_last ?N ?m ?_; (case N => k_asm); (case m => k_mem); k_whole)))
theorem tup_in {h₀ h : Heap} {L a : Addr} {news : List (Addr × Obj)} {x y : Value} (N : News h₀ L h news) (m : (a, tup2 x y) ∈ news) : IsTup h a [x, y].toArray := ⟨_, (N _ m).1, rfl, _, rfl⟩
local macro_rules | `(tactic| walk_at "subscriptTail") => `(tactic| (k_here; (with_reducible show wpAny _ _ (subscriptTail _ _ (Value.ref _) (Value.int _ _)) _ _ _); k_dflt (refine' item_tupleT ?t ?a ?b ?c ?d ?_; (case t => exact tup_in (by k_asm) (by repeat' (first | (with_reducible assumption) | refine List.mem_cons_of_mem _ ?_))); (case a => decide); (case b => decide); (case c => rfl); (case d => rfl); k_whole)))
local macro_rules | `(tactic| walk_at "subscriptTail Name Name ref int") => `(tactic| (k_here; k_dflt (refine' list_item ?N ?m ?a ?b ?c ?_; (case N => k_asm); (case m => k_mem); (case a => with_reducible assumption); (case b => with_reducible assumption); (case c => with_reducible assumption); k_whole)))
local macro_rules | `(tactic| walk_at "call ref") => `(tactic| ((with_reducible show wpAny _ _ (call (Value.ref 195) _) _ _ _); refine Mine.stop_here ?_))
local macro_rules | `(tactic| walk_at "call ref") => `(tactic| ((with_reducible show wpAny _ _ (call (Value.ref 447) _) _ _ _); refine Mine.stop_here ?_))
local macro_rules | `(tactic| walk_at "call ref") => `(tactic| ((with_reducible show wpAny _ _ (call (Value.ref 237) _) _ _ _); refine Mine.stop_here ?_))
local macro_rules | `(tactic| walk_at "compareOp NotEq int int") => `(tactic| (k_here; k_dflt (refine' ne_int_same ?e ?_; (case e => first | (with_reducible exact rfl) | (with_reducible assumption)); k_whole)))
local macro_rules | `(tactic| walk_at "call builtin:list.append") => `(tactic| ((with_reducible show wpAny _ _ (call (Value.builtin _) [Value.ref _, _]) _ _ _); refine Mine.stop_here ?_))
section
variable {w : World} {lo : List Str} {mean : ExcName → Option Value} {mg mb : Str → Option Value} {dp un : Nat} {gd : Option (List Code)} {L a : Addr} {ccd : Value} {outer : List Env}
    {A₀ : Around} {base h₀ : Heap} {s : Shared} {E : Value → Shared → Prop} {f : TF} {kv fo nu pl wl : Value} {m₀ u : Str → Option Value} {rest : List (Addr × Obj)}
theorem t0_ask {Q : Bool → Shared → Prop} {vs : List Value} {x d : Nat} {kk : Nat → Nat} {o : Value} {aa ss : Bool} {j : Int} {tj tf : Nat}
    (C : Cx w lo mean mg mb dp un (lawScope w.params) outer A₀ base h₀ L (MW f kv m₀ u (.int 0 tf) (.int j tj) pl wl) s.heap 40)
    (N : News h₀ L s.heap ([(f.ch, listOf vs.toArray 4), (x, instObj 212 d), (d, dictOf (askEs w.params kk o aa ss) 3)] ++ rest)) (h0 : 0 ≤ j) (h1 : j < 2 ^ 63) (h2 : vs[j.toNat]? = some (.ref x))
    (k : ∀ (h' : Heap) (tk' : Nat), Fr h₀ L h' (MW f kv m₀ u (.int 0 tf) (.int j tj) pl wl) → News h₀ L h' ([(f.ch, listOf vs.toArray 4), (x, instObj 212 d), (d, dictOf (askEs w.params kk o aa ss) 3)] ++ rest) → Q (!aa && !ss) { s with heap := h', toks := tk' }) :
    wpAny (model prg w) (ktrTop dp un gd lawName (lawScope w.params) L a ccd [] outer) (isTrue (lawFn w.params).t0 (envOf lawName (lawScope w.params) L a ccd) (eval (lawFn w.params).t0 (envOf lawName (lawScope w.params) L a ccd))) Q E s := by
  dsimp only [lawScope, lawName, lawFn, elsFn]
  obtain ⟨B, F, X, T, hk, hdp, hun⟩ := C
  delta MW MM psT at F
  dsimp only [kstB] at F
  dsimp only [List.cons_append, List.nil_append] at N
  cases aa <;> cases ss
  all_goals repeat' (first | (k_unfold; (try dsimp only)) | (refine Mine.stop_go ?_; first | ((with_reducible show wpAny _ _ (call (Value.builtin _) [Value.ref _, _]) _ _ _); k_dflt (refine' my_append ?F ?N ?U ?z ?_; (case F => k_asm); (case N => k_asm); (case U => k_upd); (case z => assumption); k_whole); intro h' F' N'; (try k_sweep)) | ((with_reducible show wpAny _ _ (call (Value.ref 237) _) _ _ _); k_dflt (refine' ends_spec ?C ?N ?ho ?h1 ?h2 ?_; (case C => exact ⟨by k_asm, by k_asm, by k_asm, by k_asm, by exact rfl, by k_room, by ktr_units⟩); (case N => (refine' News.sel ?hN ?hS; (case hN => k_asm); (case hS => tb_start))); (case ho => repeat' (first | (with_reducible assumption) | (first | refine ownOff_cons (asc_off (by with_reducible assumption) 4 [5, 7, 6, 9, 8, 11, 10, 13, 12] rfl rfl) ?_ | refine ownOff_cons (asc_off (by with_reducible assumption) 3 [5, 7, 6, 9, 8, 11, 10, 13, 12] rfl rfl) ?_ | refine ownOff_cons (asc_off (by with_reducible assumption) 2 [5, 7, 6, 9, 8, 11, 10, 13, 12] rfl rfl) ?_ | refine ownOff_cons (asc_off (by with_reducible assumption) 14 [5, 7, 6, 9, 8, 11, 10, 13, 12] rfl rfl) ?_))); (case h1 => with_reducible assumption); (case h2 => with_reducible assumption); k_whole); intro v' h' tk' hv' F' N'; dsimp only [chainL, cpuL, List.cons_append, List.nil_append] at N'; k_sweep; obtain ⟨te', ev'⟩ := ends_val hv' (by with_reducible assumption); subst ev'; clear hv'; (try dsimp only)) | ((with_reducible show wpAny _ _ (call (Value.ref 447) _) _ _ _); k_dflt (refine' back_spec ?hc ?C ?N ?ht ?ho ?h1 ?h2 ?h3 ?h4 ?h5 ?h6 ?h7 ?h8 ?_; (case hc => decide); (case C => exact ⟨by k_asm, by k_asm, by k_asm, by k_asm, by exact rfl, by k_room, by ktr_units⟩); (case N => (refine' News.sel ?hN ?hS; (case hN => k_asm); (case hS => tb_start))); (case ht => (repeat' (first | (with_reducible assumption) | refine List.mem_cons_of_mem _ ?_))); (case ho => repeat' (first | (with_reducible assumption) | (first | refine ownOff_cons (asc_off (by with_reducible assumption) 5 [4, 3, 2, 14] rfl rfl) ?_ | refine ownOff_cons (asc_off (by with_reducible assumption) 6 [4, 3, 2, 14] rfl rfl) ?_ | refine ownOff_cons (asc_off (by with_reducible assumption) 7 [4, 3, 2, 14] rfl rfl) ?_ | refine ownOff_cons (asc_off (by with_reducible assumption) 8 [4, 3, 2, 14] rfl rfl) ?_ | refine ownOff_cons (asc_off (by with_reducible assumption) 9 [4, 3, 2, 14] rfl rfl) ?_ | refine ownOff_cons (asc_off (by with_reducible assumption) 10 [4, 3, 2, 14] rfl rfl) ?_ | refine ownOff_cons (asc_off (by with_reducible assumption) 11 [4, 3, 2, 14] rfl rfl) ?_ | refine ownOff_cons (asc_off (by with_reducible assumption) 12 [4, 3, 2, 14] rfl rfl) ?_ | refine ownOff_cons (asc_off (by with_reducible assumption) 13 [4, 3, 2, 14] rfl rfl) ?_))); (case h1 => omega); (case h2 => assumption); (case h3 => assumption); (case h4 => assumption); (case h5 => assumption); (case h6 => assumption); (case h7 => assumption); (case h8 => assumption); k_whole); intro tsp' tpc' h' tk' F' N'; dsimp only [chainL, cpuL, List.cons_append, List.nil_append] at N'; k_sweep) | ((with_reducible show wpAny _ _ (call (Value.ref 195) _) _ _ _); k_dflt (refine' nmi_spec ?C ?N ?ho ?h1 ?h2 ?h3 ?hi ?hl ?hs1 ?hs2 ?_; (case C => exact ⟨by k_asm, by k_asm, by k_asm, by k_asm, by exact rfl, by k_room, by ktr_units⟩); (case N => (refine' News.sel ?hN ?hS; (case hN => k_asm); (case hS => tb_start))); (case ho => refine ownOff_cons (asc_off (by with_reducible assumption) 14 [4, 3, 2] rfl rfl) (by with_reducible assumption)); (case h1 => assumption); (case h2 => assumption); (case h3 => assumption); (case hi => assumption); (case hl => assumption); (case hs1 => assumption); (case hs2 => assumption); k_whole); intro st' ref' t1' tsp' tpc' tref' tst' mv' mn' h' tk' e3' hi' F' N'; subst e3'; k_sweep)) | (k_end; wrow_close) | (walk1; all_goals (try dsimp only); all_goals (try (with_reducible refine Mine.wp_tok ?_; intro _))) | (dsimp only; walk1) | (leave1; walk_say "STEP leave1"; try dsimp only))
  all_goals exact k _ _ (by assumption) (by assumption)
theorem x0_spec {Q : Flow → Shared → Prop} {vs qs : List Value} {x d c : Nat} {kk : Nat → Nat} {o : Value} {aa ss : Bool} {j e ff : Int} {tj uu vv cn : Nat}
    (C : Cx w lo mean mg mb dp un (lawScope w.params) outer A₀ base h₀ L (MW f kv m₀ u fo (.int j tj) pl wl) s.heap 40)
    (N : News h₀ L s.heap ([(f.ch, listOf vs.toArray 4), (x, instObj 212 d), (d, dictOf (askEs w.params kk o aa ss) 3), (f.qx, listOf qs.toArray f.qn), int2L c e ff uu vv cn] ++ rest)) (hoff : OwnOff rest [f.ch, x, d, f.qx, c]) (h0 : 0 ≤ j) (h1 : j < 2 ^ 63) (h2 : vs[j.toNat]? = some (.ref x)) (h3 : qs[j.toNat]? = some (.ref c)) (n1 : d ≠ f.ch) (n5 : c ≠ f.ch) (ho : d < x ∧ x < c ∧ c < f.qx)
    (k : ∀ (uu' : Nat) (h' : Heap) (tk' : Nat), Fr h₀ L h' (MW f kv m₀ u fo (.int j tj) pl wl) → News h₀ L h' ([(f.ch, listOf vs.toArray 4), (x, instObj 212 d), (d, dictOf (askEs w.params kk o true ss) 3), (f.qx, listOf qs.toArray f.qn), int2L c (e + 1) ff uu' vv cn] ++ rest) → Q .next { s with heap := h', toks := tk' }) :
    wpAny (model prg w) (ktrTop dp un gd lawName (lawScope w.params) L a ccd [] outer) (execs (lawFn w.params).x0 (envOf lawName (lawScope w.params) L a ccd)) Q E s := by
  dsimp only [lawScope, lawName, lawFn, elsFn]
  obtain ⟨B, F, X, T, hk, hdp, hun⟩ := C
  delta MW MM psT at F
  dsimp only [kstB] at F
  obtain ⟨q2, q3, q4⟩ := ho
  have n2 : d ≠ x := by omega
  have n3 : d ≠ f.qx := by omega
  have n4 : d ≠ c := by omega
  have n6 : c ≠ x := by omega
  have n7 : c ≠ d := by omega
  have n8 : c ≠ f.qx := by omega
  dsimp only [int2L, List.cons_append, List.nil_append] at N
  repeat' (first | (k_unfold; (try dsimp only)) | (refine Mine.stop_go ?_; first | ((with_reducible show wpAny _ _ (call (Value.builtin _) [Value.ref _, _]) _ _ _); k_dflt (refine' my_append ?F ?N ?U ?z ?_; (case F => k_asm); (case N => k_asm); (case U => k_upd); (case z => assumption); k_whole); intro h' F' N'; (try k_sweep)) | ((with_reducible show wpAny _ _ (call (Value.ref 237) _) _ _ _); k_dflt (refine' ends_spec ?C ?N ?ho ?h1 ?h2 ?_; (case C => exact ⟨by k_asm, by k_asm, by k_asm, by k_asm, by exact rfl, by k_room, by ktr_units⟩); (case N => (refine' News.sel ?hN ?hS; (case hN => k_asm); (case hS => tb_start))); (case ho => repeat' (first | (with_reducible assumption) | (first | refine ownOff_cons (asc_off (by with_reducible assumption) 4 [5, 7, 6, 9, 8, 11, 10, 13, 12] rfl rfl) ?_ | refine ownOff_cons (asc_off (by with_reducible assumption) 3 [5, 7, 6, 9, 8, 11, 10, 13, 12] rfl rfl) ?_ | refine ownOff_cons (asc_off (by with_reducible assumption) 2 [5, 7, 6, 9, 8, 11, 10, 13, 12] rfl rfl) ?_ | refine ownOff_cons (asc_off (by with_reducible assumption) 14 [5, 7, 6, 9, 8, 11, 10, 13, 12] rfl rfl) ?_))); (case h1 => with_reducible assumption); (case h2 => with_reducible assumption); k_whole); intro v' h' tk' hv' F' N'; dsimp only [chainL, cpuL, List.cons_append, List.nil_append] at N'; k_sweep; obtain ⟨te', ev'⟩ := ends_val hv' (by with_reducible assumption); subst ev'; clear hv'; (try dsimp only)) | ((with_reducible show wpAny _ _ (call (Value.ref 447) _) _ _ _); k_dflt (refine' back_spec ?hc ?C ?N ?ht ?ho ?h1 ?h2 ?h3 ?h4 ?h5 ?h6 ?h7 ?h8 ?_; (case hc => decide); (case C => exact ⟨by k_asm, by k_asm, by k_asm, by k_asm, by exact rfl, by k_room, by ktr_units⟩); (case N => (refine' News.sel ?hN ?hS; (case hN => k_asm); (case hS => tb_start))); (case ht => (repeat' (first | (with_reducible assumption) | refine List.mem_cons_of_mem _ ?_))); (case ho => repeat' (first | (with_reducible assumption) | (first | refine ownOff_cons (asc_off (by with_reducible assumption) 5 [4, 3, 2, 14] rfl rfl) ?_ | refine ownOff_cons (asc_off (by with_reducible assumption) 6 [4, 3, 2, 14] rfl rfl) ?_ | refine ownOff_cons (asc_off (by with_reducible assumption) 7 [4, 3, 2, 14] rfl rfl) ?_ | refine ownOff_cons (asc_off (by with_reducible assumption) 8 [4, 3, 2, 14] rfl rfl) ?_ | refine ownOff_cons (asc_off (by with_reducible assumption) 9 [4, 3, 2, 14] rfl rfl) ?_ | refine ownOff_cons (asc_off (by with_reducible assumption) 10 [4, 3, 2, 14] rfl rfl) ?_ | refine ownOff_cons (asc_off (by with_reducible assumption) 11 [4, 3, 2, 14] rfl rfl) ?_ | refine ownOff_cons (asc_off (by with_reducible assumption) 12 [4, 3, 2, 14] rfl rfl) ?_ | refine ownOff_cons (asc_off (by with_reducible assumption) 13 [4, 3, 2, 14] rfl rfl) ?_))); (case h1 => omega); (case h2 => assumption); (case h3 => assumption); (case h4 => assumption); (case h5 => assumption); (case h6 => assumption); (case h7 => assumption); (case h8 => assumption); k_whole); intro tsp' tpc' h' tk' F' N'; dsimp only [chainL, cpuL, List.cons_append, List.nil_append] at N'; k_sweep) | ((with_reducible show wpAny _ _ (call (Value.ref 195) _) _ _ _); k_dflt (refine' nmi_spec ?C ?N ?ho ?h1 ?h2 ?h3 ?hi ?hl ?hs1 ?hs2 ?_; (case C => exact ⟨by k_asm, by k_asm, by k_asm, by k_asm, by exact rfl, by k_room, by ktr_units⟩); (case N => (refine' News.sel ?hN ?hS; (case hN => k_asm); (case hS => tb_start))); (case ho => refine ownOff_cons (asc_off (by with_reducible assumption) 14 [4, 3, 2] rfl rfl) (by with_reducible assumption)); (case h1 => assumption); (case h2 => assumption); (case h3 => assumption); (case hi => assumption); (case hl => assumption); (case hs1 => assumption); (case hs2 => assumption); k_whole); intro st' ref' t1' tsp' tpc' tref' tst' mv' mn' h' tk' e3' hi' F' N'; subst e3'; k_sweep)) | (k_end; wrow_close) | (walk1; all_goals (try dsimp only); all_goals (try (with_reducible refine Mine.wp_tok ?_; intro _))) | (dsimp only; walk1) | (leave1; walk_say "STEP leave1"; try dsimp only))
  exact k _ _ _ (by assumption) (by assumption)
theorem x1_spec {Q : Flow → Shared → Prop} {sp pc ref i1 i2 st : Int} {tsp tpc tref t1 t2 tst : Nat} {halt : Value} {mv : List Value}
    (C : Cx w lo mean mg mb dp un (lawScope w.params) outer A₀ base h₀ L (MW f kv m₀ u fo nu pl wl) s.heap 40)
    (N : News h₀ L s.heap (cpuL w.params f.cx f.dx f.mx f.kt f.r f.ss f.ix f.iy (.int sp tsp) (.int pc tpc) f.i (.int ref tref) (.int i1 t1) (.int i2 t2) (.int 1 f.tm) halt (.bool false) (.int st tst) mv f.nn ++ rest)) (hoff : OwnOff rest [f.cx, f.dx, f.mx]) (ho : f.mx < f.dx ∧ f.dx < f.cx)
    (k : ∀ (t1' t2' : Nat) (h' : Heap) (tk' : Nat), Fr h₀ L h' (MW f kv m₀ u fo nu pl wl) → News h₀ L h' (cpuL w.params f.cx f.dx f.mx f.kt f.r f.ss f.ix f.iy (.int sp tsp) (.int pc tpc) f.i (.int ref tref) (.int 1 t1') (.int 1 t2') (.int 1 f.tm) halt (.bool false) (.int st tst) mv f.nn ++ rest) → Q .next { s with heap := h', toks := tk' }) :
    wpAny (model prg w) (ktrTop dp un gd lawName (lawScope w.params) L a ccd [] outer) (execs (lawFn w.params).x1 (envOf lawName (lawScope w.params) L a ccd)) Q E s := by
  dsimp only [lawScope, lawName, lawFn, elsFn]
  obtain ⟨B, F, X, T, hk, hdp, hun⟩ := C
  delta MW MM psT at F
  dsimp only [kstB] at F
  obtain ⟨q1, q2⟩ := ho
  have n1 : f.dx ≠ f.cx := by omega
  have n2 : f.dx ≠ f.mx := by omega
  dsimp only [cpuL, List.cons_append, List.nil_append] at N
  repeat' (first | (k_unfold; (try dsimp only)) | (refine Mine.stop_go ?_; first | ((with_reducible show wpAny _ _ (call (Value.builtin _) [Value.ref _, _]) _ _ _); k_dflt (refine' my_append ?F ?N ?U ?z ?_; (case F => k_asm); (case N => k_asm); (case U => k_upd); (case z => assumption); k_whole); intro h' F' N'; (try k_sweep)) | ((with_reducible show wpAny _ _ (call (Value.ref 237) _) _ _ _); k_dflt (refine' ends_spec ?C ?N ?ho ?h1 ?h2 ?_; (case C => exact ⟨by k_asm, by k_asm, by k_asm, by k_asm, by exact rfl, by k_room, by ktr_units⟩); (case N => (refine' News.sel ?hN ?hS; (case hN => k_asm); (case hS => tb_start))); (case ho => repeat' (first | (with_reducible assumption) | (first | refine ownOff_cons (asc_off (by with_reducible assumption) 4 [5, 7, 6, 9, 8, 11, 10, 13, 12] rfl rfl) ?_ | refine ownOff_cons (asc_off (by with_reducible assumption) 3 [5, 7, 6, 9, 8, 11, 10, 13, 12] rfl rfl) ?_ | refine ownOff_cons (asc_off (by with_reducible assumption) 2 [5, 7, 6, 9, 8, 11, 10, 13, 12] rfl rfl) ?_ | refine ownOff_cons (asc_off (by with_reducible assumption) 14 [5, 7, 6, 9, 8, 11, 10, 13, 12] rfl rfl) ?_))); (case h1 => with_reducible assumption); (case h2 => with_reducible assumption); k_whole); intro v' h' tk' hv' F' N'; dsimp only [chainL, cpuL, List.cons_append, List.nil_append] at N'; k_sweep; obtain ⟨te', ev'⟩ := ends_val hv' (by with_reducible assumption); subst ev'; clear hv'; (try dsimp only)) | ((with_reducible show wpAny _ _ (call (Value.ref 447) _) _ _ _); k_dflt (refine' back_spec ?hc ?C ?N ?ht ?ho ?h1 ?h2 ?h3 ?h4 ?h5 ?h6 ?h7 ?h8 ?_; (case hc => decide); (case C => exact ⟨by k_asm, by k_asm, by k_asm, by k_asm, by exact rfl, by k_room, by ktr_units⟩); (case N => (refine' News.sel ?hN ?hS; (case hN => k_asm); (case hS => tb_start))); (case ht => (repeat' (first | (with_reducible assumption) | refine List.mem_cons_of_mem _ ?_))); (case ho => repeat' (first | (with_reducible assumption) | (first | refine ownOff_cons (asc_off (by with_reducible assumption) 5 [4, 3, 2, 14] rfl rfl) ?_ | refine ownOff_cons (asc_off (by with_reducible assumption) 6 [4, 3, 2, 14] rfl rfl) ?_ | refine ownOff_cons (asc_off (by with_reducible assumption) 7 [4, 3, 2, 14] rfl rfl) ?_ | refine ownOff_cons (asc_off (by with_reducible assumption) 8 [4, 3, 2, 14] rfl rfl) ?_ | refine ownOff_cons (asc_off (by with_reducible assumption) 9 [4, 3, 2, 14] rfl rfl) ?_ | refine ownOff_cons (asc_off (by with_reducible assumption) 10 [4, 3, 2, 14] rfl rfl) ?_ | refine ownOff_cons (asc_off (by with_reducible assumption) 11 [4, 3, 2, 14] rfl rfl) ?_ | refine ownOff_cons (asc_off (by with_reducible assumption) 12 [4, 3, 2, 14] rfl rfl) ?_ | refine ownOff_cons (asc_off (by with_reducible assumption) 13 [4, 3, 2, 14] rfl rfl) ?_))); (case h1 => omega); (case h2 => assumption); (case h3 => assumption); (case h4 => assumption); (case h5 => assumption); (case h6 => assumption); (case h7 => assumption); (case h8 => assumption); k_whole); intro tsp' tpc' h' tk' F' N'; dsimp only [chainL, cpuL, List.cons_append, List.nil_append] at N'; k_sweep) | ((with_reducible show wpAny _ _ (call (Value.ref 195) _) _ _ _); k_dflt (refine' nmi_spec ?C ?N ?ho ?h1 ?h2 ?h3 ?hi ?hl ?hs1 ?hs2 ?_; (case C => exact ⟨by k_asm, by k_asm, by k_asm, by k_asm, by exact rfl, by k_room, by ktr_units⟩); (case N => (refine' News.sel ?hN ?hS; (case hN => k_asm); (case hS => tb_start))); (case ho => refine ownOff_cons (asc_off (by with_reducible assumption) 14 [4, 3, 2] rfl rfl) (by with_reducible assumption)); (case h1 => assumption); (case h2 => assumption); (case h3 => assumption); (case hi => assumption); (case hl => assumption); (case hs1 => assumption); (case hs2 => assumption); k_whole); intro st' ref' t1' tsp' tpc' tref' tst' mv' mn' h' tk' e3' hi' F' N'; subst e3'; k_sweep)) | (k_end; wrow_close) | (walk1; all_goals (try dsimp only); all_goals (try (with_reducible refine Mine.wp_tok ?_; intro _))) | (dsimp only; walk1) | (leave1; walk_say "STEP leave1"; try dsimp only))
  exact k _ _ _ _ (by assumption) (News.tl1 (by assumption))
theorem x4_spec {Q : Flow → Shared → Prop} {pl' wl' : Nat} {sp pc ref i1 i2 st : Int} {tsp tpc tref t1 t2 tst : Nat} {halt : Value} {mv : List Value} {pv : List Value} {pn : Nat} {mn : List Int}
    (C : Cx w lo mean mg mb dp un (lawScope w.params) outer A₀ base h₀ L (MW f kv m₀ u fo nu (.int pc pl') (.int i1 wl')) s.heap 40)
    (N : News h₀ L s.heap ((cpuL w.params f.cx f.dx f.mx f.kt f.r f.ss f.ix f.iy (.int sp tsp) (.int pc tpc) f.i (.int ref tref) (.int i1 t1) (.int i2 t2) (.int 1 f.tm) halt (.bool false) (.int st tst) mv f.nn ++ [(f.px, listOf pv.toArray pn)]) ++ rest)) (hoff : OwnOff rest [f.cx, f.dx, f.mx]) (hoff2 : OwnOff rest [f.cx, f.dx, f.mx, f.px]) (hasc : Asc (srtT f)) (hmv : IntsAre mv mn) (hml : mn.length = 256) (hsp : 2 ≤ sp) (hsp2 : sp ≤ 256) (hpl : pv.length ≤ 100) (hi : i1 ≤ i2)
    (k : ∀ (st' ref' : Int) (D t1' tsp' tpc' tref' tst' : Nat) (mv' : List Value) (h' : Heap) (tk' : Nat) (l : List (Addr × Obj)), IntsAre mv' ((mn.set (sp - 2).toNat (pc % 256)).set (sp - 1).toNat (pc / 256 % 256)) → Fr h₀ L h' (MW f kv m₀ u fo nu (.int pc pl') (.int i1 wl')) → News h₀ L h' ((D, tup2 .none (.int pc pl')) :: l) → AllLt D l → Sel ((cpuL w.params f.cx f.dx f.mx f.kt f.r f.ss f.ix f.iy (.int (sp - 2) tsp') (.int 102 tpc') f.i (.int ref' tref') (.int 0 t1') (.int i2 t2) (.int 1 f.tm) (.bool false) (.bool false) (.int st' tst') mv' f.nn ++ [(f.px, listOf (pv ++ [Value.ref D]).toArray (pn + 1))]) ++ rest) l → Q .next { s with heap := h', toks := tk' }) :
    wpAny (model prg w) (ktrTop dp un gd lawName (lawScope w.params) L a ccd [] outer) (execs (elsFn w.params).x4 (envOf lawName (lawScope w.params) L a ccd)) Q E s := by
  dsimp only [lawScope, lawName, lawFn, elsFn]
  obtain ⟨B, F, X, T, hk, hdp, hun⟩ := C
  delta MW MM psT at F
  dsimp only [kstB] at F
  have n1 : f.cx ≠ f.dx := asc_ne hasc 4 3 rfl rfl (by decide)
  have n2 : f.cx ≠ f.mx := asc_ne hasc 4 2 rfl rfl (by decide)
  have n3 : f.dx ≠ f.mx := asc_ne hasc 3 2 rfl rfl (by decide)
  have n4 : f.px ≠ f.cx := asc_ne hasc 14 4 rfl rfl (by decide)
  have n5 : f.px ≠ f.dx := asc_ne hasc 14 3 rfl rfl (by decide)
  have n6 : f.px ≠ f.mx := asc_ne hasc 14 2 rfl rfl (by decide)
  dsimp only [cpuL, List.cons_append, List.nil_append] at N
  repeat' (first | (k_unfold; (try dsimp only)) | (refine Mine.stop_go ?_; first | ((with_reducible show wpAny _ _ (call (Value.builtin _) [Value.ref _, _]) _ _ _); k_dflt (refine' my_append ?F ?N ?U ?z ?_; (case F => k_asm); (case N => k_asm); (case U => k_upd); (case z => assumption); k_whole); intro h' F' N'; (try k_sweep)) | ((with_reducible show wpAny _ _ (call (Value.ref 237) _) _ _ _); k_dflt (refine' ends_spec ?C ?N ?ho ?h1 ?h2 ?_; (case C => exact ⟨by k_asm, by k_asm, by k_asm, by k_asm, by exact rfl, by k_room, by ktr_units⟩); (case N => (refine' News.sel ?hN ?hS; (case hN => k_asm); (case hS => tb_start))); (case ho => repeat' (first | (with_reducible assumption) | (first | refine ownOff_cons (asc_off (by with_reducible assumption) 4 [5, 7, 6, 9, 8, 11, 10, 13, 12] rfl rfl) ?_ | refine ownOff_cons (asc_off (by with_reducible assumption) 3 [5, 7, 6, 9, 8, 11, 10, 13, 12] rfl rfl) ?_ | refine ownOff_cons (asc_off (by with_reducible assumption) 2 [5, 7, 6, 9, 8, 11, 10, 13, 12] rfl rfl) ?_ | refine ownOff_cons (asc_off (by with_reducible assumption) 14 [5, 7, 6, 9, 8, 11, 10, 13, 12] rfl rfl) ?_))); (case h1 => with_reducible assumption); (case h2 => with_reducible assumption); k_whole); intro v' h' tk' hv' F' N'; dsimp only [chainL, cpuL, List.cons_append, List.nil_append] at N'; k_sweep; obtain ⟨te', ev'⟩ := ends_val hv' (by with_reducible assumption); subst ev'; clear hv'; (try dsimp only)) | ((with_reducible show wpAny _ _ (call (Value.ref 447) _) _ _ _); k_dflt (refine' back_spec ?hc ?C ?N ?ht ?ho ?h1 ?h2 ?h3 ?h4 ?h5 ?h6 ?h7 ?h8 ?_; (case hc => decide); (case C => exact ⟨by k_asm, by k_asm, by k_asm, by k_asm, by exact rfl, by k_room, by ktr_units⟩); (case N => (refine' News.sel ?hN ?hS; (case hN => k_asm); (case hS => tb_start))); (case ht => (repeat' (first | (with_reducible assumption) | refine List.mem_cons_of_mem _ ?_))); (case ho => repeat' (first | (with_reducible assumption) | (first | refine ownOff_cons (asc_off (by with_reducible assumption) 5 [4, 3, 2, 14] rfl rfl) ?_ | refine ownOff_cons (asc_off (by with_reducible assumption) 6 [4, 3, 2, 14] rfl rfl) ?_ | refine ownOff_cons (asc_off (by with_reducible assumption) 7 [4, 3, 2, 14] rfl rfl) ?_ | refine ownOff_cons (asc_off (by with_reducible assumption) 8 [4, 3, 2, 14] rfl rfl) ?_ | refine ownOff_cons (asc_off (by with_reducible assumption) 9 [4, 3, 2, 14] rfl rfl) ?_ | refine ownOff_cons (asc_off (by with_reducible assumption) 10 [4, 3, 2, 14] rfl rfl) ?_ | refine ownOff_cons (asc_off (by with_reducible assumption) 11 [4, 3, 2, 14] rfl rfl) ?_ | refine ownOff_cons (asc_off (by with_reducible assumption) 12 [4, 3, 2, 14] rfl rfl) ?_ | refine ownOff_cons (asc_off (by with_reducible assumption) 13 [4, 3, 2, 14] rfl rfl) ?_))); (case h1 => omega); (case h2 => assumption); (case h3 => assumption); (case h4 => assumption); (case h5 => assumption); (case h6 => assumption); (case h7 => assumption); (case h8 => assumption); k_whole); intro tsp' tpc' h' tk' F' N'; dsimp only [chainL, cpuL, List.cons_append, List.nil_append] at N'; k_sweep) | ((with_reducible show wpAny _ _ (call (Value.ref 195) _) _ _ _); k_dflt (refine' nmi_spec ?C ?N ?ho ?h1 ?h2 ?h3 ?hi ?hl ?hs1 ?hs2 ?_; (case C => exact ⟨by k_asm, by k_asm, by k_asm, by k_asm, by exact rfl, by k_room, by ktr_units⟩); (case N => (refine' News.sel ?hN ?hS; (case hN => k_asm); (case hS => tb_start))); (case ho => refine ownOff_cons (asc_off (by with_reducible assumption) 14 [4, 3, 2] rfl rfl) (by with_reducible assumption)); (case h1 => assumption); (case h2 => assumption); (case h3 => assumption); (case hi => assumption); (case hl => assumption); (case hs1 => assumption); (case hs2 => assumption); k_whole); intro st' ref' t1' tsp' tpc' tref' tst' mv' mn' h' tk' e3' hi' F' N'; subst e3'; k_sweep)) | (k_end; wrow_close) | (walk1; all_goals (try dsimp only); all_goals (try (with_reducible refine Mine.wp_tok ?_; intro _))) | (dsimp only; walk1) | (leave1; walk_say "STEP leave1"; try dsimp only))
  (rename News _ _ _ _ => lN'; rename _ ∧ _ => l1')
  exact k _ _ _ _ _ _ _ _ _ _ _ _ (by assumption) (by assumption) lN' l1' (by tb_start)
theorem x5_spec {Q : Flow → Shared → Prop} {sp pc ref i1 i2 st : Int} {tsp tpc tref t1 t2 tst : Nat} {halt : Value} {mv : List Value} {pv : List Value} {pn : Nat} {mn : List Int} {t tp : Nat} {p : Int}
    (C : Cx w lo mean mg mb dp un (lawScope w.params) outer A₀ base h₀ L (MW f kv m₀ u fo nu pl wl) s.heap 40)
    (N : News h₀ L s.heap ((cpuL w.params f.cx f.dx f.mx f.kt f.r f.ss f.ix f.iy (.int sp tsp) (.int pc tpc) f.i (.int ref tref) (.int i1 t1) (.int i2 t2) (.int 1 f.tm) halt (.bool false) (.int st tst) mv f.nn ++ [(f.px, listOf (pv ++ [Value.ref t]).toArray pn)]) ++ rest)) (ht : (t, tup2 .none (.int p tp)) ∈ rest) (hoff2 : OwnOff rest [f.cx, f.dx, f.mx, f.px]) (hord : OrdT f) (hasc : Asc (srtT f)) (hmv : IntsAre mv mn) (hml : mn.length = 256) (hmb : Bytes mn) (hsp : 0 ≤ sp) (hsp2 : sp ≤ 254) (hpl : pv.length ≤ 100) (hpc : mn.getD sp.toNat 0 + 256 * mn.getD (sp + 1).toNat 0 = p)
    (k : ∀ (tsp' tpc' : Nat) (m' : Str → Option Value) (h' : Heap) (tk' : Nat), MmOk f kv m₀ m' → Fr h₀ L h' m' → News h₀ L h' ((cpuL w.params f.cx f.dx f.mx f.kt f.r f.ss f.ix f.iy (.int (sp + 2) tsp') (.int p tpc') f.i (.int ref tref) (.int i2 t2) (.int i2 t2) (.int 1 f.tm) halt (.bool false) (.int st tst) mv f.nn ++ [(f.px, listOf pv.toArray (pn + 1))]) ++ rest) → Q .next { s with heap := h', toks := tk' }) :
    wpAny (model prg w) (ktrTop dp un gd lawName (lawScope w.params) L a ccd [] outer) (execs (elsFn w.params).x5 (envOf lawName (lawScope w.params) L a ccd)) Q E s := by
  dsimp only [lawScope, lawName, lawFn, elsFn]
  obtain ⟨B, F, X, T, hk, hdp, hun⟩ := C
  delta MW MM psT at F
  dsimp only [kstB] at F
  have r1 : f.mx < f.dx ∧ f.dx < f.cx ∧ f.cx < f.px := by have := hord.h; omega
  dsimp only [cpuL, List.cons_append, List.nil_append] at N
  repeat' (first | (k_unfold; (try dsimp only)) | (refine Mine.stop_go ?_; first | ((with_reducible show wpAny _ _ (call (Value.builtin _) [Value.ref _, _]) _ _ _); k_dflt (refine' my_append ?F ?N ?U ?z ?_; (case F => k_asm); (case N => k_asm); (case U => k_upd); (case z => assumption); k_whole); intro h' F' N'; (try k_sweep)) | ((with_reducible show wpAny _ _ (call (Value.ref 237) _) _ _ _); k_dflt (refine' ends_spec ?C ?N ?ho ?h1 ?h2 ?_; (case C => exact ⟨by k_asm, by k_asm, by k_asm, by k_asm, by exact rfl, by k_room, by ktr_units⟩); (case N => (refine' News.sel ?hN ?hS; (case hN => k_asm); (case hS => tb_start))); (case ho => repeat' (first | (with_reducible assumption) | (first | refine ownOff_cons (asc_off (by with_reducible assumption) 4 [5, 7, 6, 9, 8, 11, 10, 13, 12] rfl rfl) ?_ | refine ownOff_cons (asc_off (by with_reducible assumption) 3 [5, 7, 6, 9, 8, 11, 10, 13, 12] rfl rfl) ?_ | refine ownOff_cons (asc_off (by with_reducible assumption) 2 [5, 7, 6, 9, 8, 11, 10, 13, 12] rfl rfl) ?_ | refine ownOff_cons (asc_off (by with_reducible assumption) 14 [5, 7, 6, 9, 8, 11, 10, 13, 12] rfl rfl) ?_))); (case h1 => with_reducible assumption); (case h2 => with_reducible assumption); k_whole); intro v' h' tk' hv' F' N'; dsimp only [chainL, cpuL, List.cons_append, List.nil_append] at N'; k_sweep; obtain ⟨te', ev'⟩ := ends_val hv' (by with_reducible assumption); subst ev'; clear hv'; (try dsimp only)) | ((with_reducible show wpAny _ _ (call (Value.ref 447) _) _ _ _); k_dflt (refine' back_spec ?hc ?C ?N ?ht ?ho ?h1 ?h2 ?h3 ?h4 ?h5 ?h6 ?h7 ?h8 ?_; (case hc => decide); (case C => exact ⟨by k_asm, by k_asm, by k_asm, by k_asm, by exact rfl, by k_room, by ktr_units⟩); (case N => (refine' News.sel ?hN ?hS; (case hN => k_asm); (case hS => tb_start))); (case ht => (repeat' (first | (with_reducible assumption) | refine List.mem_cons_of_mem _ ?_))); (case ho => repeat' (first | (with_reducible assumption) | (first | refine ownOff_cons (asc_off (by with_reducible assumption) 5 [4, 3, 2, 14] rfl rfl) ?_ | refine ownOff_cons (asc_off (by with_reducible assumption) 6 [4, 3, 2, 14] rfl rfl) ?_ | refine ownOff_cons (asc_off (by with_reducible assumption) 7 [4, 3, 2, 14] rfl rfl) ?_ | refine ownOff_cons (asc_off (by with_reducible assumption) 8 [4, 3, 2, 14] rfl rfl) ?_ | refine ownOff_cons (asc_off (by with_reducible assumption) 9 [4, 3, 2, 14] rfl rfl) ?_ | refine ownOff_cons (asc_off (by with_reducible assumption) 10 [4, 3, 2, 14] rfl rfl) ?_ | refine ownOff_cons (asc_off (by with_reducible assumption) 11 [4, 3, 2, 14] rfl rfl) ?_ | refine ownOff_cons (asc_off (by with_reducible assumption) 12 [4, 3, 2, 14] rfl rfl) ?_ | refine ownOff_cons (asc_off (by with_reducible assumption) 13 [4, 3, 2, 14] rfl rfl) ?_))); (case h1 => omega); (case h2 => assumption); (case h3 => assumption); (case h4 => assumption); (case h5 => assumption); (case h6 => assumption); (case h7 => assumption); (case h8 => assumption); k_whole); intro tsp' tpc' h' tk' F' N'; dsimp only [chainL, cpuL, List.cons_append, List.nil_append] at N'; k_sweep) | ((with_reducible show wpAny _ _ (call (Value.ref 195) _) _ _ _); k_dflt (refine' nmi_spec ?C ?N ?ho ?h1 ?h2 ?h3 ?hi ?hl ?hs1 ?hs2 ?_; (case C => exact ⟨by k_asm, by k_asm, by k_asm, by k_asm, by exact rfl, by k_room, by ktr_units⟩); (case N => (refine' News.sel ?hN ?hS; (case hN => k_asm); (case hS => tb_start))); (case ho => refine ownOff_cons (asc_off (by with_reducible assumption) 14 [4, 3, 2] rfl rfl) (by with_reducible assumption)); (case h1 => assumption); (case h2 => assumption); (case h3 => assumption); (case hi => assumption); (case hl => assumption); (case hs1 => assumption); (case hs2 => assumption); k_whole); intro st' ref' t1' tsp' tpc' tref' tst' mv' mn' h' tk' e3' hi' F' N'; subst e3'; k_sweep)) | (k_end; wrow_close) | (walk1; all_goals (try dsimp only); all_goals (try (with_reducible refine Mine.wp_tok ?_; intro _))) | (dsimp only; walk1) | (leave1; walk_say "STEP leave1"; try dsimp only))
  (rename News _ _ _ _ => lN'; rename Fr _ _ _ _ => lF')
  exact k _ _ _ _ _ (by repeat' (first | exact mm_base | refine mm_step (by decide) ?_)) lF' (News.sel lN' (by tb_start))
theorem x3a_spec {Q : Flow → Shared → Prop} {sp pc ref i1 i2 st : Int} {tsp tpc tref t1 t2 tst : Nat} {halt : Value} {mv : List Value} {pv : List Value} {pn : Nat} {mn : List Int} {t tp : Nat} {p : Int} {j : Int} {tj : Nat} {a0 s0 a1 s1 a2 s2 a3 s3 : Bool} {tl : List Stmt}
    (C : Cx w lo mean mg mb dp un (lawScope w.params) outer A₀ base h₀ L (MW f kv m₀ u fo nu pl wl) s.heap 40)
    (N : News h₀ L s.heap ((chainL w.params f.ch f.x0 f.d0 f.x1 f.d1 f.x2 f.d2 f.x3 f.d3 f.k0 f.k1 f.k2 f.k3 (.int f.z0 f.y0) (.int f.z1 f.y1) (.int f.z2 f.y2) (.int f.z3 f.y3) a0 s0 a1 s1 a2 s2 a3 s3 ++ (cpuL w.params f.cx f.dx f.mx f.kt f.r f.ss f.ix f.iy (.int sp tsp) (.int pc tpc) f.i (.int ref tref) (.int i1 t1) (.int i2 t2) (.int 1 f.tm) halt (.bool false) (.int st tst) mv f.nn ++ [(f.px, listOf (pv ++ [Value.ref t]).toArray pn)])) ++ rest)) (ht : (t, tup2 (.int j tj) (.int p tp)) ∈ rest) (hoff3 : OwnOff rest [f.ch, f.x0, f.d0, f.x1, f.d1, f.x2, f.d2, f.x3, f.d3]) (hfs : firstS s0 s1 s2 s3 = some j) (hoff2 : OwnOff rest [f.cx, f.dx, f.mx, f.px]) (hord : OrdT f) (hasc : Asc (srtT f)) (hmv : IntsAre mv mn) (hml : mn.length = 256) (hmb : Bytes mn) (hsp : 0 ≤ sp) (hsp2 : sp ≤ 254) (hpl : pv.length ≤ 100) (hpc : mn.getD sp.toNat 0 + 256 * mn.getD (sp + 1).toNat 0 = p)
    (k : ∀ (tsp' tpc' : Nat) (h' : Heap) (tk' : Nat), Fr h₀ L h' (fun z => if z = Str.ofString "top" then some (.int j tj) else MW f kv m₀ u fo nu pl wl z) → News h₀ L h' ((chainL w.params f.ch f.x0 f.d0 f.x1 f.d1 f.x2 f.d2 f.x3 f.d3 f.k0 f.k1 f.k2 f.k3 (.int f.z0 f.y0) (.int f.z1 f.y1) (.int f.z2 f.y2) (.int f.z3 f.y3) a0 (if firstS s0 s1 s2 s3 = some 0 then false else s0) a1 (if firstS s0 s1 s2 s3 = some 1 then false else s1) a2 (if firstS s0 s1 s2 s3 = some 2 then false else s2) a3 (if firstS s0 s1 s2 s3 = some 3 then false else s3) ++ (cpuL w.params f.cx f.dx f.mx f.kt f.r f.ss f.ix f.iy (.int (sp + 2) tsp') (.int p tpc') f.i (.int ref tref) (.int i2 t2) (.int i2 t2) (.int 1 f.tm) halt (.bool false) (.int st tst) mv f.nn ++ [(f.px, listOf pv.toArray (pn + 1))])) ++ rest) → wpAny (model prg w) (ktrTop dp un gd lawName (lawScope w.params) L a ccd [] outer) (execs tl (envOf lawName (lawScope w.params) L a ccd)) Q E { s with heap := h', toks := tk' }) :
    wpAny (model prg w) (ktrTop dp un gd lawName (lawScope w.params) L a ccd [] outer) (execs ((x3Fn w.params).y0 :: (x3Fn w.params).y1 :: tl) (envOf lawName (lawScope w.params) L a ccd)) Q E s := by
  dsimp only [lawScope, lawName, lawFn, elsFn, x3Fn]
  obtain ⟨B, F, X, T, hk, hdp, hun⟩ := C
  delta MW MM psT at F
  dsimp only [kstB] at F
  have r1 : f.mx < f.dx ∧ f.dx < f.cx ∧ f.cx < f.px := by have := hord.h; omega
  have r2 : f.d0 < f.x0 ∧ f.x0 < f.d1 ∧ f.d1 < f.x1 ∧ f.x1 < f.d2 ∧ f.d2 < f.x2 ∧ f.x2 < f.d3 ∧ f.d3 < f.x3 := by have := hord.h; omega
  have r3 : ∀ b ∈ [f.d0, f.x0, f.d1, f.x1, f.d2, f.x2, f.d3, f.x3], f.ch ≠ b := asc_off hasc 5 [6, 7, 8, 9, 10, 11, 12, 13] rfl rfl
  dsimp only [chainL, cpuL, List.cons_append, List.nil_append] at N
  repeat' (first | (k_unfold; (try dsimp only)) | (refine Mine.stop_go ?_; first | ((with_reducible show wpAny _ _ (call (Value.builtin _) [Value.ref _, _]) _ _ _); k_dflt (refine' my_append ?F ?N ?U ?z ?_; (case F => k_asm); (case N => k_asm); (case U => k_upd); (case z => assumption); k_whole); intro h' F' N'; (try k_sweep)) | ((with_reducible show wpAny _ _ (call (Value.ref 237) _) _ _ _); k_dflt (refine' ends_spec ?C ?N ?ho ?h1 ?h2 ?_; (case C => exact ⟨by k_asm, by k_asm, by k_asm, by k_asm, by exact rfl, by k_room, by ktr_units⟩); (case N => (refine' News.sel ?hN ?hS; (case hN => k_asm); (case hS => tb_start))); (case ho => repeat' (first | (with_reducible assumption) | (first | refine ownOff_cons (asc_off (by with_reducible assumption) 4 [5, 7, 6, 9, 8, 11, 10, 13, 12] rfl rfl) ?_ | refine ownOff_cons (asc_off (by with_reducible assumption) 3 [5, 7, 6, 9, 8, 11, 10, 13, 12] rfl rfl) ?_ | refine ownOff_cons (asc_off (by with_reducible assumption) 2 [5, 7, 6, 9, 8, 11, 10, 13, 12] rfl rfl) ?_ | refine ownOff_cons (asc_off (by with_reducible assumption) 14 [5, 7, 6, 9, 8, 11, 10, 13, 12] rfl rfl) ?_))); (case h1 => with_reducible assumption); (case h2 => with_reducible assumption); k_whole); intro v' h' tk' hv' F' N'; dsimp only [chainL, cpuL, List.cons_append, List.nil_append] at N'; k_sweep; obtain ⟨te', ev'⟩ := ends_val hv' (by with_reducible assumption); subst ev'; clear hv'; (try dsimp only)) | ((with_reducible show wpAny _ _ (call (Value.ref 447) _) _ _ _); k_dflt (refine' back_spec ?hc ?C ?N ?ht ?ho ?h1 ?h2 ?h3 ?h4 ?h5 ?h6 ?h7 ?h8 ?_; (case hc => decide); (case C => exact ⟨by k_asm, by k_asm, by k_asm, by k_asm, by exact rfl, by k_room, by ktr_units⟩); (case N => (refine' News.sel ?hN ?hS; (case hN => k_asm); (case hS => tb_start))); (case ht => (repeat' (first | (with_reducible assumption) | refine List.mem_cons_of_mem _ ?_))); (case ho => repeat' (first | (with_reducible assumption) | (first | refine ownOff_cons (asc_off (by with_reducible assumption) 5 [4, 3, 2, 14] rfl rfl) ?_ | refine ownOff_cons (asc_off (by with_reducible assumption) 6 [4, 3, 2, 14] rfl rfl) ?_ | refine ownOff_cons (asc_off (by with_reducible assumption) 7 [4, 3, 2, 14] rfl rfl) ?_ | refine ownOff_cons (asc_off (by with_reducible assumption) 8 [4, 3, 2, 14] rfl rfl) ?_ | refine ownOff_cons (asc_off (by with_reducible assumption) 9 [4, 3, 2, 14] rfl rfl) ?_ | refine ownOff_cons (asc_off (by with_reducible assumption) 10 [4, 3, 2, 14] rfl rfl) ?_ | refine ownOff_cons (asc_off (by with_reducible assumption) 11 [4, 3, 2, 14] rfl rfl) ?_ | refine ownOff_cons (asc_off (by with_reducible assumption) 12 [4, 3, 2, 14] rfl rfl) ?_ | refine ownOff_cons (asc_off (by with_reducible assumption) 13 [4, 3, 2, 14] rfl rfl) ?_))); (case h1 => omega); (case h2 => assumption); (case h3 => assumption); (case h4 => assumption); (case h5 => assumption); (case h6 => assumption); (case h7 => assumption); (case h8 => assumption); k_whole); intro tsp' tpc' h' tk' F' N'; dsimp only [chainL, cpuL, List.cons_append, List.nil_append] at N'; k_sweep) | ((with_reducible show wpAny _ _ (call (Value.ref 195) _) _ _ _); k_dflt (refine' nmi_spec ?C ?N ?ho ?h1 ?h2 ?h3 ?hi ?hl ?hs1 ?hs2 ?_; (case C => exact ⟨by k_asm, by k_asm, by k_asm, by k_asm, by exact rfl, by k_room, by ktr_units⟩); (case N => (refine' News.sel ?hN ?hS; (case hN => k_asm); (case hS => tb_start))); (case ho => refine ownOff_cons (asc_off (by with_reducible assumption) 14 [4, 3, 2] rfl rfl) (by with_reducible assumption)); (case h1 => assumption); (case h2 => assumption); (case h3 => assumption); (case hi => assumption); (case hl => assumption); (case hs1 => assumption); (case hs2 => assumption); k_whole); intro st' ref' t1' tsp' tpc' tref' tst' mv' mn' h' tk' e3' hi' F' N'; subst e3'; k_sweep)) | (k_end; wrow_close) | (walk1; all_goals (try dsimp only); all_goals (try (with_reducible refine Mine.wp_tok ?_; intro _))) | (dsimp only; walk1) | (leave1; walk_say "STEP leave1"; try dsimp only))
  (rename News _ _ _ _ => lN'; rename Fr _ _ _ _ => lF')
  exact k _ _ _ _ lF' (News.sel lN' (by tb_start))
theorem x3b_spec {Q : Flow → Shared → Prop} {qs : List Value} {c : Nat} {j e ff : Int} {tj uu vv cn : Nat}
    (C : Cx w lo mean mg mb dp un (lawScope w.params) outer A₀ base h₀ L (fun z => if z = Str.ofString "top" then some (.int j tj) else MW f kv m₀ u fo nu pl wl z) s.heap 40)
    (N : News h₀ L s.heap ([(f.qx, listOf qs.toArray f.qn), int2L c e ff uu vv cn] ++ rest)) (hoff : OwnOff rest [f.qx, c]) (h0 : 0 ≤ j) (h1 : j < 2 ^ 63) (h3 : qs[j.toNat]? = some (.ref c)) (n1 : c ≠ f.qx)
    (k : ∀ (vv' : Nat) (h' : Heap) (tk' : Nat), Fr h₀ L h' (fun z => if z = Str.ofString "top" then some (.int j tj) else MW f kv m₀ u fo nu pl wl z) → News h₀ L h' ([(f.qx, listOf qs.toArray f.qn), int2L c e (ff + 1) uu vv' cn] ++ rest) → Q .next { s with heap := h', toks := tk' }) :
    wpAny (model prg w) (ktrTop dp un gd lawName (lawScope w.params) L a ccd [] outer) (exec (x3Fn w.params).y2 (envOf lawName (lawScope w.params) L a ccd)) Q E s := by
  dsimp only [lawScope, lawName, lawFn, elsFn, x3Fn]
  obtain ⟨B, F, X, T, hk, hdp, hun⟩ := C
  delta MW MM psT at F
  dsimp only [kstB] at F
  dsimp only [int2L, List.cons_append, List.nil_append] at N
  repeat' (first | (k_unfold; (try dsimp only)) | (refine Mine.stop_go ?_; first | ((with_reducible show wpAny _ _ (call (Value.builtin _) [Value.ref _, _]) _ _ _); k_dflt (refine' my_append ?F ?N ?U ?z ?_; (case F => k_asm); (case N => k_asm); (case U => k_upd); (case z => assumption); k_whole); intro h' F' N'; (try k_sweep)) | ((with_reducible show wpAny _ _ (call (Value.ref 237) _) _ _ _); k_dflt (refine' ends_spec ?C ?N ?ho ?h1 ?h2 ?_; (case C => exact ⟨by k_asm, by k_asm, by k_asm, by k_asm, by exact rfl, by k_room, by ktr_units⟩); (case N => (refine' News.sel ?hN ?hS; (case hN => k_asm); (case hS => tb_start))); (case ho => repeat' (first | (with_reducible assumption) | (first | refine ownOff_cons (asc_off (by with_reducible assumption) 4 [5, 7, 6, 9, 8, 11, 10, 13, 12] rfl rfl) ?_ | refine ownOff_cons (asc_off (by with_reducible assumption) 3 [5, 7, 6, 9, 8, 11, 10, 13, 12] rfl rfl) ?_ | refine ownOff_cons (asc_off (by with_reducible assumption) 2 [5, 7, 6, 9, 8, 11, 10, 13, 12] rfl rfl) ?_ | refine ownOff_cons (asc_off (by with_reducible assumption) 14 [5, 7, 6, 9, 8, 11, 10, 13, 12] rfl rfl) ?_))); (case h1 => with_reducible assumption); (case h2 => with_reducible assumption); k_whole); intro v' h' tk' hv' F' N'; dsimp only [chainL, cpuL, List.cons_append, List.nil_append] at N'; k_sweep; obtain ⟨te', ev'⟩ := ends_val hv' (by with_reducible assumption); subst ev'; clear hv'; (try dsimp only)) | ((with_reducible show wpAny _ _ (call (Value.ref 447) _) _ _ _); k_dflt (refine' back_spec ?hc ?C ?N ?ht ?ho ?h1 ?h2 ?h3 ?h4 ?h5 ?h6 ?h7 ?h8 ?_; (case hc => decide); (case C => exact ⟨by k_asm, by k_asm, by k_asm, by k_asm, by exact rfl, by k_room, by ktr_units⟩); (case N => (refine' News.sel ?hN ?hS; (case hN => k_asm); (case hS => tb_start))); (case ht => (repeat' (first | (with_reducible assumption) | refine List.mem_cons_of_mem _ ?_))); (case ho => repeat' (first | (with_reducible assumption) | (first | refine ownOff_cons (asc_off (by with_reducible assumption) 5 [4, 3, 2, 14] rfl rfl) ?_ | refine ownOff_cons (asc_off (by with_reducible assumption) 6 [4, 3, 2, 14] rfl rfl) ?_ | refine ownOff_cons (asc_off (by with_reducible assumption) 7 [4, 3, 2, 14] rfl rfl) ?_ | refine ownOff_cons (asc_off (by with_reducible assumption) 8 [4, 3, 2, 14] rfl rfl) ?_ | refine ownOff_cons (asc_off (by with_reducible assumption) 9 [4, 3, 2, 14] rfl rfl) ?_ | refine ownOff_cons (asc_off (by with_reducible assumption) 10 [4, 3, 2, 14] rfl rfl) ?_ | refine ownOff_cons (asc_off (by with_reducible assumption) 11 [4, 3, 2, 14] rfl rfl) ?_ | refine ownOff_cons (asc_off (by with_reducible assumption) 12 [4, 3, 2, 14] rfl rfl) ?_ | refine ownOff_cons (asc_off (by with_reducible assumption) 13 [4, 3, 2, 14] rfl rfl) ?_))); (case h1 => omega); (case h2 => assumption); (case h3 => assumption); (case h4 => assumption); (case h5 => assumption); (case h6 => assumption); (case h7 => assumption); (case h8 => assumption); k_whole); intro tsp' tpc' h' tk' F' N'; dsimp only [chainL, cpuL, List.cons_append, List.nil_append] at N'; k_sweep) | ((with_reducible show wpAny _ _ (call (Value.ref 195) _) _ _ _); k_dflt (refine' nmi_spec ?C ?N ?ho ?h1 ?h2 ?h3 ?hi ?hl ?hs1 ?hs2 ?_; (case C => exact ⟨by k_asm, by k_asm, by k_asm, by k_asm, by exact rfl, by k_room, by ktr_units⟩); (case N => (refine' News.sel ?hN ?hS; (case hN => k_asm); (case hS => tb_start))); (case ho => refine ownOff_cons (asc_off (by with_reducible assumption) 14 [4, 3, 2] rfl rfl) (by with_reducible assumption)); (case h1 => assumption); (case h2 => assumption); (case h3 => assumption); (case hi => assumption); (case hl => assumption); (case hs1 => assumption); (case hs2 => assumption); k_whole); intro st' ref' t1' tsp' tpc' tref' tst' mv' mn' h' tk' e3' hi' F' N'; subst e3'; k_sweep)) | (k_end; wrow_close) | (walk1; all_goals (try dsimp only); all_goals (try (with_reducible refine Mine.wp_tok ?_; intro _))) | (dsimp only; walk1) | (leave1; walk_say "STEP leave1"; try dsimp only))
  exact k _ _ _ (by assumption) (by assumption)
end
end
section
open PySem PySem.W PyProof.Rows
theorem off20 : True := by (w_top off; trivial)
section
variable {w : World} {lo : List Str} {mean : ExcName → Option Value} {mg mb : Str → Option Value} {dp un : Nat} {gd : Option (List Code)} {cn : Str} {cs : Scope} {L a : Addr} {ccd : Value} {cl : List (Str × Addr)} {outer : List Env}
    {A₀ : Around} {base h₀ : Heap} {s : Shared} {E Q : Value → Shared → Prop} {f : TF} {m : Str → Option Value}
theorem led_perm {A B C D E R : List (Addr × Obj)} : (∀ p ∈ B ++ (C ++ (D ++ (E ++ (A ++ R)))), p ∈ (A ++ (B ++ (C ++ (D ++ E)))) ++ R) ∧ ∀ p ∈ (A ++ (B ++ (C ++ (D ++ E)))) ++ R, p ∈ B ++ (C ++ (D ++ (E ++ (A ++ R)))) := by
  constructor <;> intro p hp <;> simp only [List.mem_append] at hp ⊢
  · rcases hp with h | h | h | h | h | h <;> simp only [h, true_or, or_true]
  · rcases hp with (h | h | h | h | h) | h <;> simp only [h, true_or, or_true]
theorem right_spec2 {c : TS} {R : List (Addr × Obj)}
    (C : Cx w lo mean mg mb dp un cs outer A₀ base h₀ L m s.heap 20)
    (N : News h₀ L s.heap (LedT w.params f c ++ R)) (hoff : OwnOff R [f.px]) (hasc : Asc (srtT f)) (ho : OrdT f) (I : InvT c) (hlen : c.dl.length ≤ 12) (hp : PileIs R c.pv c.dl)
    (k : ∀ (h' : Heap) (tk' : Nat), Fr h₀ L h' m → News h₀ L h' (LedT w.params f c ++ R) → Q (.bool true) { s with heap := h', toks := tk' }) :
    wpAny (model prg w) (ktrTop dp un gd cn cs L a ccd cl outer) (call (.ref 440) [.ref f.cx, .ref f.mx, .ref f.ch, .ref f.px, .ref f.qx]) Q E s := by
  have N1 : News h₀ L s.heap ([(f.px, listOf c.pv.toArray c.pn)] ++ (chainL w.params f.ch f.x0 f.d0 f.x1 f.d1 f.x2 f.d2 f.x3 f.d3 f.k0 f.k1 f.k2 f.k3 (.int f.z0 f.y0) (.int f.z1 f.y1) (.int f.z2 f.y2) (.int f.z3 f.y3) c.a0 c.s0 c.a1 c.s1 c.a2 c.s2 c.a3 c.s3 ++
      (cpuL w.params f.cx f.dx f.mx f.kt f.r f.ss f.ix f.iy (.int c.sp c.tsp) (.int c.pc c.tpc) f.i (.int c.ref c.tref) (.int c.i1 c.t1) (.int c.i2 c.t2) (.int 1 f.tm) c.halt (.bool false) (.int c.st c.tst) c.mv f.nn ++ (cntL f.qx f.c0 f.c1 f.c2 f.c3 f.qn c.e0 c.f0 c.e1 c.f1 c.e2 c.f2 c.e3 c.f3 c.u0 c.v0 f.n0 c.u1 c.v1 f.n1 c.u2 c.v2 f.n2 c.u3 c.v3 f.n3 ++ (feedL f.fx f.gx c.t c.tt f.cv f.cnn ++ R))))) := News.sub N (led_perm.1)
  refine right_spec (rest := feedL f.fx f.gx c.t c.tt f.cv f.cnn ++ R) C N1 ?_ (asc_ne hasc 5 14 rfl rfl (by decide)) ho.h.2.2 I.mv I.ml (hp.mono fun p h => List.mem_append_right _ h) I.nu hlen I.sp I.i1 I.mem I.h0 I.h1 I.h2 I.h3 (fun h' tk' F' N' => k h' tk' F' (News.sub N' (led_perm.2)))
  exact ownOff_append (ownOff_cons (asc_off hasc 1 [14] rfl rfl) (ownOff_cons (asc_off hasc 0 [14] rfl rfl) ownOff_nil)) hoff
end
local macro_rules | `(tactic| walk_at "call ref") => `(tactic| ((with_reducible show wpAny _ _ (call (Value.ref 428) _) _ _ _); refine Mine.stop_here ?_))
local macro_rules | `(tactic| walk_at "call ref") => `(tactic| ((with_reducible show wpAny _ _ (call (Value.ref 440) _) _ _ _); refine Mine.stop_here ?_))
section
variable {w : World} {lo : List Str} {mean : ExcName → Option Value} {mg mb : Str → Option Value} {dp un : Nat} {gd : Option (List Code)} {L a : Addr} {ccd : Value} {outer : List Env}
    {A₀ : Around} {base h₀ : Heap} {s : Shared} {E : Value → Shared → Prop} {f : TF} {kv : Value} {m₀ u : Str → Option Value} {rest : List (Addr × Obj)} {Q : Flow → Shared → Prop} {tl : List Stmt}
theorem pre_spec {sp pc ref i1 i2 st t : Int} {tsp tpc tref t1 t2 tst tt : Nat} {halt : Value} {mv : List Value} {cns : List Int}
    (C : Cx w lo mean mg mb dp un (lawScope w.params) outer A₀ base h₀ L (MM f kv m₀ u) s.heap 40)
    (N : News h₀ L s.heap ((feedL f.fx f.gx t tt f.cv f.cnn ++ cpuL w.params f.cx f.dx f.mx f.kt f.r f.ss f.ix f.iy (.int sp tsp) (.int pc tpc) f.i (.int ref tref) (.int i1 t1) (.int i2 t2) (.int 1 f.tm) halt (.bool false) (.int st tst) mv f.nn) ++ rest))
    (hoff : OwnOff rest [f.fx, f.gx]) (hoff3 : OwnOff rest [f.dx]) (hord : OrdT f) (hasc : Asc (srtT f)) (hcv : IntsAre f.cv cns) (hcl : cns.length ≤ 40) (ht0 : 0 ≤ t) (ht1 : t ≤ 500)
    (k : ∀ (fo nu : Int) (tfo tnu tt' tpc' tpl twl : Nat) (h' : Heap) (tk' : Nat), 0 ≤ fo → fo < 6 → 0 ≤ nu → nu < 4 → Fr h₀ L h' (MW f kv m₀ u (.int fo tfo) (.int nu tnu) (.int (Builtin.bitAnd (pc + 1) 65535) tpl) (.int i1 twl)) →
      News h₀ L h' ((feedL f.fx f.gx (t + 1 + 1) tt' f.cv f.cnn ++ cpuL w.params f.cx f.dx f.mx f.kt f.r f.ss f.ix f.iy (.int sp tsp) (.int (Builtin.bitAnd (pc + 1) 65535) tpc') f.i (.int ref tref) (.int i1 t1) (.int i2 t2) (.int 1 f.tm) halt (.bool false) (.int st tst) mv f.nn) ++ rest) →
      wpAny (model prg w) (ktrTop dp un gd lawName (lawScope w.params) L a ccd [] outer) (execs tl (envOf lawName (lawScope w.params) L a ccd)) Q E { s with heap := h', toks := tk' }) :
    wpAny (model prg w) (ktrTop dp un gd lawName (lawScope w.params) L a ccd [] outer) (execs ((lawFn w.params).b0 :: (lawFn w.params).b1 :: (lawFn w.params).b2 :: tl) (envOf lawName (lawScope w.params) L a ccd)) Q E s := by
  dsimp only [lawScope, lawName, lawFn]
  obtain ⟨B, F, X, T, hk, hdp, hun⟩ := C
  delta MM psT at F
  dsimp only [kstB] at F
  have g1 : f.gx < f.fx := hord.h.1
  have n1 : f.dx ≠ f.fx := asc_ne hasc 3 1 rfl rfl (by decide)
  have n2 : f.dx ≠ f.gx := asc_ne hasc 3 0 rfl rfl (by decide)
  have n3 : f.dx ≠ f.cx := asc_ne hasc 3 4 rfl rfl (by decide)
  have n4 : f.dx ≠ f.mx := asc_ne hasc 3 2 rfl rfl (by decide)
  dsimp only [feedL, cpuL, List.cons_append, List.nil_append] at N
  repeat' (first | (k_unfold; (try dsimp only)) | (refine Mine.stop_go ?_; first | ((with_reducible show wpAny _ _ (call (Value.ref 440) _) _ _ _); k_dflt (refine' right_spec2 ?C (by with_reducible assumption) ?h1 ?h2 ?h3 ?h4 ?h5 ?h6 ?_; (case C => exact ⟨by k_asm, by k_asm, by k_asm, by k_asm, by exact rfl, by k_room, by ktr_units⟩); (case h1 => with_reducible assumption); (case h2 => with_reducible assumption); (case h3 => with_reducible assumption); (case h4 => with_reducible assumption); (case h5 => with_reducible assumption); (case h6 => with_reducible assumption); k_whole); intro h' tk' F' N'; k_sweep) | ((with_reducible show wpAny _ _ (call (Value.ref 428) _) _ _ _); k_dflt (refine' next_spec ?C ?N ?ho ?h1 ?h2 ?h3 ?h4 ?h5 ?h6 ?h7 ?_; (case C => exact ⟨by k_asm, by k_asm, by k_asm, by k_asm, by exact rfl, by k_room, by ktr_units⟩); (case N => (refine' News.sel ?hN ?hS; (case hN => k_asm); (case hS => tb_start))); (case ho => repeat' (first | (with_reducible assumption) | refine ownOff_cons (asc_off (by with_reducible assumption) 4 [1, 0] rfl rfl) ?_ | refine ownOff_cons (asc_off (by with_reducible assumption) 3 [1, 0] rfl rfl) ?_ | refine ownOff_cons (asc_off (by with_reducible assumption) 2 [1, 0] rfl rfl) ?_)); (case h1 => with_reducible assumption); (case h2 => with_reducible assumption); (case h3 => with_reducible assumption); (case h4 => omega); (case h5 => omega); (case h6 => decide); (case h7 => decide); k_whole); intro v' tv' tt' h' tk' b1' b2' F' N'; dsimp only [feedL, List.cons_append, List.nil_append] at N'; k_sweep)) | (k_end; wrow_close) | (walk1; all_goals (try dsimp only); all_goals (try (with_reducible refine Mine.wp_tok ?_; intro _))) | (dsimp only; walk1) | (leave1; walk_say "STEP leave1"; try dsimp only))
  (rename News _ _ _ _ => lN'; rename Fr _ _ _ _ => lF')
  exact k _ _ _ _ _ _ _ _ _ _ (by assumption) (by assumption) (by assumption) (by assumption) lF' (News.tl1 (News.tl1 lN'))
theorem post_spec {c : TS} {R : List (Addr × Obj)}
    (C : Cx w lo mean mg mb dp un (lawScope w.params) outer A₀ base h₀ L (MM f kv m₀ u) s.heap 40)
    (N : News h₀ L s.heap (LedT w.params f c ++ R)) (hoff : OwnOff R [f.px]) (hasc : Asc (srtT f)) (ho : OrdT f) (I : InvT c) (hp : PileIs R c.pv c.dl)
    (k : ∀ (h' : Heap) (tk' : Nat), Fr h₀ L h' (MM f kv m₀ u) → News h₀ L h' (LedT w.params f c ++ R) → Q .next { s with heap := h', toks := tk' }) :
    wpAny (model prg w) (ktrTop dp un gd lawName (lawScope w.params) L a ccd [] outer) (exec (lawFn w.params).b4 (envOf lawName (lawScope w.params) L a ccd)) Q E s := by
  dsimp only [lawScope, lawName, lawFn]
  obtain ⟨B, F, X, T, hk, hdp, hun⟩ := C
  have hlen := inv_len I
  have F0 := F
  delta MM psT at F
  dsimp only [kstB] at F
  repeat' (first | (k_unfold; (try dsimp only)) | (refine Mine.stop_go ?_; first | ((with_reducible show wpAny _ _ (call (Value.ref 440) _) _ _ _); k_dflt (refine' right_spec2 ?C (by with_reducible assumption) ?h1 ?h2 ?h3 ?h4 ?h5 ?h6 ?_; (case C => exact ⟨by k_asm, by k_asm, by k_asm, by k_asm, by exact rfl, by k_room, by ktr_units⟩); (case h1 => with_reducible assumption); (case h2 => with_reducible assumption); (case h3 => with_reducible assumption); (case h4 => with_reducible assumption); (case h5 => with_reducible assumption); (case h6 => with_reducible assumption); k_whole); intro h' tk' F' N'; k_sweep) | ((with_reducible show wpAny _ _ (call (Value.ref 428) _) _ _ _); k_dflt (refine' next_spec ?C ?N ?ho ?h1 ?h2 ?h3 ?h4 ?h5 ?h6 ?h7 ?_; (case C => exact ⟨by k_asm, by k_asm, by k_asm, by k_asm, by exact rfl, by k_room, by ktr_units⟩); (case N => (refine' News.sel ?hN ?hS; (case hN => k_asm); (case hS => tb_start))); (case ho => repeat' (first | (with_reducible assumption) | refine ownOff_cons (asc_off (by with_reducible assumption) 4 [1, 0] rfl rfl) ?_ | refine ownOff_cons (asc_off (by with_reducible assumption) 3 [1, 0] rfl rfl) ?_ | refine ownOff_cons (asc_off (by with_reducible assumption) 2 [1, 0] rfl rfl) ?_)); (case h1 => with_reducible assumption); (case h2 => with_reducible assumption); (case h3 => with_reducible assumption); (case h4 => omega); (case h5 => omega); (case h6 => decide); (case h7 => decide); k_whole); intro v' tv' tt' h' tk' b1' b2' F' N'; dsimp only [feedL, List.cons_append, List.nil_append] at N'; k_sweep)) | (k_end; wrow_close) | (walk1; all_goals (try dsimp only); all_goals (try (with_reducible refine Mine.wp_tok ?_; intro _))) | (dsimp only; walk1) | (leave1; walk_say "STEP leave1"; try dsimp only))
  exact k _ _ (by assumption) (by assumption)
end
end
section
open PySem PySem.W PyProof.Rows
theorem off21 : True := by (w_top off; trivial)
theorem Cx.at {w : World} {lo : List Str} {mean : ExcName → Option Value} {mg mb : Str → Option Value} {dp un : Nat} {cs : Scope} {outer : List Env} {A₀ : Around} {base h₀ : Heap} {L : Addr} {m m' : Str → Option Value} {h h' : Heap} {k : Nat} (C : Cx w lo mean mg mb dp un cs outer A₀ base h₀ L m h k) (F' : Fr h₀ L h' m') : Cx w lo mean mg mb dp un cs outer A₀ base h₀ L m' h' k := ⟨C.B, F', C.X, C.T, C.hk, C.hdp, C.hun⟩
theorem Cx.le {w : World} {lo : List Str} {mean : ExcName → Option Value} {mg mb : Str → Option Value} {dp un : Nat} {cs : Scope} {outer : List Env} {A₀ : Around} {base h₀ : Heap} {L : Addr} {m : Str → Option Value} {h : Heap} {k k' : Nat} (C : Cx w lo mean mg mb dp un cs outer A₀ base h₀ L m h k) (e : k' ≤ k) : Cx w lo mean mg mb dp un cs outer A₀ base h₀ L m h k' := ⟨C.B, C.F, C.X, C.T, C.hk, Nat.lt_of_le_of_lt (Nat.add_le_add_left e _) C.hdp, Nat.lt_of_le_of_lt (Nat.add_le_add_left (Nat.mul_le_mul_left _ e) _) C.hun⟩
theorem mw_ok {f : TF} {kv fo nu pl wl : Value} {m₀ u : Str → Option Value} : MmOk f kv m₀ (MW f kv m₀ u fo nu pl wl) := mm_step (by decide) (mm_step (by decide) (mm_step (by decide) (mm_step (by decide) mm_base)))
def ActOk (w : World) (h₀ : Heap) (L : Addr) (f : TF) (kv : Value) (m₀ : Str → Option Value) (R T : List (Addr × Obj)) (c : TS) (s : Shared) (Q : Flow → Shared → Prop) : Prop :=
  ∀ (c' : TS) (add : List (Addr × Obj)) (u' : Str → Option Value) (h' : Heap) (tk' : Nat), InvT c' → c'.t = c.t → PileIs (add ++ T) c'.pv c'.dl → (∀ q ∈ add, ∀ b ∈ adrT f, b < q.1) → (∀ q ∈ add, ∀ p ∈ R, p.1 ≠ q.1) → Fr h₀ L h' (MM f kv m₀ u') → News h₀ L h' (LedT w.params f c' ++ (add ++ R)) → Q .next { s with heap := h', toks := tk' }
section
variable {w : World} {lo : List Str} {mean : ExcName → Option Value} {mg mb : Str → Option Value} {dp un : Nat} {gd : Option (List Code)} {L a : Addr} {ccd : Value} {outer : List Env}
    {A₀ : Around} {base h₀ : Heap} {s : Shared} {E : Value → Shared → Prop} {f : TF} {kv fo nu pl wl : Value} {m₀ u : Str → Option Value} {R T : List (Addr × Obj)} {c : TS} {v : Int} {tv : Nat} {Q : Flow → Shared → Prop}
theorem act_skip {h' : Heap} {tk' : Nat} (F' : Fr h₀ L h' (MW f kv m₀ u fo nu pl wl)) (N' : News h₀ L h' (LedT w.params f c ++ R)) (I : InvT c) (hp : PileIs T c.pv c.dl) (k : ActOk w h₀ L f kv m₀ R T c s Q) : Q .next { s with heap := h', toks := tk' } :=
  k c [] _ h' tk' I rfl hp (fun _ h => nomatch h) (fun _ h => nomatch h) (mm_fr F' mw_ok) N'
theorem not_both {x y : Bool} (h : ¬ (x = false ∧ y = false)) : (!x && !y) = false := by cases x <;> cases y <;> simp_all
theorem led_px : (f.px, listOf c.pv.toArray c.pn) ∈ LedT w.params f c ++ R := List.mem_append_left _ (.tail _ (.tail _ (.head _)))
theorem fall5 (C : Cx w lo mean mg mb dp un (lawScope w.params) outer A₀ base h₀ L (MW f kv m₀ u (.int v tv) nu pl wl) s.heap 40)
    (N : News h₀ L s.heap (LedT w.params f c ++ R)) (hoff : OwnOff R (adrT f)) (ho : OrdT f) (I : InvT c) (hp : PileIs T c.pv c.dl) (hT : ∀ p ∈ T, p ∈ R) (hv3 : v ≠ 3) (hv4 : v ≠ 4) (hv5 : v ≠ 5)
    (k : ActOk w h₀ L f kv m₀ R T c s Q) :
    wpAny (model prg w) (ktrTop dp un gd lawName (lawScope w.params) L a ccd [] outer) (execs (lawFn w.params).els (envOf lawName (lawScope w.params) L a ccd)) Q E s := by
  have hasc := ord_asc ho
  rw [(elsFn w.params).ok]
  exact execs_one (if_no (t3_no C N hv3 fun h1 tk1 F1 N1 => ⟨rfl, execs_one (if_no (t4_no (C.at F1) N1 hv4 fun h2 tk2 F2 N2 => ⟨rfl, execs_one (if_no (t5_no (C.at F2) N2 hv5 fun h3 tk3 F3 N3 => ⟨rfl, wpAny_execs_nil (act_skip F3 N3 I hp k)⟩))⟩))⟩))
theorem act1 (C : Cx w lo mean mg mb dp un (lawScope w.params) outer A₀ base h₀ L (MW f kv m₀ u (.int v tv) nu pl wl) s.heap 40)
    (N : News h₀ L s.heap (LedT w.params f c ++ R)) (hoff : OwnOff R (adrT f)) (ho : OrdT f) (I : InvT c) (hp : PileIs T c.pv c.dl) (hT : ∀ p ∈ T, p ∈ R) (hv : v = 1)
    (k : ActOk w h₀ L f kv m₀ R T c s Q) :
    wpAny (model prg w) (ktrTop dp un gd lawName (lawScope w.params) L a ccd [] outer) (exec (Stmt.If (lawFn w.params).t0 (lawFn w.params).x0 [.If (lawFn w.params).t1 (lawFn w.params).x1 [.If (lawFn w.params).t2 (lawFn w.params).blk (lawFn w.params).els (lawFn w.params).p2] (lawFn w.params).p1] (lawFn w.params).p0) (envOf lawName (lawScope w.params) L a ccd)) Q E s := by
  have hasc := ord_asc ho
  refine if_no (t0_no C N (by omega) fun h1 tk1 F1 N1 => ⟨rfl, execs_one (if_yes (t1_yes (C.at F1) N1 hv fun h2 tk2 F2 N2 => ⟨rfl, ?_⟩))⟩)
  refine' x1_spec (sp := c.sp) (tsp := c.tsp) (pc := c.pc) (tpc := c.tpc) (ref := c.ref) (tref := c.tref) (i1 := c.i1) (t1 := c.t1) (i2 := c.i2) (t2 := c.t2) (halt := c.halt) (st := c.st) (tst := c.tst) (mv := c.mv) (C.at F2) ?N ?off ⟨ho.h.2.2.1, ho.h.2.2.2.1⟩ ?k
  case N => exact News.sel N2 (by tb_start)
  case off => exact (ownOff_cons (asc_off hasc 1 [4, 3, 2] rfl rfl) (ownOff_cons (asc_off hasc 0 [4, 3, 2] rfl rfl) (ownOff_cons (asc_off hasc 14 [4, 3, 2] rfl rfl) (ownOff_cons (asc_off hasc 5 [4, 3, 2] rfl rfl) (ownOff_cons (asc_off hasc 7 [4, 3, 2] rfl rfl) (ownOff_cons (asc_off hasc 6 [4, 3, 2] rfl rfl) (ownOff_cons (asc_off hasc 9 [4, 3, 2] rfl rfl) (ownOff_cons (asc_off hasc 8 [4, 3, 2] rfl rfl) (ownOff_cons (asc_off hasc 11 [4, 3, 2] rfl rfl) (ownOff_cons (asc_off hasc 10 [4, 3, 2] rfl rfl) (ownOff_cons (asc_off hasc 13 [4, 3, 2] rfl rfl) (ownOff_cons (asc_off hasc 12 [4, 3, 2] rfl rfl) (ownOff_cons (asc_off hasc 19 [4, 3, 2] rfl rfl) (ownOff_cons (asc_off hasc 15 [4, 3, 2] rfl rfl) (ownOff_cons (asc_off hasc 16 [4, 3, 2] rfl rfl) (ownOff_cons (asc_off hasc 17 [4, 3, 2] rfl rfl) (ownOff_cons (asc_off hasc 18 [4, 3, 2] rfl rfl) (ownOff_sub hoff (sub_idx [12, 13, 14] rfl)))))))))))))))))))
  case k => exact fun t1' t2' h3 tk3 F3 N3 => k { c with i1 := 1, t1 := t1', i2 := 1, t2 := t2' } [] _ h3 tk3 (inv_let I) rfl hp (fun _ h => nomatch h) (fun _ h => nomatch h) (mm_fr F3 mw_ok) (News.sel N3 (by tb_start))
theorem act0 {j : Int} {tj : Nat} (C : Cx w lo mean mg mb dp un (lawScope w.params) outer A₀ base h₀ L (MW f kv m₀ u (.int v tv) (.int j tj) pl wl) s.heap 40)
    (N : News h₀ L s.heap (LedT w.params f c ++ R)) (hoff : OwnOff R (adrT f)) (ho : OrdT f) (I : InvT c) (hp : PileIs T c.pv c.dl) (hT : ∀ p ∈ T, p ∈ R) (hv : v = 0) (h0 : 0 ≤ j) (h4 : j < 4)
    (k : ActOk w h₀ L f kv m₀ R T c s Q) :
    wpAny (model prg w) (ktrTop dp un gd lawName (lawScope w.params) L a ccd [] outer) (exec (Stmt.If (lawFn w.params).t0 (lawFn w.params).x0 [.If (lawFn w.params).t1 (lawFn w.params).x1 [.If (lawFn w.params).t2 (lawFn w.params).blk (lawFn w.params).els (lawFn w.params).p2] (lawFn w.params).p1] (lawFn w.params).p0) (envOf lawName (lawScope w.params) L a ccd)) Q E s := by
  have hasc := ord_asc ho
  subst hv
  have hk : j = 0 ∨ j = 1 ∨ j = 2 ∨ j = 3 := by omega
  rcases hk with rfl | rfl | rfl | rfl
  · by_cases hb : c.a0 = false ∧ c.s0 = false
    · refine' if_yes (t0_ask (vs := [Value.ref f.x0, Value.ref f.x1, Value.ref f.x2, Value.ref f.x3]) (x := f.x0) (d := f.d0) (kk := f.k0) (o := .int f.z0 f.y0) (aa := c.a0) (ss := c.s0) C ?NA (by decide) (by decide) rfl fun h1 tk1 F1 N1 => ⟨by rw [hb.1, hb.2]; rfl, ?KA⟩)
      case NA => exact News.sel N (by tb_start)
      case KA =>
        refine' x0_spec (vs := [Value.ref f.x0, Value.ref f.x1, Value.ref f.x2, Value.ref f.x3]) (x := f.x0) (d := f.d0) (kk := f.k0) (o := .int f.z0 f.y0) (aa := c.a0) (ss := c.s0) (qs := [Value.ref f.c0, Value.ref f.c1, Value.ref f.c2, Value.ref f.c3]) (c := f.c0) (e := c.e0) (ff := c.f0) (uu := c.u0) (vv := c.v0) (cn := f.n0) (C.at F1) ?NB ?OB (by decide) (by decide) rfl rfl (asc_ne hasc 6 5 rfl rfl (by decide)) (asc_ne hasc 15 5 rfl rfl (by decide)) (by have := ho.h; omega) ?KB
        case NB => exact News.sel N1 (by tb_start)
        case OB => exact (ownOff_cons (asc_off hasc 1 [5, 7, 6, 19, 15] rfl rfl) (ownOff_cons (asc_off hasc 0 [5, 7, 6, 19, 15] rfl rfl) (ownOff_cons (asc_off hasc 14 [5, 7, 6, 19, 15] rfl rfl) (ownOff_cons (asc_off hasc 9 [5, 7, 6, 19, 15] rfl rfl) (ownOff_cons (asc_off hasc 8 [5, 7, 6, 19, 15] rfl rfl) (ownOff_cons (asc_off hasc 11 [5, 7, 6, 19, 15] rfl rfl) (ownOff_cons (asc_off hasc 10 [5, 7, 6, 19, 15] rfl rfl) (ownOff_cons (asc_off hasc 13 [5, 7, 6, 19, 15] rfl rfl) (ownOff_cons (asc_off hasc 12 [5, 7, 6, 19, 15] rfl rfl) (ownOff_cons (asc_off hasc 4 [5, 7, 6, 19, 15] rfl rfl) (ownOff_cons (asc_off hasc 3 [5, 7, 6, 19, 15] rfl rfl) (ownOff_cons (asc_off hasc 2 [5, 7, 6, 19, 15] rfl rfl) (ownOff_cons (asc_off hasc 16 [5, 7, 6, 19, 15] rfl rfl) (ownOff_cons (asc_off hasc 17 [5, 7, 6, 19, 15] rfl rfl) (ownOff_cons (asc_off hasc 18 [5, 7, 6, 19, 15] rfl rfl) (ownOff_sub hoff (sub_idx [3, 4, 5, 15, 16] rfl)))))))))))))))))
        case KB => exact fun uu' h3 tk3 F3 N3 => k { c with a0 := true, e0 := c.e0 + 1, u0 := uu' } [] _ h3 tk3 ((inv_ask I).1 uu' hb.1 hb.2) rfl hp (fun _ h => nomatch h) (fun _ h => nomatch h) (mm_fr F3 mw_ok) (News.sel N3 (by tb_start))
    · refine' if_no (t0_ask (vs := [Value.ref f.x0, Value.ref f.x1, Value.ref f.x2, Value.ref f.x3]) (x := f.x0) (d := f.d0) (kk := f.k0) (o := .int f.z0 f.y0) (aa := c.a0) (ss := c.s0) C ?NA (by decide) (by decide) rfl fun h1 tk1 F1 N1 => ⟨not_both hb, execs_one (if_no (t1_no (C.at F1) (News.sel N1 ?S) (by decide) fun h2 tk2 F2 N2 => ⟨rfl, execs_one (if_no (t2_no (C.at F2) N2 (by decide) (by decide) fun h3 tk3 F3 N3 => ⟨rfl, fall5 (C.at F3) N3 hoff ho I hp hT (by decide) (by decide) (by decide) k⟩))⟩))⟩)
      case NA => exact News.sel N (by tb_start)
      case S => tb_start
  · by_cases hb : c.a1 = false ∧ c.s1 = false
    · refine' if_yes (t0_ask (vs := [Value.ref f.x0, Value.ref f.x1, Value.ref f.x2, Value.ref f.x3]) (x := f.x1) (d := f.d1) (kk := f.k1) (o := .int f.z1 f.y1) (aa := c.a1) (ss := c.s1) C ?NA (by decide) (by decide) rfl fun h1 tk1 F1 N1 => ⟨by rw [hb.1, hb.2]; rfl, ?KA⟩)
      case NA => exact News.sel N (by tb_start)
      case KA =>
        refine' x0_spec (vs := [Value.ref f.x0, Value.ref f.x1, Value.ref f.x2, Value.ref f.x3]) (x := f.x1) (d := f.d1) (kk := f.k1) (o := .int f.z1 f.y1) (aa := c.a1) (ss := c.s1) (qs := [Value.ref f.c0, Value.ref f.c1, Value.ref f.c2, Value.ref f.c3]) (c := f.c1) (e := c.e1) (ff := c.f1) (uu := c.u1) (vv := c.v1) (cn := f.n1) (C.at F1) ?NB ?OB (by decide) (by decide) rfl rfl (asc_ne hasc 8 5 rfl rfl (by decide)) (asc_ne hasc 16 5 rfl rfl (by decide)) (by have := ho.h; omega) ?KB
        case NB => exact News.sel N1 (by tb_start)
        case OB => exact (ownOff_cons (asc_off hasc 1 [5, 9, 8, 19, 16] rfl rfl) (ownOff_cons (asc_off hasc 0 [5, 9, 8, 19, 16] rfl rfl) (ownOff_cons (asc_off hasc 14 [5, 9, 8, 19, 16] rfl rfl) (ownOff_cons (asc_off hasc 7 [5, 9, 8, 19, 16] rfl rfl) (ownOff_cons (asc_off hasc 6 [5, 9, 8, 19, 16] rfl rfl) (ownOff_cons (asc_off hasc 11 [5, 9, 8, 19, 16] rfl rfl) (ownOff_cons (asc_off hasc 10 [5, 9, 8, 19, 16] rfl rfl) (ownOff_cons (asc_off hasc 13 [5, 9, 8, 19, 16] rfl rfl) (ownOff_cons (asc_off hasc 12 [5, 9, 8, 19, 16] rfl rfl) (ownOff_cons (asc_off hasc 4 [5, 9, 8, 19, 16] rfl rfl) (ownOff_cons (asc_off hasc 3 [5, 9, 8, 19, 16] rfl rfl) (ownOff_cons (asc_off hasc 2 [5, 9, 8, 19, 16] rfl rfl) (ownOff_cons (asc_off hasc 15 [5, 9, 8, 19, 16] rfl rfl) (ownOff_cons (asc_off hasc 17 [5, 9, 8, 19, 16] rfl rfl) (ownOff_cons (asc_off hasc 18 [5, 9, 8, 19, 16] rfl rfl) (ownOff_sub hoff (sub_idx [3, 6, 7, 15, 17] rfl)))))))))))))))))
        case KB => exact fun uu' h3 tk3 F3 N3 => k { c with a1 := true, e1 := c.e1 + 1, u1 := uu' } [] _ h3 tk3 ((inv_ask I).2.1 uu' hb.1 hb.2) rfl hp (fun _ h => nomatch h) (fun _ h => nomatch h) (mm_fr F3 mw_ok) (News.sel N3 (by tb_start))
    · refine' if_no (t0_ask (vs := [Value.ref f.x0, Value.ref f.x1, Value.ref f.x2, Value.ref f.x3]) (x := f.x1) (d := f.d1) (kk := f.k1) (o := .int f.z1 f.y1) (aa := c.a1) (ss := c.s1) C ?NA (by decide) (by decide) rfl fun h1 tk1 F1 N1 => ⟨not_both hb, execs_one (if_no (t1_no (C.at F1) (News.sel N1 ?S) (by decide) fun h2 tk2 F2 N2 => ⟨rfl, execs_one (if_no (t2_no (C.at F2) N2 (by decide) (by decide) fun h3 tk3 F3 N3 => ⟨rfl, fall5 (C.at F3) N3 hoff ho I hp hT (by decide) (by decide) (by decide) k⟩))⟩))⟩)
      case NA => exact News.sel N (by tb_start)
      case S => tb_start
  · by_cases hb : c.a2 = false ∧ c.s2 = false
    · refine' if_yes (t0_ask (vs := [Value.ref f.x0, Value.ref f.x1, Value.ref f.x2, Value.ref f.x3]) (x := f.x2) (d := f.d2) (kk := f.k2) (o := .int f.z2 f.y2) (aa := c.a2) (ss := c.s2) C ?NA (by decide) (by decide) rfl fun h1 tk1 F1 N1 => ⟨by rw [hb.1, hb.2]; rfl, ?KA⟩)
      case NA => exact News.sel N (by tb_start)
      case KA =>
        refine' x0_spec (vs := [Value.ref f.x0, Value.ref f.x1, Value.ref f.x2, Value.ref f.x3]) (x := f.x2) (d := f.d2) (kk := f.k2) (o := .int f.z2 f.y2) (aa := c.a2) (ss := c.s2) (qs := [Value.ref f.c0, Value.ref f.c1, Value.ref f.c2, Value.ref f.c3]) (c := f.c2) (e := c.e2) (ff := c.f2) (uu := c.u2) (vv := c.v2) (cn := f.n2) (C.at F1) ?NB ?OB (by decide) (by decide) rfl rfl (asc_ne hasc 10 5 rfl rfl (by decide)) (asc_ne hasc 17 5 rfl rfl (by decide)) (by have := ho.h; omega) ?KB
        case NB => exact News.sel N1 (by tb_start)
        case OB => exact (ownOff_cons (asc_off hasc 1 [5, 11, 10, 19, 17] rfl rfl) (ownOff_cons (asc_off hasc 0 [5, 11, 10, 19, 17] rfl rfl) (ownOff_cons (asc_off hasc 14 [5, 11, 10, 19, 17] rfl rfl) (ownOff_cons (asc_off hasc 7 [5, 11, 10, 19, 17] rfl rfl) (ownOff_cons (asc_off hasc 6 [5, 11, 10, 19, 17] rfl rfl) (ownOff_cons (asc_off hasc 9 [5, 11, 10, 19, 17] rfl rfl) (ownOff_cons (asc_off hasc 8 [5, 11, 10, 19, 17] rfl rfl) (ownOff_cons (asc_off hasc 13 [5, 11, 10, 19, 17] rfl rfl) (ownOff_cons (asc_off hasc 12 [5, 11, 10, 19, 17] rfl rfl) (ownOff_cons (asc_off hasc 4 [5, 11, 10, 19, 17] rfl rfl) (ownOff_cons (asc_off hasc 3 [5, 11, 10, 19, 17] rfl rfl) (ownOff_cons (asc_off hasc 2 [5, 11, 10, 19, 17] rfl rfl) (ownOff_cons (asc_off hasc 15 [5, 11, 10, 19, 17] rfl rfl) (ownOff_cons (asc_off hasc 16 [5, 11, 10, 19, 17] rfl rfl) (ownOff_cons (asc_off hasc 18 [5, 11, 10, 19, 17] rfl rfl) (ownOff_sub hoff (sub_idx [3, 8, 9, 15, 18] rfl)))))))))))))))))
        case KB => exact fun uu' h3 tk3 F3 N3 => k { c with a2 := true, e2 := c.e2 + 1, u2 := uu' } [] _ h3 tk3 ((inv_ask I).2.2.1 uu' hb.1 hb.2) rfl hp (fun _ h => nomatch h) (fun _ h => nomatch h) (mm_fr F3 mw_ok) (News.sel N3 (by tb_start))
    · refine' if_no (t0_ask (vs := [Value.ref f.x0, Value.ref f.x1, Value.ref f.x2, Value.ref f.x3]) (x := f.x2) (d := f.d2) (kk := f.k2) (o := .int f.z2 f.y2) (aa := c.a2) (ss := c.s2) C ?NA (by decide) (by decide) rfl fun h1 tk1 F1 N1 => ⟨not_both hb, execs_one (if_no (t1_no (C.at F1) (News.sel N1 ?S) (by decide) fun h2 tk2 F2 N2 => ⟨rfl, execs_one (if_no (t2_no (C.at F2) N2 (by decide) (by decide) fun h3 tk3 F3 N3 => ⟨rfl, fall5 (C.at F3) N3 hoff ho I hp hT (by decide) (by decide) (by decide) k⟩))⟩))⟩)
      case NA => exact News.sel N (by tb_start)
      case S => tb_start
  · by_cases hb : c.a3 = false ∧ c.s3 = false
    · refine' if_yes (t0_ask (vs := [Value.ref f.x0, Value.ref f.x1, Value.ref f.x2, Value.ref f.x3]) (x := f.x3) (d := f.d3) (kk := f.k3) (o := .int f.z3 f.y3) (aa := c.a3) (ss := c.s3) C ?NA (by decide) (by decide) rfl fun h1 tk1 F1 N1 => ⟨by rw [hb.1, hb.2]; rfl, ?KA⟩)
      case NA => exact News.sel N (by tb_start)
      case KA =>
        refine' x0_spec (vs := [Value.ref f.x0, Value.ref f.x1, Value.ref f.x2, Value.ref f.x3]) (x := f.x3) (d := f.d3) (kk := f.k3) (o := .int f.z3 f.y3) (aa := c.a3) (ss := c.s3) (qs := [Value.ref f.c0, Value.ref f.c1, Value.ref f.c2, Value.ref f.c3]) (c := f.c3) (e := c.e3) (ff := c.f3) (uu := c.u3) (vv := c.v3) (cn := f.n3) (C.at F1) ?NB ?OB (by decide) (by decide) rfl rfl (asc_ne hasc 12 5 rfl rfl (by decide)) (asc_ne hasc 18 5 rfl rfl (by decide)) (by have := ho.h; omega) ?KB
        case NB => exact News.sel N1 (by tb_start)
        case OB => exact (ownOff_cons (asc_off hasc 1 [5, 13, 12, 19, 18] rfl rfl) (ownOff_cons (asc_off hasc 0 [5, 13, 12, 19, 18] rfl rfl) (ownOff_cons (asc_off hasc 14 [5, 13, 12, 19, 18] rfl rfl) (ownOff_cons (asc_off hasc 7 [5, 13, 12, 19, 18] rfl rfl) (ownOff_cons (asc_off hasc 6 [5, 13, 12, 19, 18] rfl rfl) (ownOff_cons (asc_off hasc 9 [5, 13, 12, 19, 18] rfl rfl) (ownOff_cons (asc_off hasc 8 [5, 13, 12, 19, 18] rfl rfl) (ownOff_cons (asc_off hasc 11 [5, 13, 12, 19, 18] rfl rfl) (ownOff_cons (asc_off hasc 10 [5, 13, 12, 19, 18] rfl rfl) (ownOff_cons (asc_off hasc 4 [5, 13, 12, 19, 18] rfl rfl) (ownOff_cons (asc_off hasc 3 [5, 13, 12, 19, 18] rfl rfl) (ownOff_cons (asc_off hasc 2 [5, 13, 12, 19, 18] rfl rfl) (ownOff_cons (asc_off hasc 15 [5, 13, 12, 19, 18] rfl rfl) (ownOff_cons (asc_off hasc 16 [5, 13, 12, 19, 18] rfl rfl) (ownOff_cons (asc_off hasc 17 [5, 13, 12, 19, 18] rfl rfl) (ownOff_sub hoff (sub_idx [3, 10, 11, 15, 19] rfl)))))))))))))))))
        case KB => exact fun uu' h3 tk3 F3 N3 => k { c with a3 := true, e3 := c.e3 + 1, u3 := uu' } [] _ h3 tk3 ((inv_ask I).2.2.2 uu' hb.1 hb.2) rfl hp (fun _ h => nomatch h) (fun _ h => nomatch h) (mm_fr F3 mw_ok) (News.sel N3 (by tb_start))
    · refine' if_no (t0_ask (vs := [Value.ref f.x0, Value.ref f.x1, Value.ref f.x2, Value.ref f.x3]) (x := f.x3) (d := f.d3) (kk := f.k3) (o := .int f.z3 f.y3) (aa := c.a3) (ss := c.s3) C ?NA (by decide) (by decide) rfl fun h1 tk1 F1 N1 => ⟨not_both hb, execs_one (if_no (t1_no (C.at F1) (News.sel N1 ?S) (by decide) fun h2 tk2 F2 N2 => ⟨rfl, execs_one (if_no (t2_no (C.at F2) N2 (by decide) (by decide) fun h3 tk3 F3 N3 => ⟨rfl, fall5 (C.at F3) N3 hoff ho I hp hT (by decide) (by decide) (by decide) k⟩))⟩))⟩)
      case NA => exact News.sel N (by tb_start)
      case S => tb_start
theorem act2 {pl' wl' : Nat} (C : Cx w lo mean mg mb dp un (lawScope w.params) outer A₀ base h₀ L (MW f kv m₀ u (.int v tv) nu (.int c.pc pl') (.int c.i1 wl')) s.heap 40)
    (N : News h₀ L s.heap (LedT w.params f c ++ R)) (hoff : OwnOff R (adrT f)) (ho : OrdT f) (I : InvT c) (hp : PileIs T c.pv c.dl) (hT : ∀ p ∈ T, p ∈ R) (hv : v = 2 ∨ v = 3 ∧ (c.dl = [] ∨ ∃ dl' p, c.dl = dl' ++ [(none, p)]))
    (k : ActOk w h₀ L f kv m₀ R T c s Q) :
    wpAny (model prg w) (ktrTop dp un gd lawName (lawScope w.params) L a ccd [] outer) (exec (Stmt.If (lawFn w.params).t0 (lawFn w.params).x0 [.If (lawFn w.params).t1 (lawFn w.params).x1 [.If (lawFn w.params).t2 (lawFn w.params).blk (lawFn w.params).els (lawFn w.params).p2] (lawFn w.params).p1] (lawFn w.params).p0) (envOf lawName (lawScope w.params) L a ccd)) Q E s := by
  have hasc := ord_asc ho
  refine if_no (t0_no C N (by omega) fun h1 tk1 F1 N1 => ⟨rfl, execs_one (if_no (t1_no (C.at F1) N1 (by omega) fun h2 tk2 F2 N2 => ⟨rfl, execs_one (if_yes (t2_true (C.at F2) N2 led_px hp (fun p h => List.mem_append_right _ (hT p h)) hv fun h3 tk3 F3 N3 => ⟨rfl, ?_⟩))⟩))⟩)
  have hlen := inv_len I
  have hpl := hp.length
  have hs := I.sp
  have g0 := I.i0
  have g1 := I.i1
  have g2 := I.i2
  refine' blk_spec (sp := c.sp) (tsp := c.tsp) (pc := c.pc) (tpc := c.tpc) (ref := c.ref) (tref := c.tref) (i1 := c.i1) (t1 := c.t1) (i2 := c.i2) (t2 := c.t2) (halt := c.halt) (st := c.st) (tst := c.tst) (mv := c.mv) (pv := c.pv) (pn := c.pn) (mn := c.mn) (a0 := c.a0) (s0 := c.s0) (a1 := c.a1) (s1 := c.s1) (a2 := c.a2) (s2 := c.s2) (a3 := c.a3) (s3 := c.s3) (C.at F3) ?NA ?OA ?OB ?OC ho hasc I.mv I.ml (by omega) (by omega) (by omega) (by omega) ?KA ?KB
  case NA => exact News.sel N3 (by tb_start)
  case OA => exact (ownOff_cons (asc_off hasc 1 [5, 7, 6, 9, 8, 11, 10, 13, 12] rfl rfl) (ownOff_cons (asc_off hasc 0 [5, 7, 6, 9, 8, 11, 10, 13, 12] rfl rfl) (ownOff_cons (asc_off hasc 19 [5, 7, 6, 9, 8, 11, 10, 13, 12] rfl rfl) (ownOff_cons (asc_off hasc 15 [5, 7, 6, 9, 8, 11, 10, 13, 12] rfl rfl) (ownOff_cons (asc_off hasc 16 [5, 7, 6, 9, 8, 11, 10, 13, 12] rfl rfl) (ownOff_cons (asc_off hasc 17 [5, 7, 6, 9, 8, 11, 10, 13, 12] rfl rfl) (ownOff_cons (asc_off hasc 18 [5, 7, 6, 9, 8, 11, 10, 13, 12] rfl rfl) (ownOff_sub hoff (sub_idx [3, 4, 5, 6, 7, 8, 9, 10, 11] rfl)))))))))
  case OB => exact (ownOff_cons (asc_off hasc 1 [5, 7, 6, 9, 8, 11, 10, 13, 12, 4, 3, 2] rfl rfl) (ownOff_cons (asc_off hasc 0 [5, 7, 6, 9, 8, 11, 10, 13, 12, 4, 3, 2] rfl rfl) (ownOff_cons (asc_off hasc 19 [5, 7, 6, 9, 8, 11, 10, 13, 12, 4, 3, 2] rfl rfl) (ownOff_cons (asc_off hasc 15 [5, 7, 6, 9, 8, 11, 10, 13, 12, 4, 3, 2] rfl rfl) (ownOff_cons (asc_off hasc 16 [5, 7, 6, 9, 8, 11, 10, 13, 12, 4, 3, 2] rfl rfl) (ownOff_cons (asc_off hasc 17 [5, 7, 6, 9, 8, 11, 10, 13, 12, 4, 3, 2] rfl rfl) (ownOff_cons (asc_off hasc 18 [5, 7, 6, 9, 8, 11, 10, 13, 12, 4, 3, 2] rfl rfl) (ownOff_sub hoff (sub_idx [3, 4, 5, 6, 7, 8, 9, 10, 11, 12, 13, 14] rfl)))))))))
  case OC => exact (ownOff_cons (asc_off hasc 1 [14] rfl rfl) (ownOff_cons (asc_off hasc 0 [14] rfl rfl) (ownOff_cons (asc_off hasc 19 [14] rfl rfl) (ownOff_cons (asc_off hasc 15 [14] rfl rfl) (ownOff_cons (asc_off hasc 16 [14] rfl rfl) (ownOff_cons (asc_off hasc 17 [14] rfl rfl) (ownOff_cons (asc_off hasc 18 [14] rfl rfl) (ownOff_sub hoff (sub_idx [2] rfl)))))))))
  case KA => exact fun m' h' tk' M' F' N' => k c [] m' h' tk' I rfl hp (fun _ h => nomatch h) (fun _ h => nomatch h) (mm_fr F' M') (News.sel N' (by tb_start))
  case KB =>
    intro j tj st' ref' D t1' t2' tsp' tpc' tref' tst' mv' m' h6 tk6 l hi hw hmv M6 F6 N6 H6 S6
    have S7 : ∀ p ∈ LedT w.params f { c with mv := mv', mn := (c.mn.set (c.sp - 2).toNat (c.pc % 256)).set (c.sp - 1).toNat (c.pc / 256 % 256), sp := c.sp - 2, tsp := tsp', pc := 56, tpc := tpc', ref := ref', tref := tref', i1 := 0, t1 := t1', i2 := 0, t2 := t2', halt := .bool false, st := st', tst := tst', a0 := if j = 0 then false else c.a0, s0 := if j = 0 then true else c.s0, a1 := if j = 1 then false else c.a1, s1 := if j = 1 then true else c.s1, a2 := if j = 2 then false else c.a2, s2 := if j = 2 then true else c.s2, a3 := if j = 3 then false else c.a3, s3 := if j = 3 then true else c.s3, pv := c.pv ++ [Value.ref D], pn := c.pn + 1, dl := c.dl ++ [(some j, c.pc)] } ++ R, p ∈ l := fun p hp => S6.mem p (Sel.mem (by tb_start) p hp)
    exact k { c with mv := mv', mn := (c.mn.set (c.sp - 2).toNat (c.pc % 256)).set (c.sp - 1).toNat (c.pc / 256 % 256), sp := c.sp - 2, tsp := tsp', pc := 56, tpc := tpc', ref := ref', tref := tref', i1 := 0, t1 := t1', i2 := 0, t2 := t2', halt := .bool false, st := st', tst := tst', a0 := if j = 0 then false else c.a0, s0 := if j = 0 then true else c.s0, a1 := if j = 1 then false else c.a1, s1 := if j = 1 then true else c.s1, a2 := if j = 2 then false else c.a2, s2 := if j = 2 then true else c.s2, a3 := if j = 3 then false else c.a3, s3 := if j = 3 then true else c.s3, pv := c.pv ++ [Value.ref D], pn := c.pn + 1, dl := c.dl ++ [(some j, c.pc)] } [_] _ h6 tk6 (inv_serve I hw hmv) rfl (PileIs.snoc (hp.mono fun _ h => .tail _ h) ⟨_, rfl⟩ (.head _)) (led_ne N6 S7 H6).1 (led_ne N6 S7 H6).2 (mm_fr F6 M6) (led_join N6 S7)
theorem act4 {pl' wl' : Nat} (C : Cx w lo mean mg mb dp un (lawScope w.params) outer A₀ base h₀ L (MW f kv m₀ u (.int v tv) nu (.int c.pc pl') (.int c.i1 wl')) s.heap 40)
    (N : News h₀ L s.heap (LedT w.params f c ++ R)) (hoff : OwnOff R (adrT f)) (ho : OrdT f) (I : InvT c) (hp : PileIs T c.pv c.dl) (hT : ∀ p ∈ T, p ∈ R) (hv : v = 4)
    (k : ActOk w h₀ L f kv m₀ R T c s Q) :
    wpAny (model prg w) (ktrTop dp un gd lawName (lawScope w.params) L a ccd [] outer) (exec (Stmt.If (lawFn w.params).t0 (lawFn w.params).x0 [.If (lawFn w.params).t1 (lawFn w.params).x1 [.If (lawFn w.params).t2 (lawFn w.params).blk (lawFn w.params).els (lawFn w.params).p2] (lawFn w.params).p1] (lawFn w.params).p0) (envOf lawName (lawScope w.params) L a ccd)) Q E s := by
  have hasc := ord_asc ho
  refine if_no (t0_no C N (by omega) fun h1 tk1 F1 N1 => ⟨rfl, execs_one (if_no (t1_no (C.at F1) N1 (by omega) fun h2 tk2 F2 N2 => ⟨rfl, execs_one (if_no (t2_no (C.at F2) N2 (by omega) (by omega) fun h3 tk3 F3 N3 => ⟨rfl, ?_⟩))⟩))⟩)
  rw [(elsFn w.params).ok]
  have hlen := inv_len I
  have hpl := hp.length
  have hs := I.sp
  refine execs_one (if_no (t3_no (C.at F3) N3 (by omega) fun h4 tk4 F4 N4 => ⟨rfl, ?_⟩))
  by_cases hl : c.pv.length < 8
  · refine execs_one (if_yes (t4_yes (C.at F4) N4 led_px hv hl fun h5 tk5 F5 N5 => ⟨rfl, ?_⟩))
    refine' x4_spec (sp := c.sp) (tsp := c.tsp) (pc := c.pc) (tpc := c.tpc) (ref := c.ref) (tref := c.tref) (i1 := c.i1) (t1 := c.t1) (i2 := c.i2) (t2 := c.t2) (halt := c.halt) (st := c.st) (tst := c.tst) (mv := c.mv) (pv := c.pv) (pn := c.pn) (mn := c.mn) (C.at F5) ?NA ?OA ?OB hasc I.mv I.ml (by omega) (by omega) (by omega) I.i1 ?KA
    case NA => exact News.sel N5 (by tb_start)
    case OA => exact (ownOff_cons (asc_off hasc 1 [4, 3, 2] rfl rfl) (ownOff_cons (asc_off hasc 0 [4, 3, 2] rfl rfl) (ownOff_cons (asc_off hasc 5 [4, 3, 2] rfl rfl) (ownOff_cons (asc_off hasc 7 [4, 3, 2] rfl rfl) (ownOff_cons (asc_off hasc 6 [4, 3, 2] rfl rfl) (ownOff_cons (asc_off hasc 9 [4, 3, 2] rfl rfl) (ownOff_cons (asc_off hasc 8 [4, 3, 2] rfl rfl) (ownOff_cons (asc_off hasc 11 [4, 3, 2] rfl rfl) (ownOff_cons (asc_off hasc 10 [4, 3, 2] rfl rfl) (ownOff_cons (asc_off hasc 13 [4, 3, 2] rfl rfl) (ownOff_cons (asc_off hasc 12 [4, 3, 2] rfl rfl) (ownOff_cons (asc_off hasc 19 [4, 3, 2] rfl rfl) (ownOff_cons (asc_off hasc 15 [4, 3, 2] rfl rfl) (ownOff_cons (asc_off hasc 16 [4, 3, 2] rfl rfl) (ownOff_cons (asc_off hasc 17 [4, 3, 2] rfl rfl) (ownOff_cons (asc_off hasc 18 [4, 3, 2] rfl rfl) (ownOff_sub hoff (sub_idx [12, 13, 14] rfl))))))))))))))))))
    case OB => exact (ownOff_cons (asc_off hasc 1 [4, 3, 2, 14] rfl rfl) (ownOff_cons (asc_off hasc 0 [4, 3, 2, 14] rfl rfl) (ownOff_cons (asc_off hasc 5 [4, 3, 2, 14] rfl rfl) (ownOff_cons (asc_off hasc 7 [4, 3, 2, 14] rfl rfl) (ownOff_cons (asc_off hasc 6 [4, 3, 2, 14] rfl rfl) (ownOff_cons (asc_off hasc 9 [4, 3, 2, 14] rfl rfl) (ownOff_cons (asc_off hasc 8 [4, 3, 2, 14] rfl rfl) (ownOff_cons (asc_off hasc 11 [4, 3, 2, 14] rfl rfl) (ownOff_cons (asc_off hasc 10 [4, 3, 2, 14] rfl rfl) (ownOff_cons (asc_off hasc 13 [4, 3, 2, 14] rfl rfl) (ownOff_cons (asc_off hasc 12 [4, 3, 2, 14] rfl rfl) (ownOff_cons (asc_off hasc 19 [4, 3, 2, 14] rfl rfl) (ownOff_cons (asc_off hasc 15 [4, 3, 2, 14] rfl rfl) (ownOff_cons (asc_off hasc 16 [4, 3, 2, 14] rfl rfl) (ownOff_cons (asc_off hasc 17 [4, 3, 2, 14] rfl rfl) (ownOff_cons (asc_off hasc 18 [4, 3, 2, 14] rfl rfl) (ownOff_sub hoff (sub_idx [12, 13, 14, 2] rfl))))))))))))))))))
    case KA =>
      intro st' ref' D t1' tsp' tpc' tref' tst' mv' h6 tk6 l hmv F6 N6 H6 S6
      have S7 : ∀ p ∈ LedT w.params f { c with mv := mv', mn := (c.mn.set (c.sp - 2).toNat (c.pc % 256)).set (c.sp - 1).toNat (c.pc / 256 % 256), sp := c.sp - 2, tsp := tsp', pc := 102, tpc := tpc', ref := ref', tref := tref', i1 := 0, t1 := t1', halt := .bool false, st := st', tst := tst', pv := c.pv ++ [Value.ref D], pn := c.pn + 1, dl := c.dl ++ [(none, c.pc)] } ++ R, p ∈ l := fun p hp => S6.mem p (Sel.mem (by tb_start) p hp)
      exact k { c with mv := mv', mn := (c.mn.set (c.sp - 2).toNat (c.pc % 256)).set (c.sp - 1).toNat (c.pc / 256 % 256), sp := c.sp - 2, tsp := tsp', pc := 102, tpc := tpc', ref := ref', tref := tref', i1 := 0, t1 := t1', halt := .bool false, st := st', tst := tst', pv := c.pv ++ [Value.ref D], pn := c.pn + 1, dl := c.dl ++ [(none, c.pc)] } [_] _ h6 tk6 (inv_nmi I (by omega) hmv) rfl (PileIs.snoc (hp.mono fun _ h => .tail _ h) rfl (.head _)) (led_ne N6 S7 H6).1 (led_ne N6 S7 H6).2 (mm_fr F6 mw_ok) (led_join N6 S7)
  · exact execs_one (if_no (t4_full (C.at F4) N4 led_px hv hl (by omega) fun h5 tk5 F5 N5 => ⟨rfl, execs_one (if_no (t5_no (C.at F5) N5 (by omega) fun h6 tk6 F6 N6 => ⟨rfl, wpAny_execs_nil (act_skip F6 N6 I hp k)⟩))⟩))
theorem act5 (C : Cx w lo mean mg mb dp un (lawScope w.params) outer A₀ base h₀ L (MW f kv m₀ u (.int v tv) nu pl wl) s.heap 40)
    (N : News h₀ L s.heap (LedT w.params f c ++ R)) (hoff : OwnOff R (adrT f)) (ho : OrdT f) (I : InvT c) (hp : PileIs T c.pv c.dl) (hT : ∀ p ∈ T, p ∈ R) (hv : v = 5)
    (k : ActOk w h₀ L f kv m₀ R T c s Q) :
    wpAny (model prg w) (ktrTop dp un gd lawName (lawScope w.params) L a ccd [] outer) (exec (Stmt.If (lawFn w.params).t0 (lawFn w.params).x0 [.If (lawFn w.params).t1 (lawFn w.params).x1 [.If (lawFn w.params).t2 (lawFn w.params).blk (lawFn w.params).els (lawFn w.params).p2] (lawFn w.params).p1] (lawFn w.params).p0) (envOf lawName (lawScope w.params) L a ccd)) Q E s := by
  have hasc := ord_asc ho
  refine if_no (t0_no C N (by omega) fun h1 tk1 F1 N1 => ⟨rfl, execs_one (if_no (t1_no (C.at F1) N1 (by omega) fun h2 tk2 F2 N2 => ⟨rfl, execs_one (if_no (t2_no (C.at F2) N2 (by omega) (by omega) fun h3 tk3 F3 N3 => ⟨rfl, ?_⟩))⟩))⟩)
  rw [(elsFn w.params).ok]
  have hpR : ∀ p ∈ T, p ∈ LedT w.params f c ++ R := fun p h => List.mem_append_right _ (hT p h)
  have hlen := inv_len I
  have hpl := hp.length
  refine execs_one (if_no (t3_no (C.at F3) N3 (by omega) fun h4 tk4 F4 N4 => ⟨rfl, execs_one (if_no (t4_no (C.at F4) N4 (by omega) fun h5 tk5 F5 N5 => ⟨rfl, ?_⟩))⟩))
  rcases hp.last with ⟨_, e⟩ | ⟨t, nv, o, q, tp, vs', ds', epv, edl, eo, ht, hp'⟩
  · exact execs_one (if_no (t5_nil (C.at F5) N5 led_px hp hpR hv e fun h6 tk6 F6 N6 => ⟨rfl, wpAny_execs_nil (act_skip F6 N6 I hp k)⟩))
  · cases o with
    | some j => exact execs_one (if_no (t5_some (C.at F5) N5 led_px hp hpR hv edl fun h6 tk6 F6 N6 => ⟨rfl, wpAny_execs_nil (act_skip F6 N6 I hp k)⟩))
    | none =>
      obtain ⟨g1, g2, g3, g4, g5, g6, g7, g8⟩ := inv_pop I edl
      obtain rfl : nv = Value.none := eo
      have htR := hT _ ht
      rw [epv, List.length_append, List.length_singleton] at hpl
      refine execs_one (if_yes (t5_yes (C.at F5) N5 led_px hp hpR hv edl fun h6 tk6 F6 N6 => ⟨rfl, ?_⟩))
      have N7 := N6
      dsimp only [LedT] at N7
      rw [epv] at N7
      refine' x5_spec (sp := c.sp) (tsp := c.tsp) (pc := c.pc) (tpc := c.tpc) (ref := c.ref) (tref := c.tref) (i1 := c.i1) (t1 := c.t1) (i2 := c.i2) (t2 := c.t2) (halt := c.halt) (st := c.st) (tst := c.tst) (mv := c.mv) (pn := c.pn) (mn := c.mn) (pv := vs') (t := t) (C.at F6) ?NA ?TA ?OB ho hasc I.mv I.ml I.mb g2 g3 (by omega) g1 ?KA
      case NA => exact News.sel N7 (by tb_start)
      case TA => exact (by repeat' (first | (with_reducible assumption) | refine List.mem_cons_of_mem _ ?_))
      case OB => exact (ownOff_cons (asc_off hasc 1 [4, 3, 2, 14] rfl rfl) (ownOff_cons (asc_off hasc 0 [4, 3, 2, 14] rfl rfl) (ownOff_cons (asc_off hasc 5 [4, 3, 2, 14] rfl rfl) (ownOff_cons (asc_off hasc 7 [4, 3, 2, 14] rfl rfl) (ownOff_cons (asc_off hasc 6 [4, 3, 2, 14] rfl rfl) (ownOff_cons (asc_off hasc 9 [4, 3, 2, 14] rfl rfl) (ownOff_cons (asc_off hasc 8 [4, 3, 2, 14] rfl rfl) (ownOff_cons (asc_off hasc 11 [4, 3, 2, 14] rfl rfl) (ownOff_cons (asc_off hasc 10 [4, 3, 2, 14] rfl rfl) (ownOff_cons (asc_off hasc 13 [4, 3, 2, 14] rfl rfl) (ownOff_cons (asc_off hasc 12 [4, 3, 2, 14] rfl rfl) (ownOff_cons (asc_off hasc 19 [4, 3, 2, 14] rfl rfl) (ownOff_cons (asc_off hasc 15 [4, 3, 2, 14] rfl rfl) (ownOff_cons (asc_off hasc 16 [4, 3, 2, 14] rfl rfl) (ownOff_cons (asc_off hasc 17 [4, 3, 2, 14] rfl rfl) (ownOff_cons (asc_off hasc 18 [4, 3, 2, 14] rfl rfl) (ownOff_sub hoff (sub_idx [12, 13, 14, 2] rfl))))))))))))))))))
      case KA => exact fun tsp' tpc' m' h8 tk8 M8 F8 N8 => k { c with sp := c.sp + 2, tsp := tsp', pc := q, tpc := tpc', i1 := c.i2, t1 := c.t2, pv := vs', pn := c.pn + 1, dl := ds' } [] _ h8 tk8 (inv_retn I edl) rfl hp' (fun _ h => nomatch h) (fun _ h => nomatch h) (mm_fr F8 M8) (News.sel N8 (by tb_start))
theorem act3 (C : Cx w lo mean mg mb dp un (lawScope w.params) outer A₀ base h₀ L (MW f kv m₀ u (.int v tv) nu pl wl) s.heap 40)
    (N : News h₀ L s.heap (LedT w.params f c ++ R)) (hoff : OwnOff R (adrT f)) (ho : OrdT f) (I : InvT c) (hp : PileIs T c.pv c.dl) (hT : ∀ p ∈ T, p ∈ R) (hv : v = 3) {j q : Int} {dl' : List (Option Int × Int)} (edl : c.dl = dl' ++ [(some j, q)])
    (k : ActOk w h₀ L f kv m₀ R T c s Q) :
    wpAny (model prg w) (ktrTop dp un gd lawName (lawScope w.params) L a ccd [] outer) (exec (Stmt.If (lawFn w.params).t0 (lawFn w.params).x0 [.If (lawFn w.params).t1 (lawFn w.params).x1 [.If (lawFn w.params).t2 (lawFn w.params).blk (lawFn w.params).els (lawFn w.params).p2] (lawFn w.params).p1] (lawFn w.params).p0) (envOf lawName (lawScope w.params) L a ccd)) Q E s := by
  have hasc := ord_asc ho
  have hpR : ∀ p ∈ T, p ∈ LedT w.params f c ++ R := fun p h => List.mem_append_right _ (hT p h)
  refine if_no (t0_no C N (by omega) fun h1 tk1 F1 N1 => ⟨rfl, execs_one (if_no (t1_no (C.at F1) N1 (by omega) fun h2 tk2 F2 N2 => ⟨rfl, execs_one (if_no (t2_false (C.at F2) N2 led_px hp hpR hv edl fun h3 tk3 F3 N3 => ⟨rfl, ?_⟩))⟩))⟩)
  rw [(elsFn w.params).ok]
  have hlen := inv_len I
  have hpl := hp.length
  refine execs_one (if_yes (t3_yes (C.at F3) N3 hv fun h4 tk4 F4 N4 => ⟨rfl, ?_⟩))
  rw [(x3Fn w.params).ok]
  rcases hp.last with ⟨_, e⟩ | ⟨t, nv, o, q', tp, vs', ds', epv, edl', eo, ht, hp'⟩
  · rw [e] at edl; simp at edl
  obtain ⟨rfl, e2⟩ := List.append_inj' (edl'.symm.trans edl) rfl
  obtain ⟨rfl, rfl⟩ : o = some j ∧ q' = q := by simpa using e2
  obtain ⟨tj, rfl⟩ := eo
  obtain ⟨g1, g2, g3, g4, g5, g6, g7, g8⟩ := inv_pop I edl
  have htR := hT _ ht
  rw [epv, List.length_append, List.length_singleton] at hpl
  have hfs : firstS c.s0 c.s1 c.s2 c.s3 = some j := (inv_reti (tsp' := 0) (tpc' := 0) (t1' := 0) (pn' := 0) (w0 := 0) (w1 := 0) (w2 := 0) (w3 := 0) (pv' := []) I edl).1
  have hj : j = 0 ∨ j = 1 ∨ j = 2 ∨ j = 3 := (inv_reti (tsp' := 0) (tpc' := 0) (t1' := 0) (pn' := 0) (w0 := 0) (w1 := 0) (w2 := 0) (w3 := 0) (pv' := []) I edl).2.1
  have N7 := N4
  dsimp only [LedT] at N7
  rw [epv] at N7
  refine' x3a_spec (sp := c.sp) (tsp := c.tsp) (pc := c.pc) (tpc := c.tpc) (ref := c.ref) (tref := c.tref) (i1 := c.i1) (t1 := c.t1) (i2 := c.i2) (t2 := c.t2) (halt := c.halt) (st := c.st) (tst := c.tst) (mv := c.mv) (pn := c.pn) (a0 := c.a0) (s0 := c.s0) (a1 := c.a1) (s1 := c.s1) (a2 := c.a2) (s2 := c.s2) (a3 := c.a3) (s3 := c.s3) (mn := c.mn) (pv := vs') (t := t) (C.at F4) ?NA ?TA ?OA hfs ?OB ho hasc I.mv I.ml I.mb g2 g3 (by omega) g1 ?KA
  case NA => exact News.sel N7 (by tb_start)
  case TA => exact (by repeat' (first | (with_reducible assumption) | refine List.mem_cons_of_mem _ ?_))
  case OA => exact (ownOff_cons (asc_off hasc 1 [5, 7, 6, 9, 8, 11, 10, 13, 12] rfl rfl) (ownOff_cons (asc_off hasc 0 [5, 7, 6, 9, 8, 11, 10, 13, 12] rfl rfl) (ownOff_cons (asc_off hasc 19 [5, 7, 6, 9, 8, 11, 10, 13, 12] rfl rfl) (ownOff_cons (asc_off hasc 15 [5, 7, 6, 9, 8, 11, 10, 13, 12] rfl rfl) (ownOff_cons (asc_off hasc 16 [5, 7, 6, 9, 8, 11, 10, 13, 12] rfl rfl) (ownOff_cons (asc_off hasc 17 [5, 7, 6, 9, 8, 11, 10, 13, 12] rfl rfl) (ownOff_cons (asc_off hasc 18 [5, 7, 6, 9, 8, 11, 10, 13, 12] rfl rfl) (ownOff_sub hoff (sub_idx [3, 4, 5, 6, 7, 8, 9, 10, 11] rfl)))))))))
  case OB => exact (ownOff_cons (asc_off hasc 1 [4, 3, 2, 14] rfl rfl) (ownOff_cons (asc_off hasc 0 [4, 3, 2, 14] rfl rfl) (ownOff_cons (asc_off hasc 19 [4, 3, 2, 14] rfl rfl) (ownOff_cons (asc_off hasc 15 [4, 3, 2, 14] rfl rfl) (ownOff_cons (asc_off hasc 16 [4, 3, 2, 14] rfl rfl) (ownOff_cons (asc_off hasc 17 [4, 3, 2, 14] rfl rfl) (ownOff_cons (asc_off hasc 18 [4, 3, 2, 14] rfl rfl) (ownOff_sub hoff (sub_idx [12, 13, 14, 2] rfl)))))))))
  case KA =>
    intro tsp' tpc' h8 tk8 F8 N8
    simp only [hfs] at N8
    have hm : MmOk f kv m₀ (fun z => if z = Str.ofString "top" then some (.int j tj) else MW f kv m₀ u (.int v tv) nu pl wl z) := mm_step (by decide) mw_ok
    rcases hj with rfl | rfl | rfl | rfl
    · refine execs_one ?_
      refine' x3b_spec (qs := [Value.ref f.c0, Value.ref f.c1, Value.ref f.c2, Value.ref f.c3]) (c := f.c0) (e := c.e0) (ff := c.f0) (uu := c.u0) (vv := c.v0) (cn := f.n0) (C.at F8) ?NA ?OA (by decide) (by decide) rfl (asc_ne hasc 15 19 rfl rfl (by decide)) ?KA
      case NA => exact News.sel N8 (by tb_start)
      case OA => exact (ownOff_cons (asc_off hasc 5 [19, 15] rfl rfl) (ownOff_cons (asc_off hasc 7 [19, 15] rfl rfl) (ownOff_cons (asc_off hasc 6 [19, 15] rfl rfl) (ownOff_cons (asc_off hasc 9 [19, 15] rfl rfl) (ownOff_cons (asc_off hasc 8 [19, 15] rfl rfl) (ownOff_cons (asc_off hasc 11 [19, 15] rfl rfl) (ownOff_cons (asc_off hasc 10 [19, 15] rfl rfl) (ownOff_cons (asc_off hasc 13 [19, 15] rfl rfl) (ownOff_cons (asc_off hasc 12 [19, 15] rfl rfl) (ownOff_cons (asc_off hasc 4 [19, 15] rfl rfl) (ownOff_cons (asc_off hasc 3 [19, 15] rfl rfl) (ownOff_cons (asc_off hasc 2 [19, 15] rfl rfl) (ownOff_cons (asc_off hasc 14 [19, 15] rfl rfl) (ownOff_cons (asc_off hasc 1 [19, 15] rfl rfl) (ownOff_cons (asc_off hasc 0 [19, 15] rfl rfl) (ownOff_cons (asc_off hasc 16 [19, 15] rfl rfl) (ownOff_cons (asc_off hasc 17 [19, 15] rfl rfl) (ownOff_cons (asc_off hasc 18 [19, 15] rfl rfl) (ownOff_sub hoff (sub_idx [15, 16] rfl))))))))))))))))))))
      case KA => exact fun vv' h9 tk9 F9 N9 => k { c with sp := c.sp + 2, tsp := tsp', pc := q', tpc := tpc', i1 := c.i2, t1 := c.t2, pv := vs', pn := c.pn + 1, dl := ds', s0 := false, f0 := c.f0 + 1, v0 := vv' } [] _ h9 tk9 (inv_reti (w0 := vv') (w1 := vv') (w2 := vv') (w3 := vv') I edl).2.2 rfl hp' (fun _ h => nomatch h) (fun _ h => nomatch h) (mm_fr F9 hm) (News.sel N9 (by tb_start))
    · refine execs_one ?_
      refine' x3b_spec (qs := [Value.ref f.c0, Value.ref f.c1, Value.ref f.c2, Value.ref f.c3]) (c := f.c1) (e := c.e1) (ff := c.f1) (uu := c.u1) (vv := c.v1) (cn := f.n1) (C.at F8) ?NA ?OA (by decide) (by decide) rfl (asc_ne hasc 16 19 rfl rfl (by decide)) ?KA
      case NA => exact News.sel N8 (by tb_start)
      case OA => exact (ownOff_cons (asc_off hasc 5 [19, 16] rfl rfl) (ownOff_cons (asc_off hasc 7 [19, 16] rfl rfl) (ownOff_cons (asc_off hasc 6 [19, 16] rfl rfl) (ownOff_cons (asc_off hasc 9 [19, 16] rfl rfl) (ownOff_cons (asc_off hasc 8 [19, 16] rfl rfl) (ownOff_cons (asc_off hasc 11 [19, 16] rfl rfl) (ownOff_cons (asc_off hasc 10 [19, 16] rfl rfl) (ownOff_cons (asc_off hasc 13 [19, 16] rfl rfl) (ownOff_cons (asc_off hasc 12 [19, 16] rfl rfl) (ownOff_cons (asc_off hasc 4 [19, 16] rfl rfl) (ownOff_cons (asc_off hasc 3 [19, 16] rfl rfl) (ownOff_cons (asc_off hasc 2 [19, 16] rfl rfl) (ownOff_cons (asc_off hasc 14 [19, 16] rfl rfl) (ownOff_cons (asc_off hasc 1 [19, 16] rfl rfl) (ownOff_cons (asc_off hasc 0 [19, 16] rfl rfl) (ownOff_cons (asc_off hasc 15 [19, 16] rfl rfl) (ownOff_cons (asc_off hasc 17 [19, 16] rfl rfl) (ownOff_cons (asc_off hasc 18 [19, 16] rfl rfl) (ownOff_sub hoff (sub_idx [15, 17] rfl))))))))))))))))))))
      case KA => exact fun vv' h9 tk9 F9 N9 => k { c with sp := c.sp + 2, tsp := tsp', pc := q', tpc := tpc', i1 := c.i2, t1 := c.t2, pv := vs', pn := c.pn + 1, dl := ds', s1 := false, f1 := c.f1 + 1, v1 := vv' } [] _ h9 tk9 (inv_reti (w0 := vv') (w1 := vv') (w2 := vv') (w3 := vv') I edl).2.2 rfl hp' (fun _ h => nomatch h) (fun _ h => nomatch h) (mm_fr F9 hm) (News.sel N9 (by tb_start))
    · refine execs_one ?_
      refine' x3b_spec (qs := [Value.ref f.c0, Value.ref f.c1, Value.ref f.c2, Value.ref f.c3]) (c := f.c2) (e := c.e2) (ff := c.f2) (uu := c.u2) (vv := c.v2) (cn := f.n2) (C.at F8) ?NA ?OA (by decide) (by decide) rfl (asc_ne hasc 17 19 rfl rfl (by decide)) ?KA
      case NA => exact News.sel N8 (by tb_start)
      case OA => exact (ownOff_cons (asc_off hasc 5 [19, 17] rfl rfl) (ownOff_cons (asc_off hasc 7 [19, 17] rfl rfl) (ownOff_cons (asc_off hasc 6 [19, 17] rfl rfl) (ownOff_cons (asc_off hasc 9 [19, 17] rfl rfl) (ownOff_cons (asc_off hasc 8 [19, 17] rfl rfl) (ownOff_cons (asc_off hasc 11 [19, 17] rfl rfl) (ownOff_cons (asc_off hasc 10 [19, 17] rfl rfl) (ownOff_cons (asc_off hasc 13 [19, 17] rfl rfl) (ownOff_cons (asc_off hasc 12 [19, 17] rfl rfl) (ownOff_cons (asc_off hasc 4 [19, 17] rfl rfl) (ownOff_cons (asc_off hasc 3 [19, 17] rfl rfl) (ownOff_cons (asc_off hasc 2 [19, 17] rfl rfl) (ownOff_cons (asc_off hasc 14 [19, 17] rfl rfl) (ownOff_cons (asc_off hasc 1 [19, 17] rfl rfl) (ownOff_cons (asc_off hasc 0 [19, 17] rfl rfl) (ownOff_cons (asc_off hasc 15 [19, 17] rfl rfl) (ownOff_cons (asc_off hasc 16 [19, 17] rfl rfl) (ownOff_cons (asc_off hasc 18 [19, 17] rfl rfl) (ownOff_sub hoff (sub_idx [15, 18] rfl))))))))))))))))))))
      case KA => exact fun vv' h9 tk9 F9 N9 => k { c with sp := c.sp + 2, tsp := tsp', pc := q', tpc := tpc', i1 := c.i2, t1 := c.t2, pv := vs', pn := c.pn + 1, dl := ds', s2 := false, f2 := c.f2 + 1, v2 := vv' } [] _ h9 tk9 (inv_reti (w0 := vv') (w1 := vv') (w2 := vv') (w3 := vv') I edl).2.2 rfl hp' (fun _ h => nomatch h) (fun _ h => nomatch h) (mm_fr F9 hm) (News.sel N9 (by tb_start))
    · refine execs_one ?_
      refine' x3b_spec (qs := [Value.ref f.c0, Value.ref f.c1, Value.ref f.c2, Value.ref f.c3]) (c := f.c3) (e := c.e3) (ff := c.f3) (uu := c.u3) (vv := c.v3) (cn := f.n3) (C.at F8) ?NA ?OA (by decide) (by decide) rfl (asc_ne hasc 18 19 rfl rfl (by decide)) ?KA
      case NA => exact News.sel N8 (by tb_start)
      case OA => exact (ownOff_cons (asc_off hasc 5 [19, 18] rfl rfl) (ownOff_cons (asc_off hasc 7 [19, 18] rfl rfl) (ownOff_cons (asc_off hasc 6 [19, 18] rfl rfl) (ownOff_cons (asc_off hasc 9 [19, 18] rfl rfl) (ownOff_cons (asc_off hasc 8 [19, 18] rfl rfl) (ownOff_cons (asc_off hasc 11 [19, 18] rfl rfl) (ownOff_cons (asc_off hasc 10 [19, 18] rfl rfl) (ownOff_cons (asc_off hasc 13 [19, 18] rfl rfl) (ownOff_cons (asc_off hasc 12 [19, 18] rfl rfl) (ownOff_cons (asc_off hasc 4 [19, 18] rfl rfl) (ownOff_cons (asc_off hasc 3 [19, 18] rfl rfl) (ownOff_cons (asc_off hasc 2 [19, 18] rfl rfl) (ownOff_cons (asc_off hasc 14 [19, 18] rfl rfl) (ownOff_cons (asc_off hasc 1 [19, 18] rfl rfl) (ownOff_cons (asc_off hasc 0 [19, 18] rfl rfl) (ownOff_cons (asc_off hasc 15 [19, 18] rfl rfl) (ownOff_cons (asc_off hasc 16 [19, 18] rfl rfl) (ownOff_cons (asc_off hasc 17 [19, 18] rfl rfl) (ownOff_sub hoff (sub_idx [15, 19] rfl))))))))))))))))))))
      case KA => exact fun vv' h9 tk9 F9 N9 => k { c with sp := c.sp + 2, tsp := tsp', pc := q', tpc := tpc', i1 := c.i2, t1 := c.t2, pv := vs', pn := c.pn + 1, dl := ds', s3 := false, f3 := c.f3 + 1, v3 := vv' } [] _ h9 tk9 (inv_reti (w0 := vv') (w1 := vv') (w2 := vv') (w3 := vv') I edl).2.2 rfl hp' (fun _ h => nomatch h) (fun _ h => nomatch h) (mm_fr F9 hm) (News.sel N9 (by tb_start))
end
end
section
open PySem PySem.W PyProof.Rows
theorem off22 : True := by (w_top off; trivial)
section
variable {w : World} {lo : List Str} {mean : ExcName → Option Value} {mg mb : Str → Option Value} {dp un : Nat} {gd : Option (List Code)} {L a : Addr} {ccd : Value} {outer : List Env}
    {A₀ : Around} {base h₀ : Heap} {s : Shared} {E : Value → Shared → Prop} {f : TF} {kv : Value} {m₀ u : Str → Option Value} {R T : List (Addr × Obj)} {c : TS} {Q : Flow → Shared → Prop} {cns : List Int}
theorem turn_body (C : Cx w lo mean mg mb dp un (lawScope w.params) outer A₀ base h₀ L (MM f kv m₀ u) s.heap 40)
    (N : News h₀ L s.heap (LedT w.params f c ++ R)) (hoff : OwnOff R (adrT f)) (ho : OrdT f) (I : InvT c) (hp : PileIs T c.pv c.dl) (hT : ∀ p ∈ T, p ∈ R) (hcv : IntsAre f.cv cns) (hcl : cns.length ≤ 40) (ht0 : 0 ≤ c.t) (ht1 : c.t ≤ 500)
    (k : ∀ (c' : TS) (add : List (Addr × Obj)) (u' : Str → Option Value) (h' : Heap) (tk' : Nat), InvT c' → c'.t = c.t + 1 + 1 → PileIs (add ++ T) c'.pv c'.dl → (∀ q ∈ add, ∀ b ∈ adrT f, b < q.1) → (∀ q ∈ add, ∀ p ∈ R, p.1 ≠ q.1) → Fr h₀ L h' (MM f kv m₀ u') → News h₀ L h' (LedT w.params f c' ++ (add ++ R)) → Q .next { s with heap := h', toks := tk' }) :
    wpAny (model prg w) (ktrTop dp un gd lawName (lawScope w.params) L a ccd [] outer)
      (execs ((lawFn w.params).b0 :: (lawFn w.params).b1 :: (lawFn w.params).b2 :: Stmt.If (lawFn w.params).t0 (lawFn w.params).x0 [.If (lawFn w.params).t1 (lawFn w.params).x1 [.If (lawFn w.params).t2 (lawFn w.params).blk (lawFn w.params).els (lawFn w.params).p2] (lawFn w.params).p1] (lawFn w.params).p0 :: (lawFn w.params).b4 :: []) (envOf lawName (lawScope w.params) L a ccd)) Q E s := by
  have hasc := ord_asc ho
  refine' pre_spec (sp := c.sp) (tsp := c.tsp) (pc := c.pc) (tpc := c.tpc) (ref := c.ref) (tref := c.tref) (i1 := c.i1) (t1 := c.t1) (i2 := c.i2) (t2 := c.t2) (halt := c.halt) (st := c.st) (tst := c.tst) (mv := c.mv) (t := c.t) (tt := c.tt) C ?NA ?OA ?OB ho hasc hcv hcl ht0 ht1 ?KA
  case NA => exact News.sel N (by tb_start)
  case OA => exact (ownOff_cons (asc_off hasc 14 [1, 0] rfl rfl) (ownOff_cons (asc_off hasc 5 [1, 0] rfl rfl) (ownOff_cons (asc_off hasc 7 [1, 0] rfl rfl) (ownOff_cons (asc_off hasc 6 [1, 0] rfl rfl) (ownOff_cons (asc_off hasc 9 [1, 0] rfl rfl) (ownOff_cons (asc_off hasc 8 [1, 0] rfl rfl) (ownOff_cons (asc_off hasc 11 [1, 0] rfl rfl) (ownOff_cons (asc_off hasc 10 [1, 0] rfl rfl) (ownOff_cons (asc_off hasc 13 [1, 0] rfl rfl) (ownOff_cons (asc_off hasc 12 [1, 0] rfl rfl) (ownOff_cons (asc_off hasc 19 [1, 0] rfl rfl) (ownOff_cons (asc_off hasc 15 [1, 0] rfl rfl) (ownOff_cons (asc_off hasc 16 [1, 0] rfl rfl) (ownOff_cons (asc_off hasc 17 [1, 0] rfl rfl) (ownOff_cons (asc_off hasc 18 [1, 0] rfl rfl) (ownOff_sub hoff (sub_idx [0, 1] rfl)))))))))))))))))
  case OB => exact (ownOff_cons (asc_off hasc 14 [3] rfl rfl) (ownOff_cons (asc_off hasc 5 [3] rfl rfl) (ownOff_cons (asc_off hasc 7 [3] rfl rfl) (ownOff_cons (asc_off hasc 6 [3] rfl rfl) (ownOff_cons (asc_off hasc 9 [3] rfl rfl) (ownOff_cons (asc_off hasc 8 [3] rfl rfl) (ownOff_cons (asc_off hasc 11 [3] rfl rfl) (ownOff_cons (asc_off hasc 10 [3] rfl rfl) (ownOff_cons (asc_off hasc 13 [3] rfl rfl) (ownOff_cons (asc_off hasc 12 [3] rfl rfl) (ownOff_cons (asc_off hasc 19 [3] rfl rfl) (ownOff_cons (asc_off hasc 15 [3] rfl rfl) (ownOff_cons (asc_off hasc 16 [3] rfl rfl) (ownOff_cons (asc_off hasc 17 [3] rfl rfl) (ownOff_cons (asc_off hasc 18 [3] rfl rfl) (ownOff_sub hoff (sub_idx [13] rfl)))))))))))))))))
  case KA =>
    intro fo nu tfo tnu tt' tpc' tpl twl h1 tk1 f0 f6 n0 n4 F1 N1
    have N2 : News h₀ L h1 (LedT w.params f { c with t := c.t + 1 + 1, tt := tt', pc := Builtin.bitAnd (c.pc + 1) 65535, tpc := tpc' } ++ R) := News.sel N1 (by tb_start)
    have I2 := inv_pc I (t' := c.t + 1 + 1) (tt' := tt') (tpc' := tpc')
    refine wpAny_execs_cons ?_
    have key : ActOk w h₀ L f kv m₀ R T { c with t := c.t + 1 + 1, tt := tt', pc := Builtin.bitAnd (c.pc + 1) 65535, tpc := tpc' } { s with heap := h1, toks := tk1 } (fun fl s' => match fl with | .next => wpAny (model prg w) (ktrTop dp un gd lawName (lawScope w.params) L a ccd [] outer) (execs [(lawFn w.params).b4] (envOf lawName (lawScope w.params) L a ccd)) Q E s' | fl => Q fl s') := by
      intro c' add u' h2 tk2 I' e' p' g1 g2 F3 N3
      refine execs_one (post_spec (C.at F3) N3 ?_ hasc ho I' (p'.mono fun p hp => ?_) fun h4 tk4 F4 N4 => k c' add u' h4 tk4 I' e' p' g1 g2 F4 N4)
      · exact ownOff_append (fun q hq b hb => Nat.ne_of_gt (g1 q hq b (by rw [List.mem_singleton.mp hb]; exact .tail _ (.tail _ (.head _))))) (ownOff_sub hoff (by simp))
      · exact (List.mem_append.mp hp).elim (fun h => List.mem_append_left _ h) fun h => List.mem_append_right _ (hT p h)
    have hf : fo = 0 ∨ fo = 1 ∨ fo = 2 ∨ fo = 3 ∨ fo = 4 ∨ fo = 5 := by omega
    have C1 := C.at F1
    rcases hf with hf | hf | hf | hf | hf | hf
    · exact act0 C1 N2 hoff ho I2 hp hT hf n0 n4 key
    · exact act1 C1 N2 hoff ho I2 hp hT hf key
    · exact act2 C1 N2 hoff ho I2 hp hT (.inl hf) key
    · rcases hp.last with ⟨_, e⟩ | ⟨t, nv, o, q, tp, vs', ds', epv, edl, eo, ht, hp'⟩
      · exact act2 C1 N2 hoff ho I2 hp hT (.inr ⟨hf, .inl e⟩) key
      · cases o with
        | none => exact act2 C1 N2 hoff ho I2 hp hT (.inr ⟨hf, .inr ⟨_, _, edl⟩⟩) key
        | some j => exact act3 C1 N2 hoff ho I2 hp hT hf edl key
    · exact act4 C1 N2 hoff ho I2 hp hT hf key
    · exact act5 C1 N2 hoff ho I2 hp hT hf key
end
end
section
open PySem PySem.W PyProof.Rows
theorem off23 : True := by (w_top off; trivial)
def bodyFn (P : Params) : List Stmt := (lawFn P).b0 :: (lawFn P).b1 :: (lawFn P).b2 :: Stmt.If (lawFn P).t0 (lawFn P).x0 [.If (lawFn P).t1 (lawFn P).x1 [.If (lawFn P).t2 (lawFn P).blk (lawFn P).els (lawFn P).p2] (lawFn P).p1] (lawFn P).p0 :: (lawFn P).b4 :: []
section
variable {w : World} {lo : List Str} {mean : ExcName → Option Value} {mg mb : Str → Option Value} {dp un : Nat} {gd : Option (List Code)} {L a : Addr} {ccd : Value} {outer : List Env}
    {A₀ : Around} {base h₀ : Heap} {s : Shared} {E : Value → Shared → Prop} {f : TF} {m₀ : Str → Option Value} {c₀ : TS} {Q : Flow → Shared → Prop} {cns : List Int} {news : List (Addr × Obj)}
theorem mm_ps {f : TF} {kv : Value} {m₀ u : Str → Option Value} : ∀ p ∈ psT f, MM f kv m₀ u p.1 = some p.2 := by
  intro p hp
  simp only [psT, List.mem_cons, List.not_mem_nil, or_false] at hp
  rcases hp with rfl | rfl | rfl | rfl | rfl | rfl <;> rfl
theorem mm_off {f : TF} {kv : Value} {m₀ u : Str → Option Value} {z : Str} (h1 : z ≠ Str.ofString "turn") (h2 : ∀ p ∈ psT f, z ≠ p.1) (h3 : storedT.contains z = false) : MM f kv m₀ u z = m₀ z := by
  have e1 := h2 _ (.head _)
  have e2 := h2 _ (.tail _ (.head _))
  have e3 := h2 _ (.tail _ (.tail _ (.head _)))
  have e4 := h2 _ (.tail _ (.tail _ (.tail _ (.head _))))
  have e5 := h2 _ (.tail _ (.tail _ (.tail _ (.tail _ (.head _)))))
  have e6 := h2 _ (.tail _ (.tail _ (.tail _ (.tail _ (.tail _ (.head _))))))
  dsimp only at e1 e2 e3 e4 e5 e6
  delta MM psT
  dsimp only [kstB]
  rw [if_neg h1, if_neg e1, if_neg e2, if_neg e3, if_neg e4, if_neg e5, if_neg e6, h3]
  rfl
theorem law_loop {r : Addr} {many : Int} {t₀ u₀ v₀ : Tok} (C : Cx w lo mean mg mb dp un (lawScope w.params) outer A₀ base h₀ L m₀ s.heap 40) (hr : IsRange s.heap r 0 many 1 t₀ u₀ v₀) (h0 : 0 ≤ many) (h25 : many < 25)
    (N : News h₀ L s.heap news) (hn : ∀ p ∈ LedT w.params f c₀, p ∈ news) (hk : ∀ p ∈ psT f, m₀ p.1 = some p.2) (ho : OrdT f) (I : InvT c₀) (ht : c₀.t = 3) (hpv : c₀.pv = []) (hdl : c₀.dl = []) (hcv : IntsAre f.cv cns) (hcl : cns.length ≤ 40)
    (done : ∀ (m' : Str → Option Value) (c : TS) (tl : List (Addr × Obj)) (h' : Heap) (tk' : Nat), Fr h₀ L h' m' → News h₀ L h' (LedT w.params f c ++ tl) → Q .next { s with heap := h', toks := tk' }) :
    wpAny (model prg w) (ktrTop dp un gd lawName (lawScope w.params) L a ccd [] outer) (pyIter (.ref r)) (fun it s₂ => LoopAtV prg w (ktrTop dp un gd lawName (lawScope w.params) L a ccd [] outer) h₀ (envOf lawName (lawScope w.params) L a ccd) (Str.ofString "turn") (bodyFn w.params) Q E it s₂) E s := by
  obtain ⟨n, rfl⟩ : ∃ n : Nat, many = (n : Int) := ⟨many.toNat, by omega⟩
  refine kd_range (LedT w.params f) [] (fun _ => psT f) (fun l c => PileIs l c.pv c.dl) storedT (fun pre c => InvT c ∧ c.t = 3 + 2 * (pre.length : Int)) (adrT f) c₀ rfl hr (small_one (by omega) (by omega) (by omega) (by omega)) (rangeSize_nat _ _) C.F N ?hn (fun c => led_adr _ f c) ?hf hk ⟨I, by simpa using ht⟩ ?turn ?done
  case hn => exact fun p hp => hn p (by simpa using hp)
  case hf => rw [hpv, hdl]; exact .nil
  case turn =>
    intro c tl pre k t u h tk own ek hlt sep hoff hf hP F1 N1
    obtain ⟨I1, et⟩ := hP
    refine turn_body (R := tl ++ own) (T := tl) (s := { s with heap := h, toks := tk }) (C.at F1) N1 hoff ho I1 hf (fun p hp => List.mem_append_left _ hp) hcv hcl (by omega) (by omega) fun c' add u' h' tk' I' e' p' g1 g2 F' N' => ?_
    refine kd_end (m' := MM f (.int k t) m₀ u') c' add sep F' N' ?_ ?_ (led_adr _ f c') (fun q hq b hb => Nat.ne_of_lt (g1 q hq b hb)) (fun q hq p hp => g2 q hq p (List.mem_append_right _ hp)) mm_ps (fun z z1 z2 z3 => mm_off z1 z2 z3) p' ⟨I', by rw [e', et, List.length_append, List.length_singleton]; omega⟩
    · intro p hp
      simp only [List.mem_append, List.nil_append] at hp ⊢
      rcases hp with h | h | h <;> simp only [h, true_or, or_true]
    · intro p hp
      simp only [List.mem_append]
      exact .inr (.inr (.inr hp))
  case done =>
    intro c tl u h tk o1 f1 p1 F1 N1
    exact done _ c tl h tk F1 N1
end
end
section
open PySem PySem.W PyProof.Rows
theorem off24 : True := by (w_top off; trivial)
local macro_rules | `(tactic| walk_at "pad") => `(tactic| skip)
local macro_rules | `(tactic| walk_at "call ref") => `(tactic| ((with_reducible show wpAny _ _ (call (Value.ref 428) _) _ _ _); refine Mine.stop_here ?_))
theorem news_drop3 {h₀ h : Heap} {L : Addr} {x y z : Addr × Obj} {l : List (Addr × Obj)} (N : News h₀ L h (x :: y :: z :: l)) : News h₀ L h (x :: y :: l) := fun p hp => by
  rcases List.mem_cons.mp hp with e | e
  · exact N p (e ▸ .head _)
  · rcases List.mem_cons.mp e with e | e
    · exact N p (e ▸ .tail _ (.head _))
    · exact N p (.tail _ (.tail _ (.tail _ e)))
local macro_rules | `(tactic| walk_at "pyIter ref") => `(tactic| (refine stop_here ?_))
theorem mm_ps0 {f : TF} {many : Value} {u : Str → Option Value} : ∀ p ∈ psT f, (fun y => if y = Str.ofString "many" then some many else kstB u (psT f) y) p.1 = some p.2 := by
  intro p hp
  simp only [psT, List.mem_cons, List.not_mem_nil, or_false] at hp
  rcases hp with rfl | rfl | rfl | rfl | rfl | rfl <;> rfl
section
variable {w : World} {lo : List Str} {mean : ExcName → Option Value} {mg mb : Str → Option Value} {dp un : Nat} {gd : Option (List Code)} {L a : Addr} {ccd : Value} {outer : List Env}
    {A₀ : Around} {base h₀ : Heap} {s : Shared} {E : Value → Shared → Prop} {f : TF} {u : Str → Option Value} {rest : List (Addr × Obj)} {Q : Flow → Shared → Prop} {tl : List Stmt}
theorem start_spec {tsp tpc tref t1 t2 tst tt tm0 : Nat} {halt : Value} {mv : List Value} {cns : List Int}
    (C : Cx w lo mean mg mb dp un (lawScope w.params) outer A₀ base h₀ L (fun y => kstB u (psT f) y) s.heap 40)
    (N : News h₀ L s.heap ((feedL f.fx f.gx 0 tt f.cv f.cnn ++ cpuL w.params f.cx f.dx f.mx f.kt f.r f.ss f.ix f.iy (.int 0 tsp) (.int 0 tpc) f.i (.int 0 tref) (.int 0 t1) (.int 0 t2) (.int 0 tm0) halt (.bool false) (.int 0 tst) mv f.nn) ++ rest))
    (hoff : OwnOff rest [f.fx, f.gx]) (hoff3 : OwnOff rest [f.dx]) (hord : OrdT f) (hasc : Asc (srtT f)) (hcv : IntsAre f.cv cns) (hcl : cns.length ≤ 40)
    (k : ∀ (pc i1 many : Int) (tsp' tpc' t1' t2' tm' tmany tt' : Nat) (h' : Heap) (tk' : Nat), 0 ≤ pc → pc < 65536 → 0 ≤ i1 → i1 ≤ 1 → 0 ≤ many → many < 25 → Fr h₀ L h' (fun y => if y = Str.ofString "many" then some (.int many tmany) else kstB u (psT f) y) →
      News h₀ L h' ((feedL f.fx f.gx 3 tt' f.cv f.cnn ++ cpuL w.params f.cx f.dx f.mx f.kt f.r f.ss f.ix f.iy (.int 256 tsp') (.int pc tpc') f.i (.int 0 tref) (.int i1 t1') (.int i1 t2') (.int 1 tm') halt (.bool false) (.int 0 tst) mv f.nn) ++ rest) →
      wpAny (model prg w) (ktrTop dp un gd lawName (lawScope w.params) L a ccd [] outer) (execs tl (envOf lawName (lawScope w.params) L a ccd)) Q E { s with heap := h', toks := tk' }) :
    wpAny (model prg w) (ktrTop dp un gd lawName (lawScope w.params) L a ccd [] outer) (execs ((lawFn w.params).a2 :: (lawFn w.params).a3 :: tl) (envOf lawName (lawScope w.params) L a ccd)) Q E s := by
  dsimp only [lawScope, lawName, lawFn]
  obtain ⟨B, F, X, T, hk, hdp, hun⟩ := C
  delta psT at F
  dsimp only [kstB] at F
  have g1 : f.gx < f.fx := hord.h.1
  have n1 : f.dx ≠ f.fx := asc_ne hasc 3 1 rfl rfl (by decide)
  have n2 : f.dx ≠ f.gx := asc_ne hasc 3 0 rfl rfl (by decide)
  have n3 : f.dx ≠ f.cx := asc_ne hasc 3 4 rfl rfl (by decide)
  have n4 : f.dx ≠ f.mx := asc_ne hasc 3 2 rfl rfl (by decide)
  dsimp only [feedL, cpuL, List.cons_append, List.nil_append] at N
  repeat' (first | (k_unfold; (try dsimp only)) | (refine Mine.stop_go ?_; first | ((with_reducible show wpAny _ _ (call (Value.ref 428) _) _ _ _); k_dflt (refine' next_spec ?C ?N ?ho ?h1 ?h2 ?h3 ?h4 ?h5 ?h6 ?h7 ?_; (case C => exact ⟨by k_asm, by k_asm, by k_asm, by k_asm, by exact rfl, by k_room, by ktr_units⟩); (case N => (refine' News.sel ?hN ?hS; (case hN => k_asm); (case hS => tb_start))); (case ho => repeat' (first | (with_reducible assumption) | refine ownOff_cons (asc_off (by with_reducible assumption) 4 [1, 0] rfl rfl) ?_ | refine ownOff_cons (asc_off (by with_reducible assumption) 3 [1, 0] rfl rfl) ?_ | refine ownOff_cons (asc_off (by with_reducible assumption) 2 [1, 0] rfl rfl) ?_ | (with_reducible refine ownOff_cons ?_ ?_) | (with_reducible exact List.forall_mem_nil _) | (with_reducible refine List.forall_mem_cons.mpr ⟨?_, ?_⟩) | (refine neN ?_; dsimp only; omega))); (case h1 => with_reducible assumption); (case h2 => with_reducible assumption); (case h3 => with_reducible assumption); (case h4 => omega); (case h5 => omega); (case h6 => decide); (case h7 => decide); k_whole); intro v' tv' tt' h' tk' b1' b2' F' N'; dsimp only [feedL, List.cons_append, List.nil_append] at N'; k_sweep)) | (k_end; wrow_close) | (walk1; all_goals (try dsimp only); all_goals (try (with_reducible refine Mine.wp_tok ?_; intro _))) | (dsimp only; walk1) | (leave1; walk_say "STEP leave1"; try dsimp only))
  (rename News _ _ _ _ => lN'; rename Fr _ _ _ _ => lF')
  exact k _ _ _ _ _ _ _ _ _ _ _ _ (by omega) (by omega) (by assumption) (by omega) (by assumption) (by assumption) lF' (news_drop3 (News.tl1 lN'))
theorem law_rest {tsp tpc tref t1 t2 tst tt tm0 : Nat} {halt : Value} {mv : List Value} {cns : List Int} {pn u0 v0 u1 v1 u2 v2 u3 v3 : Nat}
    (C : Cx w lo mean mg mb dp un (lawScope w.params) outer A₀ base h₀ L (fun y => kstB u (psT f) y) s.heap 40)
    (N : News h₀ L s.heap ((feedL f.fx f.gx 0 tt f.cv f.cnn ++ ([(f.px, listOf ([] : List Value).toArray pn)] ++ (chainL w.params f.ch f.x0 f.d0 f.x1 f.d1 f.x2 f.d2 f.x3 f.d3 f.k0 f.k1 f.k2 f.k3 (.int f.z0 f.y0) (.int f.z1 f.y1) (.int f.z2 f.y2) (.int f.z3 f.y3) false false false false false false false false ++
      (cpuL w.params f.cx f.dx f.mx f.kt f.r f.ss f.ix f.iy (.int 0 tsp) (.int 0 tpc) f.i (.int 0 tref) (.int 0 t1) (.int 0 t2) (.int 0 tm0) halt (.bool false) (.int 0 tst) mv f.nn ++ cntL f.qx f.c0 f.c1 f.c2 f.c3 f.qn 0 0 0 0 0 0 0 0 u0 v0 f.n0 u1 v1 f.n1 u2 v2 f.n2 u3 v3 f.n3)))) ++ rest))
    (hoff : OwnOff rest (adrT f)) (hord : ∀ tm, OrdT { f with tm := tm }) (hcv : IntsAre f.cv cns) (hcl : cns.length ≤ 40) (hmv : IntsAre mv (List.replicate 256 0))
    (k : ∀ (m' : Str → Option Value) (h' : Heap) (tk' : Nat), Fr h₀ L h' m' → Q (.ret (.bool true)) { s with heap := h', toks := tk' }) (hE : PassesOwn (model prg w) (ktrTop dp un gd lawName (lawScope w.params) L a ccd [] outer) (envOf lawName (lawScope w.params) L a ccd) E) :
    wpAny (model prg w) (ktrTop dp un gd lawName (lawScope w.params) L a ccd [] outer) (execs ((lawFn w.params).a2 :: (lawFn w.params).a3 :: .For (lawFn w.params).tgt (lawFn w.params).iter (bodyFn w.params) [] (lawFn w.params).pf :: (lawFn w.params).a5 :: []) (envOf lawName (lawScope w.params) L a ccd)) Q E s := by
  have hord0 : OrdT f := hord f.tm
  have hasc := ord_asc hord0
  refine' start_spec (rest := _) (tsp := tsp) (tpc := tpc) (tref := tref) (t1 := t1) (t2 := t2) (tst := tst) (tt := tt) (tm0 := tm0) (halt := halt) (mv := mv) C ?NA ?OA ?OB hord0 hasc hcv hcl ?KA
  case NA => exact News.sel N (by tb_start)
  case OA => exact (ownOff_cons (asc_off hasc 14 [1, 0] rfl rfl) (ownOff_cons (asc_off hasc 5 [1, 0] rfl rfl) (ownOff_cons (asc_off hasc 7 [1, 0] rfl rfl) (ownOff_cons (asc_off hasc 6 [1, 0] rfl rfl) (ownOff_cons (asc_off hasc 9 [1, 0] rfl rfl) (ownOff_cons (asc_off hasc 8 [1, 0] rfl rfl) (ownOff_cons (asc_off hasc 11 [1, 0] rfl rfl) (ownOff_cons (asc_off hasc 10 [1, 0] rfl rfl) (ownOff_cons (asc_off hasc 13 [1, 0] rfl rfl) (ownOff_cons (asc_off hasc 12 [1, 0] rfl rfl) (ownOff_cons (asc_off hasc 19 [1, 0] rfl rfl) (ownOff_cons (asc_off hasc 15 [1, 0] rfl rfl) (ownOff_cons (asc_off hasc 16 [1, 0] rfl rfl) (ownOff_cons (asc_off hasc 17 [1, 0] rfl rfl) (ownOff_cons (asc_off hasc 18 [1, 0] rfl rfl) (ownOff_sub hoff (sub_idx [0, 1] rfl)))))))))))))))))
  case OB => exact (ownOff_cons (asc_off hasc 14 [3] rfl rfl) (ownOff_cons (asc_off hasc 5 [3] rfl rfl) (ownOff_cons (asc_off hasc 7 [3] rfl rfl) (ownOff_cons (asc_off hasc 6 [3] rfl rfl) (ownOff_cons (asc_off hasc 9 [3] rfl rfl) (ownOff_cons (asc_off hasc 8 [3] rfl rfl) (ownOff_cons (asc_off hasc 11 [3] rfl rfl) (ownOff_cons (asc_off hasc 10 [3] rfl rfl) (ownOff_cons (asc_off hasc 13 [3] rfl rfl) (ownOff_cons (asc_off hasc 12 [3] rfl rfl) (ownOff_cons (asc_off hasc 19 [3] rfl rfl) (ownOff_cons (asc_off hasc 15 [3] rfl rfl) (ownOff_cons (asc_off hasc 16 [3] rfl rfl) (ownOff_cons (asc_off hasc 17 [3] rfl rfl) (ownOff_cons (asc_off hasc 18 [3] rfl rfl) (ownOff_sub hoff (sub_idx [13] rfl)))))))))))))))))
  case KA =>
    intro pc i1 many tsp' tpc' t1' t2' tm' tmany tt' h' tk' p0 p1 i0 i2 m0 m25 F1 N1
    have hC : Cx w lo mean mg mb dp un (lawScope w.params) outer A₀ base h₀ L (fun y => if y = Str.ofString "many" then some (.int many tmany) else kstB u (psT f) y) h' 40 := C.at F1
    have I : InvT ⟨3, tt', mv, List.replicate 256 0, 256, tsp', pc, tpc', 0, tref, i1, t1', i1, t2', halt, 0, tst, false, false, false, false, false, false, false, false, [], pn, [], 0, 0, u0, v0, 0, 0, u1, v1, 0, 0, u2, v2, 0, 0, u3, v3⟩ := by
      refine ⟨hmv, List.length_replicate, fun j => ?_, p0, p1, i0, Int.le_refl _, i2, rfl, Nat.zero_le _, rfl, fun j p h => by simp at h, rfl, rfl, rfl, rfl, fun h => Bool.noConfusion h.1, fun h => Bool.noConfusion h.1, fun h => Bool.noConfusion h.1, fun h => Bool.noConfusion h.1⟩
      dsimp only
      rw [List.getD_eq_getElem?_getD, List.getElem?_replicate]
      split <;> decide
    have N2 : News h₀ L h' (LedT w.params { f with tm := tm' } ⟨3, tt', mv, List.replicate 256 0, 256, tsp', pc, tpc', 0, tref, i1, t1', i1, t2', halt, 0, tst, false, false, false, false, false, false, false, false, [], pn, [], 0, 0, u0, v0, 0, 0, u1, v1, 0, 0, u2, v2, 0, 0, u3, v3⟩ ++ rest) := News.sel N1 (by tb_start)
    refine wpAny_execs_cons ?_
    refine For_invVF F1 ?ka ?kb ?kc (hE := hE)
    case ka => exact rfl
    case kb => exact rfl
    case kc =>
      clear N1
      obtain ⟨B, F, X, T, hk, hdp, hun⟩ := hC
      delta psT at F
      dsimp only [kstB] at F
      dsimp only [lawScope, lawName, lawFn]
      repeat' (first | (k_unfold; (try dsimp only)) | (refine Mine.stop_go ?_; first | ((with_reducible show wpAny _ _ (call (Value.ref 428) _) _ _ _); k_dflt (refine' next_spec ?C ?N ?ho ?h1 ?h2 ?h3 ?h4 ?h5 ?h6 ?h7 ?_; (case C => exact ⟨by k_asm, by k_asm, by k_asm, by k_asm, by exact rfl, by k_room, by ktr_units⟩); (case N => (refine' News.sel ?hN ?hS; (case hN => k_asm); (case hS => tb_start))); (case ho => repeat' (first | (with_reducible assumption) | refine ownOff_cons (asc_off (by with_reducible assumption) 4 [1, 0] rfl rfl) ?_ | refine ownOff_cons (asc_off (by with_reducible assumption) 3 [1, 0] rfl rfl) ?_ | refine ownOff_cons (asc_off (by with_reducible assumption) 2 [1, 0] rfl rfl) ?_ | (with_reducible refine ownOff_cons ?_ ?_) | (with_reducible exact List.forall_mem_nil _) | (with_reducible refine List.forall_mem_cons.mpr ⟨?_, ?_⟩) | (refine neN ?_; dsimp only; omega))); (case h1 => with_reducible assumption); (case h2 => with_reducible assumption); (case h3 => with_reducible assumption); (case h4 => omega); (case h5 => omega); (case h6 => decide); (case h7 => decide); k_whole); intro v' tv' tt' h' tk' b1' b2' F' N'; dsimp only [feedL, List.cons_append, List.nil_append] at N'; k_sweep)) | (k_end; wrow_close) | (walk1; all_goals (try dsimp only); all_goals (try (with_reducible refine Mine.wp_tok ?_; intro _))) | (dsimp only; walk1) | (leave1; walk_say "STEP leave1"; try dsimp only))
      refine stop_go ?_
      (rename News _ _ _ _ => lN'; rename Fr _ _ _ _ => lF'; rename IsRange _ _ _ _ _ _ _ _ => lR')
      refine law_loop (f := { f with tm := tm' }) ⟨B, lF', X, T, hk, hdp, hun⟩ lR' m0 m25 lN' (fun p hp => List.mem_append_left _ hp) ?kp (hord tm') I rfl rfl rfl hcv hcl ?kd
      case kp => exact mm_ps0
      case kd =>
        intro m' c tl h2 tk2 F2 N3
        (try dsimp only)
        clear N3 lF' lN'
        repeat' (first | (k_unfold; (try dsimp only)) | (refine Mine.stop_go ?_; first | ((with_reducible show wpAny _ _ (call (Value.ref 428) _) _ _ _); k_dflt (refine' next_spec ?C ?N ?ho ?h1 ?h2 ?h3 ?h4 ?h5 ?h6 ?h7 ?_; (case C => exact ⟨by k_asm, by k_asm, by k_asm, by k_asm, by exact rfl, by k_room, by ktr_units⟩); (case N => (refine' News.sel ?hN ?hS; (case hN => k_asm); (case hS => tb_start))); (case ho => repeat' (first | (with_reducible assumption) | refine ownOff_cons (asc_off (by with_reducible assumption) 4 [1, 0] rfl rfl) ?_ | refine ownOff_cons (asc_off (by with_reducible assumption) 3 [1, 0] rfl rfl) ?_ | refine ownOff_cons (asc_off (by with_reducible assumption) 2 [1, 0] rfl rfl) ?_ | (with_reducible refine ownOff_cons ?_ ?_) | (with_reducible exact List.forall_mem_nil _) | (with_reducible refine List.forall_mem_cons.mpr ⟨?_, ?_⟩) | (refine neN ?_; dsimp only; omega))); (case h1 => with_reducible assumption); (case h2 => with_reducible assumption); (case h3 => with_reducible assumption); (case h4 => omega); (case h5 => omega); (case h6 => decide); (case h7 => decide); k_whole); intro v' tv' tt' h' tk' b1' b2' F' N'; dsimp only [feedL, List.cons_append, List.nil_append] at N'; k_sweep)) | (k_end; wrow_close) | (walk1; all_goals (try dsimp only); all_goals (try (with_reducible refine Mine.wp_tok ?_; intro _))) | (dsimp only; walk1) | (leave1; walk_say "STEP leave1"; try dsimp only))
        exact k _ _ _ F2
end
end
section
open PySem PySem.W PyProof.Rows PySem.Calls PySem.Spec
theorem off25 : True := by (w_top off; trivial)
structure A1Fn (P : Params) where
  tgs : List PySem.Expr
  elt : PySem.Expr
  x : Str
  px : Pos
  iter : PySem.Expr
  scope : Scope
  pos : Pos
  es : List PySem.Expr
  ct : Nat
  p2 : Pos
  p3 : Pos
  ok : (lawFn P).a1 = .Assign tgs (.Tuple (.ListComp elt [⟨.Name x px, iter, [], 0⟩] scope pos :: es) ct p2) p3
def a1Fn (P : Params) : A1Fn P := ⟨_, _, _, _, _, _, _, _, _, _, _, by exact rfl⟩
@[reducible] def tok3 (a b c : Nat) : Nat → Nat
  | 0 => a
  | 1 => b
  | _ => c
theorem allne {D : Addr} {l : List (Addr × Obj)} (h : AllLt D l) : ∀ p ∈ l, D ≠ p.1 := fun p hp => Nat.ne_of_gt (allLt_mem h p hp)
section
variable {w : World} {lo : List Str} {mean : ExcName → Option Value} {mg mb : Str → Option Value} {dp un : Nat} {gd : Option (List Code)} {L a : Addr} {ccd : Value} {outer : List Env}
    {A₀ : Around} {base h₀ : Heap} {s : Shared} {E Q : Value → Shared → Prop} {m : Str → Option Value} {news : List (Addr × Obj)}
theorem asker_elt {I C D : Nat} {oI oC oD : Obj} {m2 : Str → Option Value} {j : Int} {tj : Nat}
    (X0 : Cx w lo mean mg mb dp un (lawScope w.params) outer A₀ base h₀ L m s.heap 40)
    (N : News h₀ L s.heap ((I, oI) :: (C, oC) :: (D, oD) :: news)) (hC : LCg.NsObj oC m2) (hx : m2 (a1Fn w.params).x = some (.int j tj))
    (k : ∀ (x d : Nat) (kk : Nat → Nat) (t' : Nat) (h' : Heap) (tk' : Nat), d < x → AllLt d ((I, oI) :: (C, oC) :: (D, oD) :: news) → Fr h₀ L h' m →
      News h₀ L h' ((x, instObj 212 d) :: (d, dictOf (askEs w.params kk (.int (2 * j) t') false false) 3) :: (I, oI) :: (C, oC) :: (D, oD) :: news) → Q (.ref x) { s with heap := h', toks := tk' }) :
    wpAny (model prg w) (ktrTop dp un gd lawName (lawScope w.params) L a ccd [] outer) (eval (a1Fn w.params).elt (compEnvC (a1Fn w.params).scope [] C (envOf lawName (lawScope w.params) L a ccd))) Q E s := by
  dsimp only [lawScope, lawName, lawFn, a1Fn] at hx ⊢
  obtain ⟨B, F, X, T, hk, hdp, hun⟩ := X0
  repeat' (first | (k_unfold; (try dsimp only)) | (k_end; wrow_close) | (walk1; all_goals (try dsimp only); all_goals (try (with_reducible refine Mine.wp_tok ?_; intro _))) | (dsimp only; walk1) | (leave1; walk_say "STEP leave1"; try dsimp only))
  (rename News _ _ _ _ => lN'; rename Fr _ _ _ _ => lF'; rename _ ∧ _ => l1'; rename _ < _ => l2')
  exact k _ _ (tok3 _ _ _) _ _ _ l2' l1' lF' lN'
theorem sub5 {a b c x d : Addr × Obj} {l : List (Addr × Obj)} : ∀ p ∈ a :: b :: c :: x :: d :: l, p ∈ x :: d :: a :: b :: c :: l := fun p hp => by
  simp only [List.mem_cons] at hp ⊢
  rcases hp with h | h | h | h | h | h <;> simp only [h, true_or, or_true]
theorem ask_turn {k i : Nat} {ys : List Value} {Fin : List Value → List (Addr × Obj) → Prop}
    (X0 : Cx w lo mean mg mb dp un (lawScope w.params) outer A₀ base h₀ L m s.heap 40) (hi : i < 4)
    (h : ∀ (x d : Nat) (kk : Nat → Nat) (t' : Nat), d < x → AllLt d news → LCg.CompRest prg w (ktrTop dp un gd lawName (lawScope w.params) L a ccd [] outer) h₀ L m (envOf lawName (lawScope w.params) L a ccd) (a1Fn w.params).elt (a1Fn w.params).x (a1Fn w.params).scope [] s (fun _ => True) (fun i v => ∃ t, v = .int (0 + (i : Int)) t) Fin k (i + 1) (ys ++ [.ref x]) ((x, instObj 212 d) :: (d, dictOf (askEs w.params kk (.int (2 * (0 + (i : Int))) t') false false) 3) :: news)) :
    LCg.CompRest prg w (ktrTop dp un gd lawName (lawScope w.params) L a ccd [] outer) h₀ L m (envOf lawName (lawScope w.params) L a ccd) (a1Fn w.params).elt (a1Fn w.params).x (a1Fn w.params).scope [] s (fun _ => True) (fun i v => ∃ t, v = .int (0 + (i : Int)) t) Fin (k + 1) i ys news := by
  refine LCg.CompRest.succ ?_
  intro v I oI C oC D m2 h1 tk1 E' hv hC hx F1 N1 off ne
  obtain ⟨t, rfl⟩ := hv
  refine asker_elt (s := { s with heap := h1, toks := tk1 }) ⟨X0.B, F1, X0.X, X0.T, X0.hk, X0.hdp, X0.hun⟩ N1 hC hx fun x d kk t' h' tk' l2 l1 F2 N2 => ?_
  exact LCg.CompEnd.intro F2 N2 ((x, instObj 212 d) :: (d, dictOf (askEs w.params kk (.int (2 * (0 + (i : Int))) t') false false) 3) :: news) sub5
    ⟨⟨Nat.ne_of_gt (Nat.lt_trans l1.1 l2), Nat.ne_of_gt (Nat.lt_trans l1.2.1 l2), Nat.ne_of_gt (Nat.lt_trans l1.2.2.1 l2)⟩, ⟨Nat.ne_of_gt l1.1, Nat.ne_of_gt l1.2.1, Nat.ne_of_gt l1.2.2.1⟩, off⟩ True.intro (h x d kk t' l2 l1.2.2.2)
theorem off1_mem {D : Addr} {l : List (Addr × Obj)} : LCg.Off1 D l → ∀ p ∈ l, p.1 ≠ D := by
  induction l with
  | nil => exact fun _ _ h => nomatch h
  | cons q r ih =>
    intro h p hp
    rcases List.mem_cons.mp hp with e | e
    · rw [e]; exact h.1
    · exact ih h.2 p e
theorem asker_comp (X0 : Cx w lo mean mg mb dp un (lawScope w.params) outer A₀ base h₀ L m s.heap 40) (N : News h₀ L s.heap news)
    (k : ∀ (ch x0 d0 x1 d1 x2 d2 x3 d3 : Nat) (k0 k1 k2 k3 : Nat → Nat) (y0 y1 y2 y3 nn : Nat) (h' : Heap) (tk' : Nat), (∀ b ∈ [d0, x0, d1, x1, d2, x2, d3, x3], b ≠ ch) → (∀ p ∈ news, p.1 ≠ ch) → AllLt d0 news → d0 < x0 ∧ x0 < d1 ∧ d1 < x1 ∧ x1 < d2 ∧ d2 < x2 ∧ x2 < d3 ∧ d3 < x3 → Fr h₀ L h' m →
      News h₀ L h' (chainL w.params ch x0 d0 x1 d1 x2 d2 x3 d3 k0 k1 k2 k3 (.int 0 y0) (.int 2 y1) (.int 4 y2) (.int 6 y3) false false false false false false false false ++ news) → Q (.ref ch) { s with heap := h', toks := tk' }) :
    wpAny (model prg w) (ktrTop dp un gd lawName (lawScope w.params) L a ccd [] outer) (eval (.ListComp (a1Fn w.params).elt [⟨.Name (a1Fn w.params).x (a1Fn w.params).px, (a1Fn w.params).iter, [], 0⟩] (a1Fn w.params).scope (a1Fn w.params).pos) (envOf lawName (lawScope w.params) L a ccd)) Q E s := by
  have X00 := X0
  obtain ⟨B, F, X, T, hk, hdp, hun⟩ := X0
  have key : LCg.CompRest prg w (ktrTop dp un gd lawName (lawScope w.params) L a ccd [] outer) h₀ L m (envOf lawName (lawScope w.params) L a ccd) (a1Fn w.params).elt (a1Fn w.params).x (a1Fn w.params).scope [] s (fun _ => True) (fun i v => ∃ t, v = .int (0 + (i : Int)) t) (LCg.FinE h₀ L m s Q) 4 0 [] news := by
    refine ask_turn X00 (by decide) fun x0 d0 k0 y0 l0 m0 => ask_turn X00 (by decide) fun x1 d1 k1 y1 l1 m1 => ask_turn X00 (by decide) fun x2 d2 k2 y2 l2 m2 => ask_turn X00 (by decide) fun x3 d3 k3 y3 l3 m3 => ?_
    refine LCg.CompRest.zero ?_
    intro D h' tk' F' N' o1
    have o2 := off1_mem o1
    refine k D x0 d0 x1 d1 x2 d2 x3 d3 k0 k1 k2 k3 y0 y1 y2 y3 4 h' tk' ?_ (fun p hp => o2 p (by simp only [List.mem_cons]; simp only [hp, or_true])) m0 ⟨l0, m1.1, l1, m2.1, l2, m3.1, l3⟩ F' ?_
    · exact List.forall_mem_cons.mpr ⟨o2 (d0, _) (by k_mem), List.forall_mem_cons.mpr ⟨o2 (x0, _) (by k_mem), List.forall_mem_cons.mpr ⟨o2 (d1, _) (by k_mem), List.forall_mem_cons.mpr ⟨o2 (x1, _) (by k_mem), List.forall_mem_cons.mpr ⟨o2 (d2, _) (by k_mem), List.forall_mem_cons.mpr ⟨o2 (x2, _) (by k_mem), List.forall_mem_cons.mpr ⟨o2 (d3, _) (by k_mem), List.forall_mem_cons.mpr ⟨o2 (x3, _) (by k_mem), List.forall_mem_nil _⟩⟩⟩⟩⟩⟩⟩⟩
    · exact News.sel N' (by tb_start)
  dsimp only [lawScope, lawName, lawFn, a1Fn] at key ⊢
  refine LCg.ListComp_U (F₀ := F) (cl := []) (by with_unfolding_all rfl) (by decide) (by rfl) (by decide) (by rfl) ?_
  k_dflt lcg_toSrc

  exact key
end
end
end Mine
section
open PySem PySem.W PyProof.Rows
namespace Mine
theorem off26 : True := by (w_top off; trivial)
theorem ints_rep {t : Tok} : ∀ n : Nat, IntsAre ((List.replicate n [Value.int 0 t]).flatten) (List.replicate n (0 : Int))
  | 0 => .nil
  | n + 1 => .cons 0 t (ints_rep n)
section
variable {prog : Program} {w : World} {A : Around} {E : Value → Shared → Prop} {s : Shared} {h₀ : Heap} {L D : Addr} {m : Str → Option Value} {news : List (Addr × Obj)} {k : Nat}
theorem my_mul {t u : Tok} {Q : Value → Shared → Prop} (F : Fr h₀ L s.heap m) (N : News h₀ L s.heap news) (hm : (D, listOf [Value.int 0 t].toArray k) ∈ news)
    (h : ∀ (vs : List Value) (D' nn : Nat) (h' : Heap), Fr h₀ L h' m → News h₀ L h' ((D', listOf vs.toArray nn) :: news) → (∀ p ∈ news, p.1 < D') → IntsAre vs (List.replicate 256 0) → Q (.ref D') { s with heap := h' }) :
    wpAny (model prog w) A (binaryOp .Mult (.ref D) (.int 256 u)) Q E s := by
  refine mul_list (items := #[Value.int 0 t]) (k := k) F N (N _ hm).1 (by decide) (by decide) (by show 1 * Int.toNat 256 ≤ 2 ^ 24; decide) fun h' F' N' => ?_
  have e : (List.foldl (fun x1 x2 => x1 ++ x2) #[] (List.replicate (if (#[Value.int 0 t] : Array Value).isEmpty = true then 0 else (256 : Int).toNat) #[Value.int 0 t])) = ((List.replicate 256 [Value.int 0 t]).flatten).toArray := by
    show (List.foldl (fun x1 x2 => x1 ++ x2) #[] (List.replicate 256 #[Value.int 0 t])) = _
    rw [listMul_foldl]
    exact congrArg List.toArray (List.nil_append _)
  rw [e] at N'
  exact h _ _ _ h' F' N' (fun p hp => Heap.lt_size (N p hp).1) (ints_rep 256)
end
theorem fr_ps {f : TF} {m : Str → Option Value} {g h : Heap} {L : Addr} (F : Fr g L h m) (hk : ∀ p ∈ psT f, m p.1 = some p.2) : Fr g L h (fun y => kstB m (psT f) y) := by
  have e : (fun y => kstB m (psT f) y) = m := by
    funext y
    have e1 := hk _ (.head _)
    have e2 := hk _ (.tail _ (.head _))
    have e3 := hk _ (.tail _ (.tail _ (.head _)))
    have e4 := hk _ (.tail _ (.tail _ (.tail _ (.head _))))
    have e5 := hk _ (.tail _ (.tail _ (.tail _ (.tail _ (.head _)))))
    have e6 := hk _ (.tail _ (.tail _ (.tail _ (.tail _ (.tail _ (.head _))))))
    dsimp only at e1 e2 e3 e4 e5 e6
    delta psT
    dsimp only [kstB]
    split
    · next h => rw [h]; exact e1.symm
    split
    · next h => rw [h]; exact e2.symm
    split
    · next h => rw [h]; exact e3.symm
    split
    · next h => rw [h]; exact e4.symm
    split
    · next h => rw [h]; exact e5.symm
    split
    · next h => rw [h]; exact e6.symm
    rfl
  rw [e]; exact F
@[reducible] def tok14 (a b c d e f g h i j k l m n : Nat) : Nat → Nat
  | 0 => a
  | 1 => b
  | 2 => c
  | 3 => d
  | 4 => e
  | 5 => f
  | 6 => g
  | 7 => h
  | 8 => i
  | 9 => j
  | 10 => k
  | 11 => l
  | 12 => m
  | _ => n
theorem neAll {l : List (Addr × Obj)} {c a : Addr} {o : Obj} (h : ∀ p ∈ l, p.1 ≠ c) (m : (a, o) ∈ l) : a ≠ c := h _ m
theorem neAll2 {l : List Addr} {c a : Addr} (h : ∀ b ∈ l, b ≠ c) (m : a ∈ l) : a ≠ c := h _ m
end Mine
local macro_rules | `(tactic| walk_at "binaryOp Mult ref int") => `(tactic| ((with_reducible show wpAny _ _ (binaryOp _ (Value.ref _) (Value.int 256 _)) _ _ _); refine Mine.stop_here ?_))
local macro_rules | `(tactic| walk_at "eval ListComp") => `(tactic| ((with_reducible show wpAny _ _ (eval (PySem.Expr.ListComp _ _ _ _) _) _ _ _); refine Mine.stop_here ?_))
local macro_rules | `(tactic| walk_at "execs cons") => `(tactic| ((with_reducible show wpAny _ _ (execs (_ :: _ :: Stmt.For _ _ _ _ _ :: _) _) _ _ _); refine Mine.stop_here ?_))
local macro_rules | `(tactic| walk_at "execs cons Assign cons") => `(tactic| ((with_reducible show wpAny _ _ (execs (_ :: _ :: Stmt.For _ _ _ _ _ :: _) _) _ _ _); refine Mine.stop_here ?_))
theorem PySem.Challenge.cw_sm0123_01_holds : PySem.Challenge.rw_sm0123_01.Holds := by
  refine Mine.low (Mine.top ?_)
  k_go0
  (all_goals try k_fold)
  repeat' (first | (k_unfold; (try dsimp only)) | (refine Mine.stop_go ?_; first | ((with_reducible show wpAny _ _ (eval (PySem.Expr.ListComp _ _ _ _) _) _ _ _); k_dflt (refine' Mine.asker_comp ?C ?N ?_; (case C => exact ⟨by k_asm, by k_asm, by k_asm, by k_asm, by exact rfl, by k_room, by k_units⟩); (case N => k_asm); k_whole); intro ch' x0' d0' x1' d1' x2' d2' x3' d3' k0' k1' k2' k3' y0' y1' y2' y3' nn' h' tk' hc1' hc2' l1' l2' F' N'; dsimp only [Mine.chainL, List.cons_append, List.nil_append] at N'; (try simp only [AllLt, and_true] at l1'); (try k_sweep)) | ((with_reducible show wpAny _ _ (binaryOp _ (Value.ref _) (Value.int 256 _)) _ _ _); k_dflt (refine' Mine.my_mul ?F ?N ?m ?_; (case F => k_asm); (case N => k_asm); (case m => k_mem); k_whole); intro vs' D' nn' h' F' N' l1' hi'; (try k_lt l1'); (try k_sweep))) | (k_end; wrow_close) | (walk1; all_goals (try (with_reducible refine Mine.wp_tok ?_; intro _))) | (dsimp only; walk1) | (leave1; walk_say "STEP leave1"; try dsimp only))
  refine Mine.stop_go ?_
  (rename News _ _ _ _ => lN'; rename Fr _ _ _ _ => lF')
  refine' Mine.law_rest (f := ⟨_, _, _, _, _, _, _, _, _, _, _, _, _, _, _, _, _, _, _, _, Mine.tok14 _ _ _ _ _ _ _ _ _ _ _ _ _ _, _, _, _, _, _, _, _, _, _, _, _, _, _, _, _, _, _, _, _, 0, _, _, _, _, _, _⟩) (rest := []) ?ZC ?ZN (fun _ h => nomatch h) ?Zord ?Zcv ?Zcl (by assumption) ?ZK ?ZE
  case ZN => (refine' Mine.News.sel lN' ?_; (try dsimp only [Mine.feedL, Mine.chainL, Mine.cpuL, Mine.cntL, Mine.int2L, List.cons_append, List.nil_append]); repeat' (first | exact Mine.Sel.done | exact Mine.Sel.nil | exact Mine.Pick.head | refine' Mine.Pick.tail ?_ | refine' Mine.Sel.pick ?_ ?_))
  case ZC => exact ⟨by k_asm, Mine.fr_ps lF' (by intro p hp; simp only [Mine.psT, List.mem_cons, List.not_mem_nil, or_false] at hp; rcases hp with rfl | rfl | rfl | rfl | rfl | rfl <;> rfl), by k_asm, by k_asm, by exact rfl, by k_room, by k_units⟩
  case Zcv => assumption
  case Zcl => exact Nat.le_trans (Nat.le_of_eq List.length_take) (Nat.min_le_left _ _)
  case ZE => passes_own
  case Zord =>
    intro tm
    constructor
    · dsimp only
      repeat' (first | omega | refine And.intro ?_ ?_)
    · dsimp only
      repeat' (first | (with_reducible exact List.forall_mem_nil _) | (with_reducible refine List.forall_mem_cons.mpr ⟨?_, ?_⟩) | exact Ne.symm (Mine.neAll2 (by assumption) (by k_mem)) | exact Ne.symm (Mine.neAll (by assumption) (by k_mem)) | omega)
  case ZK =>
    intro m' h' tk' F'
    (try dsimp only)
    repeat' (first | (k_unfold; (try dsimp only)) | (refine Mine.stop_go ?_; first | ((with_reducible show wpAny _ _ (eval (PySem.Expr.ListComp _ _ _ _) _) _ _ _); k_dflt (refine' Mine.asker_comp ?C ?N ?_; (case C => exact ⟨by k_asm, by k_asm, by k_asm, by k_asm, by exact rfl, by k_room, by k_units⟩); (case N => k_asm); k_whole); intro ch' x0' d0' x1' d1' x2' d2' x3' d3' k0' k1' k2' k3' y0' y1' y2' y3' nn' h' tk' hc1' hc2' l1' l2' F' N'; dsimp only [Mine.chainL, List.cons_append, List.nil_append] at N'; (try simp only [AllLt, and_true] at l1'); (try k_sweep)) | ((with_reducible show wpAny _ _ (binaryOp _ (Value.ref _) (Value.int 256 _)) _ _ _); k_dflt (refine' Mine.my_mul ?F ?N ?m ?_; (case F => k_asm); (case N => k_asm); (case m => k_mem); k_whole); intro vs' D' nn' h' F' N' l1' hi'; (try k_lt l1'); (try k_sweep))) | (k_end; wrow_close) | (walk1; all_goals (try (with_reducible refine Mine.wp_tok ?_; intro _))) | (dsimp only; walk1) | (leave1; walk_say "STEP leave1"; try dsimp only))
end
