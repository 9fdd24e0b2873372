import PyProof.Rows.All
import Wide.All
import OpenK.AllK
import Wide.FinOn
import PySem.Challenge.RW_pb0424_01
open PySem PySem.W PyProof.Rows
set_option Elab.async false
set_option maxRecDepth 100000
set_option maxHeartbeats 8000000
namespace Mine.hd
theorem tw6818987989461384207 : True := trivial
theorem tw17311223219408574766 : True := trivial
theorem tw17087091549796120035 : True := trivial
theorem tw6924109203229866365 : True := trivial
theorem tw15616948245753086127 : True := trivial
theorem tw13047593935725612058 : True := trivial
theorem tw14892549342360969540 : True := trivial
theorem tw978945382295711627 : True := trivial
theorem tw7523672394736509286 : True := trivial
theorem tw11034497122203965937 : True := trivial
theorem tw4065347644161347641 : True := trivial
theorem tw6293948785866598258 : True := trivial
theorem tw5961118342813265553 : True := trivial
theorem tw18185175575083235020 : True := trivial
theorem tw11128854368766332075 : True := trivial
theorem tw12591134339009171964 : True := trivial
theorem tw10233322358516163335 : True := trivial
theorem tw9571657101598308349 : True := trivial
theorem tw4377701919642642989 : True := trivial
theorem tw8068729725432388964 : True := trivial
theorem tw10216474801634566288 : True := trivial
theorem tw11517466657730873313 : True := trivial
theorem tw5148922909946612681 : True := trivial
theorem tw12414669353804360901 : True := trivial
theorem tw17711083657039698284 : True := trivial
theorem tw5732804406350252772 : True := trivial
theorem tw14620637471214046174 : True := trivial
theorem tw12631932088317031055 : True := trivial
theorem tw14176624398918483544 : True := trivial
theorem tw15043168886218598503 : True := trivial
theorem tw2448417245163862455 : True := trivial
theorem tw6990203504111849199 : True := trivial
theorem tw10752148897807903841 : True := trivial
theorem tw2867327485932766208 : True := trivial
theorem tw16649331688326792143 : True := trivial
theorem tw15103106377680225435 : True := trivial
theorem tw11652457597714270106 : True := trivial
theorem tw3259873300814134281 : True := trivial
theorem tw697623264460660564 : True := trivial
theorem tw7793673504863384051 : True := trivial
theorem tw13372043803930879067 : True := trivial
theorem tw4856431653887292112 : True := trivial
theorem tw307737655149646647 : True := trivial
theorem tw3953601041324332601 : True := trivial
theorem tw11117797201346649052 : True := trivial
theorem tw2216850387143573719 : True := trivial
theorem tw8684328023851190084 : True := trivial
theorem tw10543509907540572799 : True := trivial
theorem tw4883613257557613307 : True := trivial
theorem tw12769127236821124696 : True := trivial
theorem tw10507497572311344420 : True := trivial
theorem tw6838551448383532254 : True := trivial
theorem tw461538923250603899 : True := trivial
theorem tw18241275227582772068 : True := trivial
theorem tw5592360268479517082 : True := trivial
theorem tw1847840615245081061 : True := trivial
theorem tw13066319289922817542 : True := trivial
theorem tw8671608845466749128 : True := trivial
theorem tw14896477498954680388 : True := trivial
theorem tw221497870779424605 : True := trivial
theorem tw8343274005884668182 : True := trivial
theorem tw6998783941825042932 : True := trivial
theorem tw8801323125487838256 : True := trivial
theorem tw16772102934027710169 : True := trivial
theorem tw16332348944364537037 : True := trivial
theorem tw2114630138375439770 : True := trivial
theorem tw10012880186880212623 : True := trivial
theorem tw7752767780024739350 : True := trivial
theorem tw17650839729002327288 : True := trivial
theorem tw7540741092611519060 : True := trivial
theorem tw12092154237167983948 : True := trivial
theorem tw732345407407602841 : True := trivial
theorem tw8053944837975664402 : True := trivial
theorem tw6528754448969337418 : True := trivial
theorem tw14598272352848978880 : True := trivial
theorem tw5373601922739893978 : True := trivial
theorem tw17447410573909459338 : True := trivial
theorem tw8770205317985620760 : True := trivial
theorem tw7854228177987924090 : True := trivial
theorem tw4014540891139286612 : True := trivial
theorem tw8015326511298524721 : True := trivial
theorem tw12588582704262371052 : True := trivial
theorem tw5282504435634884242 : True := trivial
theorem tw11953376511379268794 : True := trivial
theorem tw1382963296337349011 : True := trivial
theorem tw3182187488490625086 : True := trivial
theorem tw18300207936620678264 : True := trivial
theorem tw11249132867342737325 : True := trivial
theorem tw13919464512627920130 : True := trivial
theorem tw7891253978561527248 : True := trivial
theorem tw2167537188350426706 : True := trivial
theorem tw13903934854276604550 : True := trivial
theorem tw6545403380812914513 : True := trivial
theorem tw6482722132109649516 : True := trivial
theorem tw16502264421070913907 : True := trivial
theorem tw9271970288684553227 : True := trivial
theorem tw13609717118414637909 : True := trivial
theorem tw8081886968326746073 : True := trivial
theorem tw12173100003817136821 : True := trivial
theorem tw11631869004601391166 : True := trivial
theorem tw14400467628812073631 : True := trivial
theorem tw4478964076566166474 : True := trivial
theorem tw4115565904173853331 : True := trivial
theorem tw10111801491309104144 : True := trivial
theorem tw6982297934935202809 : True := trivial
theorem tw7438314255253156184 : True := trivial
theorem tw16456969618363192440 : True := trivial
theorem tw7721951785955056133 : True := trivial
theorem tw14294001040229213422 : True := trivial
theorem tw13280443560766958183 : True := trivial
theorem tw10525666975642140466 : True := trivial
theorem tw7510230149288206974 : True := trivial
theorem tw1640179252394036143 : True := trivial
theorem tw8493152586797012548 : True := trivial
theorem tw2502866573005156581 : True := trivial
theorem tw12901994302517312135 : True := trivial
theorem tw6819123309680001836 : True := trivial
theorem tw1299046323782801668 : True := trivial
theorem tw5987830557187376847 : True := trivial
theorem tw17901334829092211166 : True := trivial
theorem tw13225837485096350037 : True := trivial
theorem tw7628703163842673926 : True := trivial
theorem tw6598312636042714100 : True := trivial
theorem tw3759623122121258479 : True := trivial
theorem tw1088296927520436173 : True := trivial
theorem tw1865391376527767206 : True := trivial
theorem tw16155205043701107222 : True := trivial
theorem tw8117029840178788049 : True := trivial
theorem tw8545014587354053640 : True := trivial
theorem tw9427301549700849589 : True := trivial
theorem tw9421340871869096474 : True := trivial
theorem tw7610815399733428385 : True := trivial
theorem tw1882180444382439491 : True := trivial
theorem tw7292484366425897655 : True := trivial
theorem tw4136554803537287180 : True := trivial
theorem tw16053994301053490033 : True := trivial
theorem tw701787995468756871 : True := trivial
theorem tw7914949630228597729 : True := trivial
theorem tw12050417470231563642 : True := trivial
theorem tw7676003278276379012 : True := trivial
theorem tw10844753989422098599 : True := trivial
theorem tw190519026028168232 : True := trivial
theorem tw16056359734778111409 : True := trivial
theorem tw920214292312260371 : True := trivial
theorem tw15463257786427224491 : True := trivial
theorem tw17047115858639842297 : True := trivial
theorem tw17420951861521290806 : True := trivial
theorem tw6060742912462422084 : True := trivial
theorem tw1118553966540926140 : True := trivial
theorem tw9783614193127449063 : True := trivial
theorem tw8965841893048198262 : True := trivial
theorem tw13483081372092288885 : True := trivial
theorem tw4706079058837389440 : True := trivial
theorem tw14060154772996877548 : True := trivial
theorem tw6150058117598931232 : True := trivial
theorem tw7654286748164834634 : True := trivial
theorem tw9244321171653502345 : True := trivial
theorem tw2274498078352570744 : True := trivial
theorem tw8538877666451538035 : True := trivial
theorem tw3085183777334472315 : True := trivial
theorem tw5318216170032084099 : True := trivial
theorem tw5716766192118558609 : True := trivial
theorem tw16006246977917349235 : True := trivial
theorem tw6830512106363814048 : True := trivial
theorem tw13855946660403688772 : True := trivial
theorem tw5245234834050458271 : True := trivial
theorem tw10258999931320997221 : True := trivial
theorem tw15166520500009309586 : True := trivial
theorem tw8351282476255451920 : True := trivial
theorem tw17574625026820762457 : True := trivial
theorem tw16794629799341752650 : True := trivial
theorem tw11011131195910976488 : True := trivial
theorem tw16412773359747925120 : True := trivial
theorem tw17673860158736603733 : True := trivial
theorem tw3434918251397683217 : True := trivial
theorem tw15919477243976248262 : True := trivial
theorem tw10403243965636340961 : True := trivial
theorem tw9557236495431379559 : True := trivial
theorem tw4172343393113369950 : True := trivial
theorem tw7366208706002141716 : True := trivial
theorem tw4015398097383911347 : True := trivial
theorem tw12393119488966705847 : True := trivial
theorem tw16945582573551092051 : True := trivial
theorem tw1425423193147277237 : True := trivial
theorem tw9430268157657104642 : True := trivial
theorem tw3828038474966422129 : True := trivial
theorem tw12058812876911547015 : True := trivial
theorem tw881544763273948857 : True := trivial
theorem tw17130151131035750659 : True := trivial
theorem tw16853341256802265648 : True := trivial
theorem tw13217225542625558698 : True := trivial
theorem tw9386895884608548742 : True := trivial
theorem tw11213053971927718326 : True := trivial
theorem tw1588505670450824345 : True := trivial
theorem tw4523669819894539328 : True := trivial
theorem tw14768889098011018680 : True := trivial
theorem tw13638418597567726942 : True := trivial
theorem tw14772383043592177042 : True := trivial
theorem tw3381375190539634487 : True := trivial
theorem tw17986969038992634876 : True := trivial
theorem tw13828106393651249627 : True := trivial
theorem tw17588044629489971554 : True := trivial
theorem tw6906073325868019850 : True := trivial
theorem tw10727248033764811480 : True := trivial
theorem tw2000490053193787569 : True := trivial
theorem tw4851647983119433812 : True := trivial
theorem tw16473244170626142550 : True := trivial
theorem tw226724450230711188 : True := trivial
theorem tw4182648748547736412 : True := trivial
theorem tw10743916045514856203 : True := trivial
theorem tw10784824025267889561 : True := trivial
theorem tw14705683404202351889 : True := trivial
theorem tw15508949281206285077 : True := trivial
theorem tw3404104791013757517 : True := trivial
theorem tw2304311442786299043 : True := trivial
theorem tw4272726840584523970 : True := trivial
theorem tw3109861748172591687 : True := trivial
theorem tw6031030000289801897 : True := trivial
theorem tw16257038226119295666 : True := trivial
theorem tw8652628183442184457 : True := trivial
theorem tw7133641032537487646 : True := trivial
theorem tw16828841361933241965 : True := trivial
theorem tw15595854959937240912 : True := trivial
theorem tw15083628210047938546 : True := trivial
theorem tw6196171512934965099 : True := trivial
theorem tw1450087424629197153 : True := trivial
theorem tw1102719854795613173 : True := trivial
theorem tw13642289790063256904 : True := trivial
theorem tw10458740792067480800 : True := trivial
theorem tw128412058910260475 : True := trivial
theorem tw1506431575118746342 : True := trivial
theorem tw17183224562656869120 : True := trivial
theorem tw13866372431405929976 : True := trivial
theorem tw4449123307109862055 : True := trivial
theorem tw15833661619300960221 : True := trivial
theorem tw12112201142124510154 : True := trivial
theorem tw11375277706881905925 : True := trivial
theorem tw12394076208661396346 : True := trivial
theorem tw13038990169509382042 : True := trivial
theorem tw17213754286329925777 : True := trivial
theorem tw4643362625855044894 : True := trivial
theorem tw16091413853298234908 : True := trivial
theorem tw5238241317806426387 : True := trivial
theorem tw13931416462566266981 : True := trivial
theorem tw3530705653197291679 : True := trivial
theorem tw16904818350239718627 : True := trivial
theorem tw4282304852377368616 : True := trivial
theorem tw1712922718373300912 : True := trivial
theorem tw9013056391748086436 : True := trivial
theorem tw6820862383352777685 : True := trivial
theorem tw402640490398009360 : True := trivial
theorem tw2951005344575393816 : True := trivial
theorem tw8716120427605611371 : True := trivial
theorem tw15837987909243819085 : True := trivial
theorem tw8960069828448710407 : True := trivial
theorem tw7763873220885509757 : True := trivial
theorem tw6882427118574961969 : True := trivial
theorem tw6276725880618359904 : True := trivial
theorem tw15642763164714097627 : True := trivial
theorem tw2845679848157327705 : True := trivial
theorem tw991583007596301734 : True := trivial
theorem tw5505005885091257285 : True := trivial
theorem tw3789350110615891812 : True := trivial
theorem tw18293851220164018083 : True := trivial
theorem tw13466754112058979494 : True := trivial
theorem tw4478166936697009375 : True := trivial
theorem tw15048261121198461528 : True := trivial
theorem tw1589133516308662214 : True := trivial
theorem tw15643275761693703936 : True := trivial
theorem tw13431754692932380062 : True := trivial
theorem tw1781861727890032366 : True := trivial
theorem tw5174551420813472067 : True := trivial
theorem tw1610171440888473627 : True := trivial
theorem tw9170477692918782315 : True := trivial
theorem tw4478177076189095293 : True := trivial
theorem tw18103342009636024947 : True := trivial
theorem tw6136932545381038964 : True := trivial
theorem tw15967140613478806237 : True := trivial
theorem tw1017328040139425936 : True := trivial
theorem tw432457690288141553 : True := trivial
theorem tw1699103778626983548 : True := trivial
theorem tw17387473266821786944 : True := trivial
theorem tw13220430256171166289 : True := trivial
theorem tw7068711184596962023 : True := trivial
theorem tw4367231431732253908 : True := trivial
theorem tw1413172679324656950 : True := trivial
theorem tw9719896912496429819 : True := trivial
theorem tw5902613922787404954 : True := trivial
theorem tw9908193460736022307 : True := trivial
theorem tw16919406825032445293 : True := trivial
theorem tw8428860471423672150 : True := trivial
theorem tw9731375825926819010 : True := trivial
theorem tw1580110805410547442 : True := trivial
theorem tw10583446816852156582 : True := trivial
theorem tw10030107230732127627 : True := trivial
theorem tw12949589719889679912 : True := trivial
theorem tw8879563391730754479 : True := trivial
theorem tw250903467453971090 : True := trivial
theorem tw8268277133935991078 : True := trivial
theorem tw8242931771332617035 : True := trivial
theorem tw10024716035694756283 : True := trivial
theorem tw3941438180925939637 : True := trivial
theorem tw10404513684093684653 : True := trivial
theorem tw10246146449241189800 : True := trivial
theorem tw5130813555471234732 : True := trivial
theorem tw5505332120971382143 : True := trivial
theorem tw7512474625130614241 : True := trivial
theorem tw16259696140248634718 : True := trivial
theorem tw15089522573102190283 : True := trivial
theorem tw11917015161858427179 : True := trivial
theorem tw7382370116671421104 : True := trivial
theorem tw9748044761591592747 : True := trivial
theorem tw16154546982801380032 : True := trivial
theorem tw10292235466723388172 : True := trivial
theorem tw18166333605607142505 : True := trivial
theorem tw17895171251205151618 : True := trivial
theorem tw212345690472687942 : True := trivial
theorem tw1359830224848277088 : True := trivial
theorem tw12744807935193187038 : True := trivial
theorem tw11079593142295127227 : True := trivial
theorem tw11054480109507316185 : True := trivial
theorem tw11631947586910100387 : True := trivial
theorem tw2327210489368252092 : True := trivial
theorem tw2386827423013361158 : True := trivial
theorem tw10155235664658247307 : True := trivial
theorem tw13389116031464166691 : True := trivial
theorem tw100483095206116625 : True := trivial
theorem tw5480042469492414594 : True := trivial
theorem tw6627881031435992008 : True := trivial
theorem tw9398405308114057262 : True := trivial
theorem tw7379015992945566340 : True := trivial
theorem tw5388632664720090651 : True := trivial
theorem tw7131973826717234839 : True := trivial
theorem tw5629675986466331604 : True := trivial
theorem tw6164396464334811476 : True := trivial
theorem tw18245042118932799458 : True := trivial
theorem tw17919194246423945575 : True := trivial
theorem tw2315301623876862497 : True := trivial
theorem tw2101469004524951375 : True := trivial
theorem tw10847404155465417027 : True := trivial
theorem tw9702936160620672325 : True := trivial
theorem tw7598622570094877466 : True := trivial
theorem tw15207398651663016943 : True := trivial
theorem tw8025032847418708242 : True := trivial
theorem tw12575139184659369484 : True := trivial
theorem tw6184208073178115725 : True := trivial
theorem tw15422856539912107476 : True := trivial
theorem tw9483488259628991918 : True := trivial
theorem tw464777395874653626 : True := trivial
theorem tw1836080755315867724 : True := trivial
theorem tw17330945745186091897 : True := trivial
theorem tw1409312971732116557 : True := trivial
theorem tw4870687313549177768 : True := trivial
theorem tw1666387254794493845 : True := trivial
theorem tw1011335219593555734 : True := trivial
theorem tw5292301768408028288 : True := trivial
theorem tw10938747861014524180 : True := trivial
theorem tw6683769817339685419 : True := trivial
theorem tw162610821266807592 : True := trivial
theorem tw8609351116199087170 : True := trivial
theorem tw6965799899956892507 : True := trivial
theorem tw18093812233618175256 : True := trivial
theorem tw1222794163293265305 : True := trivial
theorem tw13409441903868389331 : True := trivial
theorem tw5054737718236178183 : True := trivial
theorem tw9763420282994701918 : True := trivial
theorem tw17672654358674132775 : True := trivial
theorem tw4360684699965382250 : True := trivial
theorem tw17893044597097874663 : True := trivial
theorem tw13267510147771200024 : True := trivial
theorem tw11032806212648032379 : True := trivial
theorem tw14906377314874228009 : True := trivial
theorem tw15042006015671813226 : True := trivial
theorem tw6931407450589930559 : True := trivial
theorem tw8112040973832200146 : True := trivial
theorem tw15910714762333108613 : True := trivial
theorem tw17491317419825422843 : True := trivial
theorem tw15936003120906949360 : True := trivial
theorem tw18343703819029505601 : True := trivial
theorem tw16694946328126371552 : True := trivial
theorem tw8959176491354863721 : True := trivial
theorem tw9132557439983319658 : True := trivial
theorem tw13783031573616600631 : True := trivial
theorem tw15220180469806662145 : True := trivial
theorem tw7023726343779634624 : True := trivial
theorem tw1331086792558400476 : True := trivial
theorem tw5511420028821071320 : True := trivial
theorem tw7152984921513172624 : True := trivial
theorem tw13315533130655954831 : True := trivial
theorem tw7880807054014371918 : True := trivial
theorem tw3309697970292668127 : True := trivial
theorem tw12614811148066621264 : True := trivial
theorem tw12127338746724423809 : True := trivial
theorem tw6140570298594658328 : True := trivial
theorem tw9741134391959003819 : True := trivial
theorem tw9496365245306024149 : True := trivial
theorem tw14553816603554493358 : True := trivial
theorem tw5009564483982726761 : True := trivial
theorem tw4383666589626881386 : True := trivial
theorem tw17234923516513369237 : True := trivial
theorem tw10949625832625181284 : True := trivial
theorem tw11709330566771433103 : True := trivial
theorem tw2480057099694739299 : True := trivial
theorem tw5976792059365374437 : True := trivial
theorem tw16722109127936396110 : True := trivial
theorem tw12070654863422294720 : True := trivial
theorem tw5657824000916062451 : True := trivial
theorem tw9406673726873002282 : True := trivial
theorem tw11402939732021071671 : True := trivial
theorem tw5608270528595127837 : True := trivial
theorem tw16713699803418581334 : True := trivial
theorem tw6555240042291301478 : True := trivial
theorem tw6411954120941647267 : True := trivial
theorem tw8516288146210602744 : True := trivial
theorem tw922143313871775805 : True := trivial
theorem tw9131607905817354932 : True := trivial
theorem tw2391449824757734642 : True := trivial
theorem tw6785817131721698500 : True := trivial
theorem tw17258206423299326598 : True := trivial
theorem tw15416985209724490359 : True := trivial
theorem tw7927469264209771579 : True := trivial
theorem tw3442329435671937591 : True := trivial
theorem tw10117440562283002822 : True := trivial
theorem tw9298403506768410418 : True := trivial
theorem tw12070051907170230399 : True := trivial
theorem tw11256106856564762260 : True := trivial
theorem tw9499510787657705874 : True := trivial
theorem tw11232374478483605306 : True := trivial
theorem tw7010584846471099517 : True := trivial
theorem tw17562767543260142214 : True := trivial
theorem tw6038821095411175016 : True := trivial
theorem tw10860895700388868024 : True := trivial
theorem tw1107084584951522822 : True := trivial
theorem tw7317836474542784337 : True := trivial
theorem tw9345676750909349944 : True := trivial
theorem tw11587034568685482758 : True := trivial
theorem tw2442259710966052079 : True := trivial
theorem tw16211521421427940678 : True := trivial
theorem tw2603259988358896889 : True := trivial
theorem tw14029546391885035639 : True := trivial
theorem tw8664936974563722654 : True := trivial
theorem tw7369741819223213686 : True := trivial
theorem tw17843490464661113860 : True := trivial
theorem tw585102452552623015 : True := trivial
theorem tw17714235663813219645 : True := trivial
theorem tw5366084841770067474 : True := trivial
theorem tw8789358453043137523 : True := trivial
theorem tw14745743045033390146 : True := trivial
theorem tw10614716105012338702 : True := trivial
theorem tw4021928978595405253 : True := trivial
theorem tw1800889605409440832 : True := trivial
theorem tw9960721518486171458 : True := trivial
theorem tw8990313861142287110 : True := trivial
theorem tw7153062008950511462 : True := trivial
theorem tw5036846961687405229 : True := trivial
theorem tw8134915037123179040 : True := trivial
theorem tw845060206244984605 : True := trivial
theorem tw17903497710992402801 : True := trivial
theorem tw13929354066492186541 : True := trivial
theorem tw10779200252408728858 : True := trivial
theorem tw3919010098100093602 : True := trivial
theorem tw1997569388931296116 : True := trivial
theorem tw17948085552500728524 : True := trivial
theorem tw17054507655720011243 : True := trivial
theorem tw18227894937965515208 : True := trivial
theorem tw5416991563250132298 : True := trivial
theorem tw7245807278231628342 : True := trivial
theorem tw11389486352061984695 : True := trivial
theorem tw1760603350576429475 : True := trivial
theorem tw3008623586974134963 : True := trivial
theorem tw16920754564084929960 : True := trivial
theorem tw519851828213033955 : True := trivial
theorem tw9617658007855726926 : True := trivial
theorem tw10491609206876299696 : True := trivial
theorem tw17975533764899295144 : True := trivial
theorem tw6804821044290156842 : True := trivial
theorem tw4111692666942324129 : True := trivial
theorem tw16868993833207775613 : True := trivial
theorem tw13893168526513508166 : True := trivial
theorem tw9184186324627900627 : True := trivial
theorem tw17336936450418997793 : True := trivial
theorem tw1848646778235469078 : True := trivial
theorem tw4402725079659364252 : True := trivial
theorem tw1600037746751723098 : True := trivial
theorem tw8458067239894703972 : True := trivial
theorem tw8226494294326810461 : True := trivial
theorem tw16858285156579221889 : True := trivial
theorem tw13770079208771991547 : True := trivial
theorem tw17739348878880393726 : True := trivial
theorem tw15790720579355451973 : True := trivial
theorem tw3452082135128663414 : True := trivial
theorem tw728884934406724761 : True := trivial
theorem tw12611767792052310623 : True := trivial
theorem tw17606422857730326317 : True := trivial
theorem tw9555612238305686254 : True := trivial
theorem tw13368278939475635651 : True := trivial
theorem tw11465210709893060100 : True := trivial
theorem tw16029623286316568529 : True := trivial
theorem tw5697089962273658580 : True := trivial
theorem tw3451239065008710300 : True := trivial
theorem tw18291419657060728153 : True := trivial
theorem tw11319097763535126812 : True := trivial
theorem tw15759970867653108152 : True := trivial
theorem tw6407587892757256292 : True := trivial
theorem tw15411387601460861337 : True := trivial
theorem tw8184699220007379433 : True := trivial
theorem tw4086058157674990017 : True := trivial
theorem tw12239354291974867115 : True := trivial
theorem tw395138700845864316 : True := trivial
theorem tw10905682514733158466 : True := trivial
theorem tw4159134105002834734 : True := trivial
theorem tw4363365295628954845 : True := trivial
theorem tw9228397985900620932 : True := trivial
theorem tw9673543361469618366 : True := trivial
theorem tw8457440626546761165 : True := trivial
theorem tw6082411064634330575 : True := trivial
theorem tw8269573656231971908 : True := trivial
theorem tw2799067240506288376 : True := trivial
theorem tw3571134770919094901 : True := trivial
theorem tw4642405928176397000 : True := trivial
theorem tw15946388913382835224 : True := trivial
theorem tw13181700845877081190 : True := trivial
theorem tw12647368939536790636 : True := trivial
theorem tw16240987189780228909 : True := trivial
theorem tw7754304195085646258 : True := trivial
theorem tw15673258824015622330 : True := trivial
theorem tw17925215291927510665 : True := trivial
theorem tw11754176132448286083 : True := trivial
theorem tw8273930003744585626 : True := trivial
theorem tw18103420901670897651 : True := trivial
theorem tw12994019391074448376 : True := trivial
theorem tw2783992281797965187 : True := trivial
theorem tw22551697357593593 : True := trivial
theorem tw3795277891434052102 : True := trivial
theorem tw18176940659606848779 : True := trivial
theorem tw7525542149764818722 : True := trivial
theorem tw6868836192036940282 : True := trivial
theorem tw11801993109049149486 : True := trivial
theorem tw5549315172176941698 : True := trivial
theorem tw8683856772340465682 : True := trivial
theorem tw6547078798241139092 : True := trivial
theorem tw9533747618267967006 : True := trivial
theorem tw7355570028127101125 : True := trivial
theorem tw3694398316872202419 : True := trivial
theorem tw6767318904944593275 : True := trivial
theorem tw10601615944963115059 : True := trivial
theorem tw7296583596125217682 : True := trivial
theorem tw10678649693572172417 : True := trivial
theorem tw11778180911958503814 : True := trivial
theorem tw14478148883734587675 : True := trivial
theorem tw12271959270614036898 : True := trivial
theorem tw2608437505485318709 : True := trivial
theorem tw15852365999677673905 : True := trivial
theorem tw18264374347568628810 : True := trivial
theorem tw4971549296188076032 : True := trivial
theorem tw17177331786930743035 : True := trivial
theorem tw7101811938992341860 : True := trivial
theorem tw7289634563603522867 : True := trivial
theorem tw17542962492245011380 : True := trivial
theorem tw17252143746492648416 : True := trivial
theorem tw17377529257436501650 : True := trivial
theorem tw12459740579856956213 : True := trivial
theorem tw6184460063843016694 : True := trivial
theorem tw14457593812595234344 : True := trivial
theorem tw5343241284826551009 : True := trivial
theorem tw2323474266016966308 : True := trivial
theorem tw6320253292602491972 : True := trivial
theorem tw11162318198679636149 : True := trivial
theorem tw7578210074245671484 : True := trivial
theorem tw6264232113106981867 : True := trivial
theorem tw18219297243305740317 : True := trivial
theorem tw4702841417184801058 : True := trivial
theorem tw17846660462469342289 : True := trivial
theorem tw15367242080415987702 : True := trivial
theorem tw2071065973214961318 : True := trivial
theorem tw11136197038861592535 : True := trivial
theorem tw18293732401869909652 : True := trivial
theorem tw11660266114150955751 : True := trivial
theorem tw5247051413645994129 : True := trivial
theorem tw6442067068224118133 : True := trivial
theorem tw15615420239508185596 : True := trivial
theorem tw3229955645248102723 : True := trivial
theorem tw10603584201595350602 : True := trivial
theorem tw11041590408114104254 : True := trivial
theorem tw14980023328507725902 : True := trivial
theorem tw12602439190401603521 : True := trivial
theorem tw2887051446865420828 : True := trivial
theorem tw10806950440038215891 : True := trivial
theorem tw1241404454085649124 : True := trivial
theorem tw4788038989552484473 : True := trivial
theorem tw2788664435532181463 : True := trivial
theorem tw5190246844813560578 : True := trivial
theorem tw18103474030473559431 : True := trivial
theorem tw14852329139284432860 : True := trivial
theorem tw14103535550066685397 : True := trivial
theorem tw26425463804135960 : True := trivial
theorem tw16124447700955497774 : True := trivial
theorem tw3350844169311001129 : True := trivial
theorem tw8683543433012000357 : True := trivial
theorem tw15683763237869141255 : True := trivial
theorem tw16432713993328977331 : True := trivial
theorem tw4297731678662094536 : True := trivial
theorem tw12629568148972539762 : True := trivial
theorem tw5283464899586487735 : True := trivial
theorem tw876933089483189297 : True := trivial
theorem tw7028611270464810887 : True := trivial
theorem tw16011055738799735888 : True := trivial
theorem tw1194904439430580092 : True := trivial
theorem tw10264135568141901301 : True := trivial
theorem tw12113243949977362033 : True := trivial
theorem tw9153386212771759811 : True := trivial
theorem tw12832683148521936107 : True := trivial
theorem tw10879034167726328663 : True := trivial
theorem tw6578402527460240241 : True := trivial
theorem tw16064382804478563927 : True := trivial
theorem tw6394381022753523788 : True := trivial
theorem tw4068527845204499245 : True := trivial
theorem tw17062030032774818151 : True := trivial
theorem tw6305734824756694309 : True := trivial
theorem tw2252305205657439004 : True := trivial
theorem tw2708950531961675432 : True := trivial
theorem tw4494801613693538912 : True := trivial
theorem tw10424393626065333798 : True := trivial
theorem tw11551083187376567056 : True := trivial
theorem tw1439246655266547700 : True := trivial
theorem tw6438293893037913957 : True := trivial
theorem tw14685462170515437407 : True := trivial
theorem tw3429492842335990350 : True := trivial
theorem tw12023040214023829324 : True := trivial
end Mine.hd
set_option Elab.async true in
theorem Mine.hd : True := by
  let rec use : _ → PySem.Challenge.rw_pb0424_01.Holds := by
    intro h
    refine' (fun {α : Prop} (_ : α) => ?main) ?hc
    rotate_left 2
    exact h
    w_on
    o_law
    k_head
    case hw => w_witness2
  trivial
set_option compiler.extract_closed false
set_option rowWalk.seconds 0
set_option linter.all false
set_option genSizeOf false
namespace Mine
local macro_rules | `(tactic| walk_at $s:str) => if ["CompEnd", "CompSrc", "CompSrcT", "UnrEndW", "assign Tuple", "binaryOp BitAnd int int", "binaryOp FloorDiv int int", "binaryOp Mult int int", "binaryOp RShift int int", "call builtin:dict.items", "call builtin:len", "call builtin:list.append", "call builtin:sorted", "call ref", "call type:dict", "call type:enumerate", "compareOp Eq", "compareOp Eq ref ref", "compareOp In ref ref", "compareOp In str ref", "compareOp NotEq ref ref", "compareOp NotIn str ref", "eval Attribute Name", "eval ListComp", "eval Name", "eval Tuple", "exec For Name Attribute cons nil", "exec For Name Call cons nil", "exec For Name Name cons nil", "exec For Name Subscript cons nil", "exec For Tuple Call cons nil", "exec For Tuple Tuple cons nil", "exec If", "exec Raise some none", "execs cons", "execs cons Assign cons", "getItem ref str", "getMethod ref", "last pyIter ref", "newList", "newTuple", "setAttr ref", "setItem ref int", "setItem ref ref", "setItem ref str", "spliced", "storeName", "subscriptTail", "subscriptTail Name Constant ref int", "subscriptTail Name Name ref int", "subscriptTail Name UnaryOp ref int", "subscriptTail Subscript Name Name Name ref int", "unpackItems ref"].contains s.getString then `(tactic| k_extra $(Lean.Syntax.mkStrLit (s.getString ++ "!"))) else Lean.Macro.throwUnsupported
local macro_rules | `(tactic| k_updF) => `(tactic| k_extra "k_updF")
local macro_rules | `(tactic| k_steps) => `(tactic| k_extra "k_steps")
local macro_rules | `(tactic| k_mem) => `(tactic| k_extra "k_mem")
local macro_rules | `(tactic| k_ne) => `(tactic| k_extra "k_ne")
local macro_rules | `(tactic| k_all) => `(tactic| k_extra "k_all")
local macro_rules | `(tactic| k_room) => `(tactic| k_extra "k_room")
local macro_rules | `(tactic| k_units) => `(tactic| k_extra "k_units")
local macro_rules | `(tactic| passes_own) => `(tactic| k_extra "passes_own")
local macro_rules | `(tactic| k_inst) => `(tactic| k_extra "k_inst")
local macro_rules | `(tactic| is_list) => `(tactic| k_extra "is_list")
local macro_rules | `(tactic| kt_fact) => `(tactic| k_extra "kt_fact")
local macro_rules | `(tactic| k_lt $h) => `(tactic| skip)
local macro_rules | `(tactic| k_lt2 $h) => `(tactic| skip)
theorem topoff : True := by have := @Mine.hd.use; w_top off; trivial
-- N1
noncomputable def fillIt (_ : Params → Frag) (_ : OpenLaw) : Prop := True
theorem filled : fillIt Mine.hd.heap_1_39 PySem.Challenge.rw_pb0424_01 := by k_fill; trivial
noncomputable abbrev PG : Program := PySem.Challenge.rw_pb0424_01.row.prog
noncomputable abbrev lo5 : List Str := looseW Mine.hd.view_1_40 [Str.ofString "MintError", Str.ofString "Align", Str.ofString "Org", Str.ofString "Space", Str.ofString "Leb"]
noncomputable abbrev Led := List (Addr × Obj)
noncomputable abbrev SMap := Str → Option Value
noncomputable abbrev setF (x : Str) (v : Value) (m : SMap) : SMap := fun y => if y = x then some v else m y
noncomputable abbrev noF : SMap := fun _ => none
noncomputable abbrev excObjD (C t d : Addr) : Obj := { cls := .ref C, dict := some d, data := .fields #[.ref t, .none, .none, .none, .bool false, .none] }
structure Amb (w : World) (A A₀ : Around) (env : Env) (outer : List Env) (base g : Heap) (L : Addr) (mg mb : SMap) (mean : ExcName → Option Value) : Prop where
  B : Below A₀ base outer g
  X : (Mine.hd.heap_1_39 w.params).In g
  T : Top Mine.hd.view_1_40 lo5 mean mg mb g
  hA : A.frames = some (env :: outer)
  hf : env.frame = some L
  hk : env.scope.kind = .function
  hh : A.handled = none
noncomputable def Lt (news tl : Led) : Prop := ∀ q ∈ news, ∀ p ∈ tl, q.1 < p.1
noncomputable def Sub (a b : Led) : Prop := ∀ p ∈ a, p ∈ b
noncomputable def Ct (w : World) (nd nu : Nat) (f : Addr) (args : List Value) (news : Led) (Post : Led → Value → Prop) (exc : Prop) : Prop :=
  ∀ (A A₀ : Around) (env : Env) (outer : List Env) (base g : Heap) (L : Addr) (mg mb : SMap) (mean : ExcName → Option Value) (m : SMap) (h : Heap) (G : Array GenState) (D : Drawn) (tk : Nat) (O : OsState) (Q E : Value → Shared → Prop),
    Amb w A A₀ env outer base g L mg mb mean → Fr g L h m → News g L h news → A.depth + nd < recursionLimit → A.units + nu < cLine →
    (∀ r tl h' tk', Fr g L h' m → News g L h' (tl ++ news) → Lt news tl → Post tl r → Q r ⟨h', G, D, tk', O⟩) →
    (exc → ∀ e t vs h' tk' g', Fr g L g' m → RaisedS base g' (env :: outer) e (.ref 83) t vs news h' → g'.UpToSlots h' → E (.ref e) ⟨h', G, D, tk', O⟩) →
    wpAny (model PG w) A (call (.ref f) args) Q E ⟨h, G, D, tk, O⟩
theorem ar_r0 {a n c : Nat} (h : a + n < c) : a < c := Nat.lt_of_le_of_lt (Nat.le_add_right _ _) h
theorem ar_rk {a n k c : Nat} (h : a + (n + k) < c) : a + k + n < c := by rw [Nat.add_assoc, Nat.add_comm k]; exact h
noncomputable def okSc (sc : Scope) (xs : List Str) : Bool := !sc.isCoroutine && (!sc.isGenerator && (sc.kind == .function && (sc.names.all (fun x => x.2 != .cell) && (xs.all (fun x => decide (sc.names.lookup x = some .local)) && decide xs.Nodup))))
noncomputable def frOf : List Str → List Value → SMap
  | x :: xs, v :: vs => fun y => if y = x then some v else frOf xs vs y
  | _, _ => fun _ => none
theorem news_sub {h₀ h : Heap} {L : Addr} {all l : Led} (N : News h₀ L h all) (s : Sub l all) : News h₀ L h l := fun p hp => N p (s p hp)
/-- what a walk through a body is given -/
noncomputable def Body (w : World) (nd nu : Nat) (qual : Str) (scope : Scope) (f : Addr) (cdv : Value) (body : List Stmt) (fm : SMap) (led news : Led) (PR : Led → Value → Prop) (PN : Led → Prop) (exc : Prop) : Prop :=
  ∀ (dp un : Nat) (fr : Option (List Env)) (gd : Option (List Code)) (A₀ : Around) (outer : List Env) (base g : Heap) (L : Addr) (mg mb : SMap) (mean : ExcName → Option Value) (h : Heap) (G : Array GenState) (D : Drawn) (tk : Nat) (O : OsState) (q : Flow → Shared → Prop) (e : Value → Shared → Prop),
    Amb w (⟨none, dp, fr, gd, un⟩ : Around) A₀ (envOf qual scope L f cdv) outer base g L mg mb mean → PassesOwn (model PG w) (⟨none, dp, fr, gd, un⟩ : Around) (envOf qual scope L f cdv) e → Below A₀ base outer g → (Mine.hd.heap_1_39 w.params).In g → Top Mine.hd.view_1_40 lo5 mean mg mb g → Fr g L h fm → News g L h led → dp + nd < recursionLimit → un + nu < cLine →
    (∀ r tl h' tk' m', Fr g L h' m' → News g L h' (tl ++ news) → Lt news tl → PR tl r → q (.ret r) ⟨h', G, D, tk', O⟩) →
    (∀ tl h' tk' m', Fr g L h' m' → News g L h' (tl ++ news) → Lt news tl → PN tl → q .next ⟨h', G, D, tk', O⟩) →
    (exc → ∀ x t vs led h' tk' g' m', Sub news led → Fr g L g' m' → RaisedS base g' (envOf qual scope L f cdv :: outer) x (.ref 83) t vs led h' → g'.UpToSlots h' → e (.ref x) ⟨h', G, D, tk', O⟩) →
    (exc → ∀ x t d vs n tl led h' tk' m', Sub news led → Fr g L h' m' → News g L h' (tl ++ led) → (x, excObjD 83 t d) ∈ tl → (t, ({ cls := .type "tuple", data := .seq (List.toArray vs) n } : Obj)) ∈ tl → Lt led tl → e (.ref x) ⟨h', G, D, tk', O⟩) →
    wpAny (model PG w) (⟨none, dp, fr, gd, un⟩ : Around) (execs body (envOf qual scope L f cdv)) q e ⟨h, G, D, tk, O⟩
section
variable {M : Model} {A : Around} {E : Value → Shared → Prop} {s' : Shared} {base g : Heap} {outer : List Env} {L C a e t d : Addr} {m : Str → Option Value} {name : Str} {scope : Scope} {cd : Value} {Q : Unit → Shared → Prop} {tl news : List (Addr × Obj)} {vs : List Value} {n : Nat}
theorem leave_E (K : Below A base outer g) (F : Fr g L s'.heap m) (N : News g L s'.heap (tl ++ news)) (he : (e, excObjD C t d) ∈ tl) (ht : (t, ({ cls := .type "tuple", data := .seq vs.toArray n } : Obj)) ∈ tl) (lt : ∀ q ∈ news, ∀ p ∈ tl, q.1 < p.1)
    (hQ : ∀ h', RaisedS base g outer e (.ref C) t vs news h' → g.UpToSlots h' → Q () { s' with heap := h' }) (hk : scope.kind = .function) :
    wpAny M (A.deeper (envOf name scope L a cd)) (leaving (envOf name scope L a cd) (.ref e)) Q E s' := by
  have K' := K.push (name := name) (a := a) (cd := cd) F hk
  have Ne := N _ (List.mem_append_left _ he)
  have Nt := N _ (List.mem_append_left _ ht)
  let fs := (envOf name scope L a cd :: outer).filterMap (·.frame)
  have hin : ∀ env ∈ (envOf name scope L a cd :: outer), ∀ b, env.frame = some b → b ∈ fs ++ [e, t] := fun env he b hb => List.mem_append_left _ (List.mem_filterMap.mpr ⟨env, he, hb⟩)
  have gone : ∀ b, g.get? b = none → base.get? b = none := fun b hb => fresh_of_stays K.stays hb
  have st : base.StaysIn (hideAll s'.heap (fs ++ [e, t])) := fun b o q => hideAll_get _ (K'.stays b o q) fun hm => by
    rcases List.mem_append.mp hm with hm | hm
    · rw [(K'.frames.mem hm).1] at q; cases q
    · rcases List.mem_cons.mp hm with rfl | hm
      · rw [gone _ Ne.2.2] at q; cases q
      · rw [List.mem_singleton.mp hm, gone _ Nt.2.2] at q; cases q
  have hl : ∀ q ∈ news, (hideAll s'.heap (fs ++ [e, t])).get? q.1 = some q.2 ∧ g.get? q.1 = none ∧ base.get? q.1 = none := fun q hq => by
    have Nq := N q (List.mem_append_right _ hq)
    refine ⟨hideAll_get _ Nq.1 fun hm => ?_, Nq.2.2, gone _ Nq.2.2⟩
    rcases List.mem_append.mp hm with hm | hm
    · obtain ⟨env, he', hf⟩ := List.mem_filterMap.mp hm
      rcases List.mem_cons.mp he' with rfl | he'
      · exact Nq.2.1 (Option.some.inj hf).symm
      · obtain ⟨o, ho, _⟩ := (K.frames.mem (List.mem_filterMap.mpr ⟨env, he', hf⟩)).2
        rw [Nq.2.2] at ho; cases ho
    · rcases List.mem_cons.mp hm with h1 | hm
      · exact absurd (lt q hq _ he) (by rw [h1]; exact Nat.lt_irrefl _)
      · exact absurd (lt q hq _ ht) (by rw [List.mem_singleton.mp hm]; exact Nat.lt_irrefl _)
  have sg : ∀ b o, g.get? b = some o → b ∉ outer.filterMap (·.frame) → (hideAll s'.heap (fs ++ [e, t])).get? b = some o := fun b o q nm => hideAll_get _ (F.keep b o q) fun hm => by
    rcases List.mem_append.mp hm with hm | hm
    · rcases kts_mem hm with z | z
      · rw [z, kts_self F] at q; cases q
      · exact nm z
    · rcases List.mem_cons.mp hm with h1 | hm
      · rw [h1, Ne.2.2] at q; cases q
      · rw [List.mem_singleton.mp hm, Nt.2.2] at q; cases q
  have be : (hideAll s'.heap (fs ++ [e, t])).get? e = none := hideAll_none _ (List.mem_append_right _ (List.mem_cons_self ..))
  have bt : (hideAll s'.heap (fs ++ [e, t])).get? t = none := hideAll_none _ (List.mem_append_right _ (List.mem_cons_of_mem _ (List.mem_cons_self ..)))
  refine wpAny_leaving_firstW (a0 := .ref t) K'.stack (funFrames_hide K'.frames hin) rfl Ne.1 (fun b o q => of_hideAll _ q) be rfl rfl rfl fun h' hL => ?_
  obtain ⟨k1, ⟨_, _, k2⟩, k3, k4⟩ := hL
  exact hQ h' ⟨⟨_, st, sg, hl, ⟨k1, be, k2, k3⟩, bt⟩, Heap.TupAt.of_slots ⟨_, _, Nt.1, rfl, rfl⟩ k4⟩ ((Heap.UpToSlots.of_keeps F.keep).trans k4)
end
theorem raised_sub {base G : Heap} {l : List Env} {e t : Addr} {cls : Value} {vs : List Value} {nw nw' : Led} {h : Heap} (R : RaisedS base G l e cls t vs nw h) (s : Sub nw' nw) : RaisedS base G l e cls t vs nw' h := by
  obtain ⟨⟨B, hB, hBG, hl, hf, hn⟩, ht⟩ := R
  exact ⟨⟨B, hB, hBG, fun q hq => hl q (s q hq), hf, hn⟩, ht⟩
section
variable {w : World} {nd nu : Nat} {f : Addr} {args : List Value} {news : Led} {Post : Led → Value → Prop} {exc : Prop} {name qual : Str} {params : Arguments} {body : List Stmt} {scope : Scope} {dV kV doc pm cdv ct oc : Value} {an od : Option Addr} {osl : Array (Option Value)} {fm : SMap}
theorem ct_openG {binds : List (Str × Value)} {nd' nu' : Nat}
    (ho : (Mine.hd.heap_1_39 w.params).lookup f = some ⟨oc, od, .func (fnOf name qual params body scope dV kV doc pm an cdv ct), osl⟩) (hcd : codeIn (Mine.hd.heap_1_39 w.params) cdv qual = true)
    (hbind : ∀ s, (Mine.hd.heap_1_39 w.params).In s.heap → BindsTo s (fnOf name qual params body scope dV kV doc pm an cdv ct) ⟨args, []⟩ binds) (hloc : ∀ y ∈ binds, scope.names.lookup y.1 = some .local)
    (hco : scope.isCoroutine = false) (hgen : scope.isGenerator = false) (hk : scope.kind = .function) (hcell : ∀ x ∈ scope.names, x.2 ≠ .cell)
    (hfm : (fun y => binds.reverse.lookup y) = fm) (hnd : nd' = nd + 1) (hnu : nu' = nu + 3)
    (h : Body w nd nu qual scope f cdv body fm news news Post (fun tl => Post tl .none) exc) : Ct w nd' nu' f args news Post exc := by
  subst hfm hnd hnu
  unfold Body at h
  unfold Ct
  intro A A₀ env outer base g₀ L₀ mg mb mean m hp G D tk O Q E c F N hd9 hu9 hret hexc
  refine wpAny_call ?_
  refine code_def c.B F c.X N c.T c.hA c.hf c.hk ho hcd (by first | exact ar_r0 hd9 | omega) (hbind ⟨hp, G, D, tk, O⟩ (c.X.keeps F.keep)) hloc ?_ hco hgen hk hcell
  intro g' L' h' FG F' N' B' X' T'
  have hA' : (A.deeper (envOf qual scope L' f cdv)).frames = some (envOf qual scope L' f cdv :: env :: outer) := Around.frames_deeper c.hA
  obtain ⟨hh0, dp, fr, gd, un⟩ := A
  obtain rfl : hh0 = none := c.hh
  refine h (dp + 1) (un + 3) _ _ ⟨none, dp, fr, gd, un⟩ (env :: outer) base g' L' mg mb mean h' G D (tk + binds.length) O _ (fun e s' => wpAny (model PG w) ((⟨none, dp, fr, gd, un⟩ : Around).deeper (envOf qual scope L' f cdv)) (leaving (envOf qual scope L' f cdv) e) (fun _ s'' => E e s'') (fun e' s'' => E e' s'') s') ⟨B', X', T', hA', rfl, hk, rfl⟩ (by passes_own) B' X' T' F' N' ?_ ?_ ?_ ?_ ?_ ?_
  · first | exact ar_rk hd9 | exact ar_rk (k := 2) hd9 | (dsimp only at hd9; omega)
  · first | exact ar_rk hu9 | exact ar_rk (k := 4) hu9 | (dsimp only at hu9; omega)
  · intro r tl h2 tk2 m2 F2 N2 lt P
    exact leaveK_ F2 N2 fun F3 N3 => hret r tl h2 tk2 F3 N3 lt P
  · intro tl h2 tk2 m2 F2 N2 lt P
    exact leaveK_ F2 N2 fun F3 N3 => hret .none tl h2 tk2 F3 N3 lt P
  · intro hx x t vs led h2 tk2 g2 m2 sub F2 R2 U2
    exact leave_onS B' F2 R2 U2 fun h8 R8 _ U8 => hexc hx _ _ _ _ _ _ FG (raised_sub R8 sub) U8
  · intro hx x t d vs n tl led h2 tk2 m2 sub F2 N2 he ht lt
    exact leave_E B' F2 N2 he ht lt (fun h8 R8 U8 => hexc hx _ _ _ _ _ _ FG (raised_sub R8 sub) U8) hk
end
theorem ct_mkG {w : World} {nd nu nd' nu' : Nat} {C fI : Addr} {args : List Value} {news : Led} {Post : Led → Value → Prop} {name qual : Str} {params : Arguments} {body : List Stmt} {scope : Scope} {dV kV doc pm cdv ct oc : Value} {an od : Option Addr} {osl : Array (Option Value)} {fm : Addr → SMap} {binds : Addr → List (Str × Value)}
    {led0 : Addr → Addr → Led} (hcall : ∀ {A : Around} {Q E : Value → Shared → Prop} {g : Heap} {L : Addr} {m : SMap} {s : Shared}, Fr g L s.heap m → (Mine.hd.heap_1_39 w.params).In g → News g L s.heap news →
      (∀ x dx h', Fr g L h' m → News g L h' (led0 x dx ++ news) → (∀ p ∈ news, p.1 < dx) → dx < x →
        codeAny (model PG w) (A.under (.builtin "type.__call__" ⟨.ref C :: args, []⟩)) (.call (.ref fI) ⟨.ref x :: args, []⟩) (InitBack x fun r s' => match r with | .ok (.ret v) => Q v s' | .ok _ => False | .error e => E e s') { s with heap := h' }) →
      wpAny (model PG w) A (call (.ref C) args) Q E s)
    (ho : (Mine.hd.heap_1_39 w.params).lookup fI = some ⟨oc, od, .func (fnOf name qual params body scope dV kV doc pm an cdv ct), osl⟩) (hcd : codeIn (Mine.hd.heap_1_39 w.params) cdv qual = true)
    (hbind : ∀ x s, (Mine.hd.heap_1_39 w.params).In s.heap → BindsTo s (fnOf name qual params body scope dV kV doc pm an cdv ct) ⟨.ref x :: args, []⟩ (binds x)) (hloc : ∀ x, ∀ y ∈ binds x, scope.names.lookup y.1 = some .local)
    (hco : scope.isCoroutine = false) (hgen : scope.isGenerator = false) (hk : scope.kind = .function) (hcell : ∀ x ∈ scope.names, x.2 ≠ .cell)
    (hfm : ∀ x, (fun y => (binds x).reverse.lookup y) = fm x) (hnd : nd' = nd + 2) (hnu : nu' = nu + 4)
    (h : ∀ x dx : Addr, (∀ p ∈ news, p.1 < dx) → @LT.lt Nat _ dx x → Body w nd nu qual scope fI cdv body (fm x) (led0 x dx ++ news) news (fun tl r => r = .none ∧ Post tl (.ref x)) (fun tl => Post tl (.ref x)) False) : Ct w nd' nu' C args news Post False := by
  subst hnd hnu
  unfold Body at h
  unfold Ct
  intro A A₀ env outer base g₀ L₀ mg mb mean m hp G D tk O Q E c F N hd9 hu9 hret hexc
  refine hcall F c.X N ?_
  intro x dx h1 F1 N1 l1 l2
  have hU : (A.under (.builtin "type.__call__" ⟨.ref C :: args, []⟩)).frames = some (env :: outer) := c.hA
  refine code_def c.B F1 c.X N1 c.T hU c.hf c.hk ho hcd ?_ (hbind x _ (c.X.keeps F1.keep)) (hloc x) ?_ hco hgen hk hcell
  · show A.depth + 1 < _; omega
  intro g' L' h' FG F' N' B' X' T'
  have hA' : ((A.under (.builtin "type.__call__" ⟨.ref C :: args, []⟩)).deeper (envOf qual scope L' fI cdv)).frames = some (envOf qual scope L' fI cdv :: env :: outer) := Around.frames_deeper hU
  rw [hfm] at F'
  obtain ⟨hh0, dp, fr, gd, un⟩ := A
  obtain rfl : hh0 = none := c.hh
  refine h x dx l1 l2 (dp + 1 + 1) (un + 1 + 3) _ _ ((⟨none, dp, fr, gd, un⟩ : Around).under (.builtin "type.__call__" ⟨.ref C :: args, []⟩)) (env :: outer) base g' L' mg mb mean h' G D (tk + (binds x).length) O _ (fun e s' => wpAny (model PG w) (((⟨none, dp, fr, gd, un⟩ : Around).under (.builtin "type.__call__" ⟨.ref C :: args, []⟩)).deeper (envOf qual scope L' fI cdv)) (leaving (envOf qual scope L' fI cdv) e) _ _ s') ⟨B', X', T', hA', rfl, hk, rfl⟩ (by passes_own) B' X' T' F' N' ?_ ?_ ?_ ?_ nofun nofun
  · first | exact ar_rk hd9 | exact ar_rk (k := 2) hd9 | (dsimp only at hd9; omega)
  · first | exact ar_rk hu9 | exact ar_rk (k := 4) hu9 | (dsimp only at hu9; omega)
  · rintro r tl h2 tk2 m2 F2 N2 lt ⟨rfl, P⟩
    exact leaveK_ F2 N2 fun F3 N3 => ⟨rfl, hret _ tl h2 tk2 F3 N3 lt P⟩
  · intro tl h2 tk2 m2 F2 N2 lt P
    exact leaveK_ F2 N2 fun F3 N3 => ⟨rfl, hret _ tl h2 tk2 F3 N3 lt P⟩
theorem okSc_spec {sc : Scope} {xs : List Str} (h : okSc sc xs = true) : sc.isCoroutine = false ∧ sc.isGenerator = false ∧ sc.kind = .function ∧ (∀ x ∈ sc.names, x.2 ≠ .cell) ∧ (∀ x ∈ xs, sc.names.lookup x = some .local) ∧ xs.Nodup := by
  unfold okSc at h
  simp only [Bool.and_eq_true, Bool.not_eq_true', List.all_eq_true, decide_eq_true_eq, beq_iff_eq, bne_iff_ne, ne_eq] at h
  exact ⟨h.1, h.2.1, h.2.2.1, h.2.2.2.1, h.2.2.2.2.1, h.2.2.2.2.2⟩
theorem lk_cons {x y : Str} {v : Value} {l : List (Str × Value)} : ((x, v) :: l).lookup y = if y = x then some v else l.lookup y := by
  by_cases h : y = x
  · rw [if_pos h, List.lookup_cons, h]; simp
  · rw [if_neg h, List.lookup_cons]
    have : (y == x) = false := by simpa using h
    rw [this]
section
variable {w : World} {nd nu nd' nu' : Nat} {f : Addr} {news : Led} {Post : Led → Value → Prop} {exc : Prop} {name qual : Str} {body : List Stmt} {scope : Scope} {dV kV doc pm cdv ct oc : Value} {an od : Option Addr} {osl : Array (Option Value)}
  {x1 x2 x3 x4 x5 : Str} {n1 n2 n3 n4 n5 : Option Expr} {p1 p2 p3 p4 p5 : Pos} {v1 v2 v3 v4 v5 : Value}
theorem ct_open1 (ho : (Mine.hd.heap_1_39 w.params).lookup f = some ⟨oc, od, .func (fnOf name qual ⟨[], [⟨x1, n1, p1⟩], none, [], [], none, []⟩ body scope dV kV doc pm an cdv ct), osl⟩) (hcd : codeIn (Mine.hd.heap_1_39 w.params) cdv qual = true)
    (hs : okSc scope [x1] = true) (hb : bindArgs (fnOf name qual ⟨[], [⟨x1, n1, p1⟩], none, [], [], none, []⟩ body scope dV kV doc pm an cdv ct) ⟨[v1], []⟩ = pure [(x1, v1)]) (hnd : nd' = nd + 1) (hnu : nu' = nu + 3) (h : Body w nd nu qual scope f cdv body (setF x1 v1 noF) news news Post (fun tl => Post tl .none) exc) : Ct w nd' nu' f [v1] news Post exc := by
  obtain ⟨c1, c2, c3, c4, c5, c6⟩ := okSc_spec hs
  refine ct_openG (binds := [(x1, v1)]) ho hcd (fun s _ => BindsTo.of_eq hb) (fun y hy => c5 _ ?_) c1 c2 c3 c4 ?_ hnd hnu h
  · simpa using List.mem_map_of_mem (f := Prod.fst) hy
  · funext y; simp only [List.reverse_cons, List.reverse_nil, List.nil_append, List.cons_append, lk_cons, List.lookup_nil, setF, noF]
theorem ct_open2 (ho : (Mine.hd.heap_1_39 w.params).lookup f = some ⟨oc, od, .func (fnOf name qual ⟨[], [⟨x1, n1, p1⟩, ⟨x2, n2, p2⟩], none, [], [], none, []⟩ body scope dV kV doc pm an cdv ct), osl⟩) (hcd : codeIn (Mine.hd.heap_1_39 w.params) cdv qual = true)
    (hs : okSc scope [x1, x2] = true) (hb : bindArgs (fnOf name qual ⟨[], [⟨x1, n1, p1⟩, ⟨x2, n2, p2⟩], none, [], [], none, []⟩ body scope dV kV doc pm an cdv ct) ⟨[v1, v2], []⟩ = pure [(x1, v1), (x2, v2)]) (hnd : nd' = nd + 1) (hnu : nu' = nu + 3) (h : Body w nd nu qual scope f cdv body (setF x2 v2 (setF x1 v1 noF)) news news Post (fun tl => Post tl .none) exc) : Ct w nd' nu' f [v1, v2] news Post exc := by
  obtain ⟨c1, c2, c3, c4, c5, c6⟩ := okSc_spec hs
  refine ct_openG (binds := [(x1, v1), (x2, v2)]) ho hcd (fun s _ => BindsTo.of_eq hb) (fun y hy => c5 _ ?_) c1 c2 c3 c4 ?_ hnd hnu h
  · simpa using List.mem_map_of_mem (f := Prod.fst) hy
  · funext y; simp only [List.reverse_cons, List.reverse_nil, List.nil_append, List.cons_append, lk_cons, List.lookup_nil, setF, noF]
theorem ct_open3 (ho : (Mine.hd.heap_1_39 w.params).lookup f = some ⟨oc, od, .func (fnOf name qual ⟨[], [⟨x1, n1, p1⟩, ⟨x2, n2, p2⟩, ⟨x3, n3, p3⟩], none, [], [], none, []⟩ body scope dV kV doc pm an cdv ct), osl⟩) (hcd : codeIn (Mine.hd.heap_1_39 w.params) cdv qual = true)
    (hs : okSc scope [x1, x2, x3] = true) (hb : bindArgs (fnOf name qual ⟨[], [⟨x1, n1, p1⟩, ⟨x2, n2, p2⟩, ⟨x3, n3, p3⟩], none, [], [], none, []⟩ body scope dV kV doc pm an cdv ct) ⟨[v1, v2, v3], []⟩ = pure [(x1, v1), (x2, v2), (x3, v3)]) (hnd : nd' = nd + 1) (hnu : nu' = nu + 3) (h : Body w nd nu qual scope f cdv body (setF x3 v3 (setF x2 v2 (setF x1 v1 noF))) news news Post (fun tl => Post tl .none) exc) : Ct w nd' nu' f [v1, v2, v3] news Post exc := by
  obtain ⟨c1, c2, c3, c4, c5, c6⟩ := okSc_spec hs
  refine ct_openG (binds := [(x1, v1), (x2, v2), (x3, v3)]) ho hcd (fun s _ => BindsTo.of_eq hb) (fun y hy => c5 _ ?_) c1 c2 c3 c4 ?_ hnd hnu h
  · simpa using List.mem_map_of_mem (f := Prod.fst) hy
  · funext y; simp only [List.reverse_cons, List.reverse_nil, List.nil_append, List.cons_append, lk_cons, List.lookup_nil, setF, noF]
theorem ct_open4 (ho : (Mine.hd.heap_1_39 w.params).lookup f = some ⟨oc, od, .func (fnOf name qual ⟨[], [⟨x1, n1, p1⟩, ⟨x2, n2, p2⟩, ⟨x3, n3, p3⟩, ⟨x4, n4, p4⟩], none, [], [], none, []⟩ body scope dV kV doc pm an cdv ct), osl⟩) (hcd : codeIn (Mine.hd.heap_1_39 w.params) cdv qual = true)
    (hs : okSc scope [x1, x2, x3, x4] = true) (hb : bindArgs (fnOf name qual ⟨[], [⟨x1, n1, p1⟩, ⟨x2, n2, p2⟩, ⟨x3, n3, p3⟩, ⟨x4, n4, p4⟩], none, [], [], none, []⟩ body scope dV kV doc pm an cdv ct) ⟨[v1, v2, v3, v4], []⟩ = pure [(x1, v1), (x2, v2), (x3, v3), (x4, v4)]) (hnd : nd' = nd + 1) (hnu : nu' = nu + 3) (h : Body w nd nu qual scope f cdv body (setF x4 v4 (setF x3 v3 (setF x2 v2 (setF x1 v1 noF)))) news news Post (fun tl => Post tl .none) exc) : Ct w nd' nu' f [v1, v2, v3, v4] news Post exc := by
  obtain ⟨c1, c2, c3, c4, c5, c6⟩ := okSc_spec hs
  refine ct_openG (binds := [(x1, v1), (x2, v2), (x3, v3), (x4, v4)]) ho hcd (fun s _ => BindsTo.of_eq hb) (fun y hy => c5 _ ?_) c1 c2 c3 c4 ?_ hnd hnu h
  · simpa using List.mem_map_of_mem (f := Prod.fst) hy
  · funext y; simp only [List.reverse_cons, List.reverse_nil, List.nil_append, List.cons_append, lk_cons, List.lookup_nil, setF, noF]
theorem ct_open5 (ho : (Mine.hd.heap_1_39 w.params).lookup f = some ⟨oc, od, .func (fnOf name qual ⟨[], [⟨x1, n1, p1⟩, ⟨x2, n2, p2⟩, ⟨x3, n3, p3⟩, ⟨x4, n4, p4⟩, ⟨x5, n5, p5⟩], none, [], [], none, []⟩ body scope dV kV doc pm an cdv ct), osl⟩) (hcd : codeIn (Mine.hd.heap_1_39 w.params) cdv qual = true)
    (hs : okSc scope [x1, x2, x3, x4, x5] = true) (hb : bindArgs (fnOf name qual ⟨[], [⟨x1, n1, p1⟩, ⟨x2, n2, p2⟩, ⟨x3, n3, p3⟩, ⟨x4, n4, p4⟩, ⟨x5, n5, p5⟩], none, [], [], none, []⟩ body scope dV kV doc pm an cdv ct) ⟨[v1, v2, v3, v4, v5], []⟩ = pure [(x1, v1), (x2, v2), (x3, v3), (x4, v4), (x5, v5)]) (hnd : nd' = nd + 1) (hnu : nu' = nu + 3) (h : Body w nd nu qual scope f cdv body (setF x5 v5 (setF x4 v4 (setF x3 v3 (setF x2 v2 (setF x1 v1 noF))))) news news Post (fun tl => Post tl .none) exc) : Ct w nd' nu' f [v1, v2, v3, v4, v5] news Post exc := by
  obtain ⟨c1, c2, c3, c4, c5, c6⟩ := okSc_spec hs
  refine ct_openG (binds := [(x1, v1), (x2, v2), (x3, v3), (x4, v4), (x5, v5)]) ho hcd (fun s _ => BindsTo.of_eq hb) (fun y hy => c5 _ ?_) c1 c2 c3 c4 ?_ hnd hnu h
  · simpa using List.mem_map_of_mem (f := Prod.fst) hy
  · funext y; simp only [List.reverse_cons, List.reverse_nil, List.nil_append, List.cons_append, lk_cons, List.lookup_nil, setF, noF]
end
section
variable {w : World} {nd nu nd' nu' : Nat} {C fI : Addr} {args : List Value} {news : Led} {Post : Led → Value → Prop} {name qual : Str} {body : List Stmt} {scope : Scope} {dV kV doc pm cdv ct oc : Value} {an od : Option Addr} {osl : Array (Option Value)} {ds : List Expr}
  {x1 x2 x3 x4 x5 : Str} {n1 n2 n3 n4 n5 : Option Expr} {p1 p2 p3 p4 p5 : Pos} {v2 v3 v4 v5 : Value}
theorem ct_cls1 (hm : makesIn (Mine.hd.heap_1_39 w.params) C = true) (hi : findIn (Mine.hd.heap_1_39 w.params) (.ref C) "__init__" = some (some (.ref fI))) (hf : isFn (Mine.hd.heap_1_39 w.params) (.ref fI) = true)
    (ho : (Mine.hd.heap_1_39 w.params).lookup fI = some ⟨oc, od, .func (fnOf name qual ⟨[], [⟨x1, n1, p1⟩], none, [], [], none, ds⟩ body scope dV kV doc pm an cdv ct), osl⟩) (hcd : codeIn (Mine.hd.heap_1_39 w.params) cdv qual = true)
    (hs : okSc scope [x1] = true) (hb : ∀ x s, (Mine.hd.heap_1_39 w.params).In s.heap → BindsTo s (fnOf name qual ⟨[], [⟨x1, n1, p1⟩], none, [], [], none, ds⟩ body scope dV kV doc pm an cdv ct) ⟨.ref x :: args, []⟩ [(x1, (.ref x))]) (hnd : nd' = nd + 2) (hnu : nu' = nu + 4)
    (h : ∀ x dx : Addr, (∀ p ∈ news, p.1 < dx) → @LT.lt Nat _ dx x → Body w nd nu qual scope fI cdv body (setF x1 (.ref x) noF) ((x, instObj C dx) :: (dx, dictOf [] 0) :: news) news (fun tl r => r = .none ∧ Post tl (.ref x)) (fun tl => Post tl (.ref x)) False) : Ct w nd' nu' C args news Post False := by
  obtain ⟨c1, c2, c3, c4, c5, c6⟩ := okSc_spec hs
  refine ct_mkG (led0 := fun x dx => [(x, instObj C dx), (dx, dictOf [] 0)]) (binds := fun x => [(x1, (.ref x))]) (fun F X N k => call_cls F X N hm hi hf k) ho hcd hb (fun x y hy => c5 _ ?_) c1 c2 c3 c4 (fun x => ?_) hnd hnu h
  · simpa using List.mem_map_of_mem (f := Prod.fst) hy
  · funext y; simp only [List.reverse_cons, List.reverse_nil, List.nil_append, List.cons_append, lk_cons, List.lookup_nil, setF, noF]
theorem ct_cls2 (hm : makesIn (Mine.hd.heap_1_39 w.params) C = true) (hi : findIn (Mine.hd.heap_1_39 w.params) (.ref C) "__init__" = some (some (.ref fI))) (hf : isFn (Mine.hd.heap_1_39 w.params) (.ref fI) = true)
    (ho : (Mine.hd.heap_1_39 w.params).lookup fI = some ⟨oc, od, .func (fnOf name qual ⟨[], [⟨x1, n1, p1⟩, ⟨x2, n2, p2⟩], none, [], [], none, ds⟩ body scope dV kV doc pm an cdv ct), osl⟩) (hcd : codeIn (Mine.hd.heap_1_39 w.params) cdv qual = true)
    (hs : okSc scope [x1, x2] = true) (hb : ∀ x s, (Mine.hd.heap_1_39 w.params).In s.heap → BindsTo s (fnOf name qual ⟨[], [⟨x1, n1, p1⟩, ⟨x2, n2, p2⟩], none, [], [], none, ds⟩ body scope dV kV doc pm an cdv ct) ⟨.ref x :: args, []⟩ [(x1, (.ref x)), (x2, v2)]) (hnd : nd' = nd + 2) (hnu : nu' = nu + 4)
    (h : ∀ x dx : Addr, (∀ p ∈ news, p.1 < dx) → @LT.lt Nat _ dx x → Body w nd nu qual scope fI cdv body (setF x2 v2 (setF x1 (.ref x) noF)) ((x, instObj C dx) :: (dx, dictOf [] 0) :: news) news (fun tl r => r = .none ∧ Post tl (.ref x)) (fun tl => Post tl (.ref x)) False) : Ct w nd' nu' C args news Post False := by
  obtain ⟨c1, c2, c3, c4, c5, c6⟩ := okSc_spec hs
  refine ct_mkG (led0 := fun x dx => [(x, instObj C dx), (dx, dictOf [] 0)]) (binds := fun x => [(x1, (.ref x)), (x2, v2)]) (fun F X N k => call_cls F X N hm hi hf k) ho hcd hb (fun x y hy => c5 _ ?_) c1 c2 c3 c4 (fun x => ?_) hnd hnu h
  · simpa using List.mem_map_of_mem (f := Prod.fst) hy
  · funext y; simp only [List.reverse_cons, List.reverse_nil, List.nil_append, List.cons_append, lk_cons, List.lookup_nil, setF, noF]
theorem ct_cls3 (hm : makesIn (Mine.hd.heap_1_39 w.params) C = true) (hi : findIn (Mine.hd.heap_1_39 w.params) (.ref C) "__init__" = some (some (.ref fI))) (hf : isFn (Mine.hd.heap_1_39 w.params) (.ref fI) = true)
    (ho : (Mine.hd.heap_1_39 w.params).lookup fI = some ⟨oc, od, .func (fnOf name qual ⟨[], [⟨x1, n1, p1⟩, ⟨x2, n2, p2⟩, ⟨x3, n3, p3⟩], none, [], [], none, ds⟩ body scope dV kV doc pm an cdv ct), osl⟩) (hcd : codeIn (Mine.hd.heap_1_39 w.params) cdv qual = true)
    (hs : okSc scope [x1, x2, x3] = true) (hb : ∀ x s, (Mine.hd.heap_1_39 w.params).In s.heap → BindsTo s (fnOf name qual ⟨[], [⟨x1, n1, p1⟩, ⟨x2, n2, p2⟩, ⟨x3, n3, p3⟩], none, [], [], none, ds⟩ body scope dV kV doc pm an cdv ct) ⟨.ref x :: args, []⟩ [(x1, (.ref x)), (x2, v2), (x3, v3)]) (hnd : nd' = nd + 2) (hnu : nu' = nu + 4)
    (h : ∀ x dx : Addr, (∀ p ∈ news, p.1 < dx) → @LT.lt Nat _ dx x → Body w nd nu qual scope fI cdv body (setF x3 v3 (setF x2 v2 (setF x1 (.ref x) noF))) ((x, instObj C dx) :: (dx, dictOf [] 0) :: news) news (fun tl r => r = .none ∧ Post tl (.ref x)) (fun tl => Post tl (.ref x)) False) : Ct w nd' nu' C args news Post False := by
  obtain ⟨c1, c2, c3, c4, c5, c6⟩ := okSc_spec hs
  refine ct_mkG (led0 := fun x dx => [(x, instObj C dx), (dx, dictOf [] 0)]) (binds := fun x => [(x1, (.ref x)), (x2, v2), (x3, v3)]) (fun F X N k => call_cls F X N hm hi hf k) ho hcd hb (fun x y hy => c5 _ ?_) c1 c2 c3 c4 (fun x => ?_) hnd hnu h
  · simpa using List.mem_map_of_mem (f := Prod.fst) hy
  · funext y; simp only [List.reverse_cons, List.reverse_nil, List.nil_append, List.cons_append, lk_cons, List.lookup_nil, setF, noF]
theorem ct_cls4 (hm : makesIn (Mine.hd.heap_1_39 w.params) C = true) (hi : findIn (Mine.hd.heap_1_39 w.params) (.ref C) "__init__" = some (some (.ref fI))) (hf : isFn (Mine.hd.heap_1_39 w.params) (.ref fI) = true)
    (ho : (Mine.hd.heap_1_39 w.params).lookup fI = some ⟨oc, od, .func (fnOf name qual ⟨[], [⟨x1, n1, p1⟩, ⟨x2, n2, p2⟩, ⟨x3, n3, p3⟩, ⟨x4, n4, p4⟩], none, [], [], none, ds⟩ body scope dV kV doc pm an cdv ct), osl⟩) (hcd : codeIn (Mine.hd.heap_1_39 w.params) cdv qual = true)
    (hs : okSc scope [x1, x2, x3, x4] = true) (hb : ∀ x s, (Mine.hd.heap_1_39 w.params).In s.heap → BindsTo s (fnOf name qual ⟨[], [⟨x1, n1, p1⟩, ⟨x2, n2, p2⟩, ⟨x3, n3, p3⟩, ⟨x4, n4, p4⟩], none, [], [], none, ds⟩ body scope dV kV doc pm an cdv ct) ⟨.ref x :: args, []⟩ [(x1, (.ref x)), (x2, v2), (x3, v3), (x4, v4)]) (hnd : nd' = nd + 2) (hnu : nu' = nu + 4)
    (h : ∀ x dx : Addr, (∀ p ∈ news, p.1 < dx) → @LT.lt Nat _ dx x → Body w nd nu qual scope fI cdv body (setF x4 v4 (setF x3 v3 (setF x2 v2 (setF x1 (.ref x) noF)))) ((x, instObj C dx) :: (dx, dictOf [] 0) :: news) news (fun tl r => r = .none ∧ Post tl (.ref x)) (fun tl => Post tl (.ref x)) False) : Ct w nd' nu' C args news Post False := by
  obtain ⟨c1, c2, c3, c4, c5, c6⟩ := okSc_spec hs
  refine ct_mkG (led0 := fun x dx => [(x, instObj C dx), (dx, dictOf [] 0)]) (binds := fun x => [(x1, (.ref x)), (x2, v2), (x3, v3), (x4, v4)]) (fun F X N k => call_cls F X N hm hi hf k) ho hcd hb (fun x y hy => c5 _ ?_) c1 c2 c3 c4 (fun x => ?_) hnd hnu h
  · simpa using List.mem_map_of_mem (f := Prod.fst) hy
  · funext y; simp only [List.reverse_cons, List.reverse_nil, List.nil_append, List.cons_append, lk_cons, List.lookup_nil, setF, noF]
end
theorem ct_use {w : World} {nd nu : Nat} {f : Addr} {args : List Value} {news : Led} {Post : Led → Value → Prop} {exc : Prop}
    {A A₀ : Around} {env : Env} {outer : List Env} {base g : Heap} {L : Addr} {mg mb : SMap} {mean : ExcName → Option Value} {m : SMap} {h : Heap} {G : Array GenState} {D : Drawn} {tk : Nat} {O : OsState} {Q E : Value → Shared → Prop} {nd' nu' : Nat}
    (c : Amb w A A₀ env outer base g L mg mb mean) (F : Fr g L h m) (N : News g L h news) (hd9 : A.depth + nd' < recursionLimit) (hu9 : A.units + nu' < cLine) (C : Ct w nd nu f args news Post exc) (h1 : Nat.ble nd nd' = true) (h2 : Nat.ble nu nu' = true)
    (hx : exc → ∀ e t vs h' tk' g', Fr g L g' m → RaisedS base g' (env :: outer) e (.ref 83) t vs news h' → g'.UpToSlots h' → E (.ref e) ⟨h', G, D, tk', O⟩)
    (ret : ∀ r tl h' tk', Fr g L h' m → News g L h' (tl ++ news) → Lt news tl → Post tl r → Q r ⟨h', G, D, tk', O⟩) :
    wpAny (model PG w) A (call (.ref f) args) Q E ⟨h, G, D, tk, O⟩ :=
  C A A₀ env outer base g L mg mb mean m h G D tk O Q E c F N (Nat.lt_of_le_of_lt (Nat.add_le_add_left (Nat.le_of_ble_eq_true h1) _) hd9) (Nat.lt_of_le_of_lt (Nat.add_le_add_left (Nat.le_of_ble_eq_true h2) _) hu9) ret hx
theorem wp_cons {M : Model} {A : Around} {st : Stmt} {rest : List Stmt} {env : Env} {Q : Flow → Shared → Prop} {E : Value → Shared → Prop} {h₀ h : Heap} {L : Addr} {m : SMap} {G : Array GenState} {D : Drawn} {t : Nat} {O : OsState} (_ : Fr h₀ L h m)
    (hh : ∀ (q : Flow → Shared → Prop) (tk : Nat), (∀ s', wpAny M A (execs rest env) Q E s' → q .next s') → (∀ v s', Q (.ret v) s' → q (.ret v) s') → wpAny M A (exec st env) q E ⟨h, G, D, tk, O⟩) : wpAny M A (execs (st :: rest) env) Q E ⟨h, G, D, t, O⟩ :=
  wpAny_execs_cons (hh _ t (fun _ x => x) fun _ _ x => x)
theorem wp_last {M : Model} {A : Around} {st : Stmt} {env : Env} {Q : Flow → Shared → Prop} {E : Value → Shared → Prop} {h₀ h : Heap} {L : Addr} {m : SMap} {G : Array GenState} {D : Drawn} {t : Nat} {O : OsState} (_ : Fr h₀ L h m)
    (hh : ∀ tk : Nat, wpAny M A (exec st env) Q E ⟨h, G, D, tk, O⟩) : wpAny M A (execs [st] env) Q E ⟨h, G, D, t, O⟩ :=
  wpAny_execs_cons (wpAny_mono (hh t) (fun f s' x => by cases f <;> first | exact wpAny_execs_nil x | exact x) fun _ _ x => x)
theorem lt_nilL {news : Led} : Lt news [] := fun _ _ _ h => nomatch h
theorem room_d {A : Around} {n : Nat} (h : A.depth + n < recursionLimit) : A.depth < recursionLimit := ar_r0 h
theorem room_u {A : Around} {n k : Nat} (h : A.units + n < cLine) (hk : Nat.ble k n = true) : A.units + k < cLine := Nat.lt_of_le_of_lt (Nat.add_le_add_left (Nat.le_of_ble_eq_true hk) _) h
noncomputable def RefP (P : Led → Addr → Prop) : Led → Value → Prop := fun tl r => ∃ c, r = .ref c ∧ P tl c
theorem use_ref {w : World} {nd nu : Nat} {f : Addr} {args : List Value} {news : Led} {P : Led → Addr → Prop} {exc : Prop}
    {A A₀ : Around} {env : Env} {outer : List Env} {base g : Heap} {L : Addr} {mg mb : SMap} {mean : ExcName → Option Value} {m : SMap} {h : Heap} {G : Array GenState} {D : Drawn} {tk : Nat} {O : OsState} {Q E : Value → Shared → Prop} {nd' nu' : Nat}
    (c : Amb w A A₀ env outer base g L mg mb mean) (F : Fr g L h m) (N : News g L h news) (hd9 : A.depth + nd' < recursionLimit) (hu9 : A.units + nu' < cLine) (C : Ct w nd nu f args news (RefP P) exc) (h1 : Nat.ble nd nd' = true) (h2 : Nat.ble nu nu' = true)
    (hx : exc → ∀ e t vs h' tk' g', Fr g L g' m → RaisedS base g' (env :: outer) e (.ref 83) t vs news h' → g'.UpToSlots h' → E (.ref e) ⟨h', G, D, tk', O⟩)
    (ret : ∀ c tl h' tk', Fr g L h' m → News g L h' (tl ++ news) → Lt news tl → P tl c → Q (.ref c) ⟨h', G, D, tk', O⟩) :
    wpAny (model PG w) A (call (.ref f) args) Q E ⟨h, G, D, tk, O⟩ :=
  ct_use c F N hd9 hu9 C h1 h2 hx fun _ tl h' tk' F N l ⟨_, e, p⟩ => e ▸ ret _ tl h' tk' F N l p
theorem sub_id {a : Led} : Sub a a := fun _ h => h
theorem sub_nil {b : Led} : Sub [] b := fun _ h => nomatch h
theorem sub_splitC {x : Addr × Obj} {a b : Led} (h : x ∈ b) (t : Sub a b) : Sub (x :: a) b := fun p hp => by
  rcases List.mem_cons.mp hp with rfl | hp
  · exact h
  · exact t p hp
theorem sub_splitA {a c b : Led} (h : Sub a b) (t : Sub c b) : Sub (a ++ c) b := fun p hp => (List.mem_append.mp hp).elim (h p) (t p)
theorem sub_skip {x : Addr × Obj} {a b : Led} (h : Sub a b) : Sub a (x :: b) := fun p hp => .tail _ (h p hp)
theorem sub_skipA {a b c : Led} (h : Sub a b) : Sub a (c ++ b) := fun p hp => List.mem_append_right _ (h p hp)
theorem sub_left {a b c : Led} (h : Sub a b) : Sub a (b ++ c) := fun p hp => List.mem_append_left _ (h p hp)
inductive ExcAt (tl : Led) (e : Addr) : Prop
  | mk (t d n : Nat) (vs : List Value) (h1 : (e, excObjD 83 t d) ∈ tl) (h2 : (t, ({ cls := .type "tuple", data := .seq (List.toArray vs) n } : Obj)) ∈ tl)
theorem lt_app {news a b : Led} (h : Lt news a) (h' : Lt news b) : Lt news (a ++ b) := fun q hq p hp => (List.mem_append.mp hp).elim (h q hq p) (h' q hq p)
theorem lt_sub {led news tl : Led} (h : Lt led tl) (s : Sub news led) : Lt news tl := fun q hq => h q (s q hq)
theorem lt_cons {news tl : Led} {a : Addr} {o : Obj} (h : ∀ p ∈ news, p.1 < a) (t : Lt news tl) : Lt news ((a, o) :: tl) := fun q hq p hp => by
  rcases List.mem_cons.mp hp with rfl | hp
  · exact h q hq
  · exact t q hq p hp
theorem off_app {I : Addr} {a b : Led} (h : ∀ p ∈ a, p.1 ≠ I) (h' : ∀ p ∈ b, p.1 ≠ I) : ∀ p ∈ a ++ b, p.1 ≠ I := fun p hp => (List.mem_append.mp hp).elim (h p) (h' p)
theorem off_lt {led tl : Led} {I : Addr} {o : Obj} (h : Lt led tl) (hm : (I, o) ∈ led) : ∀ p ∈ tl, p.1 ≠ I := fun p hp => Nat.ne_of_gt (h _ hm p hp)
theorem ne_lt {led : Led} {D a : Addr} {o : Obj} (h : ∀ p ∈ led, p.1 < D) (hm : (a, o) ∈ led) : a ≠ D := Nat.ne_of_lt (h _ hm)
theorem ne_gt {led : Led} {D a : Addr} {o : Obj} (h : ∀ p ∈ led, p.1 < D) (hm : (a, o) ∈ led) : D ≠ a := Nat.ne_of_gt (h _ hm)
theorem ne_lt2 {led : Led} {d D a : Addr} {o : Obj} (h : ∀ p ∈ led, p.1 < d) (l : @LT.lt Nat _ d D) (hm : (a, o) ∈ led) : a ≠ D := Nat.ne_of_lt (Nat.lt_trans (h _ hm) l)
theorem ne_gt2 {led : Led} {d D a : Addr} {o : Obj} (h : ∀ p ∈ led, p.1 < d) (l : @LT.lt Nat _ d D) (hm : (a, o) ∈ led) : D ≠ a := Nat.ne_of_gt (Nat.lt_trans (h _ hm) l)
theorem ne_led {led tl : Led} {a b : Addr} {o o' : Obj} (h : Lt led tl) (hm : (a, o) ∈ led) (hm' : (b, o') ∈ tl) : a ≠ b := Nat.ne_of_lt (h _ hm _ hm')
theorem ne_led' {led tl : Led} {a b : Addr} {o o' : Obj} (h : Lt led tl) (hm : (a, o) ∈ led) (hm' : (b, o') ∈ tl) : b ≠ a := Nat.ne_of_gt (h _ hm _ hm')
theorem all_lt {led r : Led} {D : Addr} (h : ∀ p ∈ led, p.1 < D) (s : Sub r led) : ∀ p ∈ r, p.1 ≠ D := fun p hp => Nat.ne_of_lt (h p (s p hp))
theorem all_lt2 {led r : Led} {d D : Addr} (h : ∀ p ∈ led, p.1 < d) (l : @LT.lt Nat _ d D) (s : Sub r led) : ∀ p ∈ r, p.1 ≠ D := fun p hp => Nat.ne_of_lt (Nat.lt_trans (h p (s p hp)) l)
theorem all_app {P : Addr × Obj → Prop} {l r : Led} (h : ∀ p ∈ l, P p) (h' : ∀ p ∈ r, P p) : ∀ p ∈ l ++ r, P p := fun p hp => (List.mem_append.mp hp).elim (h p) (h' p)
theorem off1_all {D : Addr} : ∀ {l : Led}, LCg.Off1 D l → ∀ p ∈ l, p.1 ≠ D
  | [], _, _, h => nomatch h
  | _ :: _, x, p, h => by
    rcases List.mem_cons.mp h with rfl | h
    · exact x.1
    · exact off1_all x.2 p h
theorem wp_genU {M : Model} {A : Around} {b : List Stmt} {env : Env} {E : Value → Shared → Prop} {s s₁ : Shared} {h₀ : Heap} {L : Addr} {its : Led} {R : SMap → Led → Prop} {Q : Flow → Shared → Prop}
    (hh : ∀ q : Flow → Shared → Prop, (∀ s', UnrEndW h₀ L s₁ its R s' → q .next s') → (∀ v s', Q (.ret v) s' → q (.ret v) s') → wpAny M A (execs b env) q E s) : wpAny M A (execs b env) (UnrPostW h₀ L s₁ its R Q) E s := hh _ (fun _ x => x) fun _ _ x => x
theorem lt_consS {led news tl : Led} {a : Addr} {o : Obj} (h : ∀ p ∈ led, p.1 < a) (s : Sub news led) (t : Lt news tl) : Lt news ((a, o) :: tl) := lt_cons (fun p hp => h p (s p hp)) t
-- D1
inductive Word | emp | cur | equ | equ2 | l0 | pln | ring | nowh | nxt
inductive Row | gap (k : Int) | ali (k : Int) | leb (sg : Bool) (x y : Nat) | org (wd : Word) (k : Int)
noncomputable def lab (n : Nat) : Str := Str.ofString "l" ++ Str.ofString (toString ((n : Nat) : Int))
noncomputable def Word.text (i : Nat) : Word → Str
  | .emp => Str.ofString ""
  | .cur => lab i
  | .equ => Str.ofString "EQU"
  | .equ2 => Str.ofString "EQU2"
  | .l0 => Str.ofString "l0"
  | .pln => Str.ofString "PLAIN"
  | .ring => Str.ofString "RING"
  | .nowh => Str.ofString "nowhere"
  | .nxt => lab (i + 1)
noncomputable abbrev tupObj (vs : Array Value) (n : Nat) : Obj := { cls := .type "tuple", data := .seq vs n }
noncomputable abbrev ent (w : World) (nm : String) (t : Tok) (v : Value) : DictEntry := { hash := PyData.keyHash w.params (Str.ofString nm), key := .str (Str.ofString nm) t, val := v }
inductive RowAt (news : Led) (i : Nat) (a : Addr) : Row → Prop
  | gap {k : Int} {t1 t2 n : Nat} (h : (a, tupObj #[.str (Str.ofString "gap") t1, .int k t2] n) ∈ news) : RowAt news i a (.gap k)
  | ali {k : Int} {t1 t2 n : Nat} (h : (a, tupObj #[.str (Str.ofString "align") t1, .int k t2] n) ∈ news) : RowAt news i a (.ali k)
  | leb {sg : Bool} {x y : Nat} {t1 t2 t3 n : Nat} (h : (a, tupObj #[.str (Str.ofString "leb") t1, .bool sg, .int x t2, .int y t3] n) ∈ news) : RowAt news i a (.leb sg x y)
  | org {wd : Word} {k : Int} {t1 t2 t3 n : Nat} (h : (a, tupObj #[.str (Str.ofString "org") t1, .str (wd.text i) t2, .int k t3] n) ∈ news) : RowAt news i a (.org wd k)
inductive RowsAt (news : Led) (R : Addr) (rows : List Row) : Prop
  | mk (its : Array Value) (n : Nat) (h1 : (R, W.listOf its n) ∈ news) (h2 : its.size = rows.length) (h3 : ∀ i r, rows[i]? = some r → ∃ a, its[i]? = some (.ref a) ∧ RowAt news i a r)
inductive AffAt (w : World) (news : Led) (a : Addr) (k : Int) (p q : Str) : Prop
  | mk (d t1 t2 t3 k1 k2 k3 : Nat) (h1 : (a, instObj 178 d) ∈ news) (h2 : (d, dictOf [ent w "worth" k1 (.int k t1), ent w "plus" k2 (.str p t2), ent w "minus" k3 (.str q t3)] 3) ∈ news)
inductive PieceAt (w : World) (news : Led) (i : Nat) (a : Addr) : Row → Prop
  | gap {k : Int} {d t1 t2 t3 k1 k2 k3 k4 : Nat} (h : (a, instObj 462 d) ∈ news) (hd : (d, dictOf [ent w "way" k1 (.str (Str.ofString "space") t1), ent w "at" k2 .none, ent w "count" k3 (.int k t2), ent w "fill" k4 (.int 0 t3)] 4) ∈ news) : PieceAt w news i a (.gap k)
  | ali {k : Int} {d t1 t2 k1 k2 k3 k4 : Nat} (h : (a, instObj 401 d) ∈ news) (hd : (d, dictOf [ent w "way" k1 (.str (Str.ofString "align") t1), ent w "at" k2 .none, ent w "step" k3 (.int k t2), ent w "is_code" k4 (.bool false)] 4) ∈ news) : PieceAt w news i a (.ali k)
  | org {wd : Word} {k : Int} {d f t1 k1 k2 k3 : Nat} (h : (a, instObj 428 d) ∈ news) (hd : (d, dictOf [ent w "way" k1 (.str (Str.ofString "org") t1), ent w "at" k2 .none, ent w "affine" k3 (.ref f)] 3) ∈ news)
      (hf : AffAt w news f k (wd.text i) (Str.ofString "")) : PieceAt w news i a (.org wd k)
  | leb {sg : Bool} {x y : Nat} {d f t1 k1 k2 k3 k4 : Nat} (h : (a, instObj 489 d) ∈ news) (hd : (d, dictOf [ent w "way" k1 (.str (Str.ofString "leb") t1), ent w "at" k2 .none, ent w "affine" k3 (.ref f), ent w "is_signed" k4 (.bool sg)] 4) ∈ news)
      (hf : AffAt w news f 0 (if x = y then Str.ofString "" else lab x) (if x = y then Str.ofString "" else lab y)) : PieceAt w news i a (.leb sg x y)
noncomputable def labKvs : Nat → List Addr → List (Str × Value)
  | _, [] => []
  | i, a :: r => (lab i, .ref a) :: labKvs (i + 1) r
noncomputable def LabsAt (news : Led) (ts : List Addr) : Prop := ∀ (i : Nat) a, ts[i]? = some a → ∃ t1 t2 n, (a, tupObj #[.int i t1, .int 0 t2] n) ∈ news
set_option genInjectivity false in
structure PA where
  (P dP sec nm eq gl T dT TP TL D dD DP DL dt dp e1 e2 e3 e4 : Addr)
  (oS oE oL oM : Obj)
  (tits dits : Array Value)
  ts : List Addr
  (kP1 kP2 kP3 kP4 tn1 tn2 nn kT1 kT2 kT3 tT nT kD1 kD2 kD3 tD nD td1 td2 nd : Nat)
structure ProgAt (w : World) (news : Led) (p : PA) (rows : List Row) : Prop where
  hP : (p.P, instObj 609 p.dP) ∈ news
  hdP : (p.dP, dictOf [ent w "sections" p.kP1 (.ref p.sec), ent w "names" p.kP2 (.ref p.nm), ent w "equates" p.kP3 (.ref p.eq), ent w "globals_" p.kP4 (.ref p.gl)] 4) ∈ news
  hnm : (p.nm, W.listOf #[.str (Str.ofString ".text") p.tn1, .str (Str.ofString ".data") p.tn2] p.nn) ∈ news
  hsec : (p.sec, p.oS) ∈ news
  hS : Obj.IsDictOf (PySem.strKind PG w) p.oS [(Str.ofString ".text", .ref p.T), (Str.ofString ".data", .ref p.D)]
  heq : (p.eq, p.oE) ∈ news
  leq : (p.eq == sysModules) = false
  hE : Obj.IsDictOf (PySem.strKind PG w) p.oE [(Str.ofString "EQU", .ref p.e1), (Str.ofString "EQU2", .ref p.e2), (Str.ofString "PLAIN", .ref p.e3), (Str.ofString "RING", .ref p.e4)]
  h1 : AffAt w news p.e1 5 (Str.ofString "l1") (Str.ofString "")
  h2 : AffAt w news p.e2 (-2) (Str.ofString "EQU") (Str.ofString "")
  h3 : AffAt w news p.e3 200 (Str.ofString "") (Str.ofString "")
  h4 : AffAt w news p.e4 1 (Str.ofString "RING") (Str.ofString "")
  hT : (p.T, instObj 548 p.dT) ∈ news
  hdT : (p.dT, dictOf [ent w "name" p.kT1 (.str (Str.ofString ".text") p.tT), ent w "pieces" p.kT2 (.ref p.TP), ent w "labels" p.kT3 (.ref p.TL)] 3) ∈ news
  hTP : (p.TP, W.listOf p.tits p.nT) ∈ news
  htn : p.tits.size = rows.length
  hpc : ∀ i r, rows[i]? = some r → ∃ a, p.tits[i]? = some (.ref a) ∧ PieceAt w news i a r
  hTL : (p.TL, p.oL) ∈ news
  lTL : (p.TL == sysModules) = false
  hL : Obj.IsDictOf (PySem.strKind PG w) p.oL (labKvs 0 p.ts)
  hts : p.ts.length = rows.length + 1
  hlab : LabsAt news p.ts
  hD : (p.D, instObj 548 p.dD) ∈ news
  hdD : (p.dD, dictOf [ent w "name" p.kD1 (.str (Str.ofString ".data") p.tD), ent w "pieces" p.kD2 (.ref p.DP), ent w "labels" p.kD3 (.ref p.DL)] 3) ∈ news
  hDP : (p.DP, W.listOf #[.ref p.dp] p.nD) ∈ news
  hdp : PieceAt w news 0 p.dp (.gap 2)
  hDL : (p.DL, p.oM) ∈ news
  lDL : (p.DL == sysModules) = false
  hM : Obj.IsDictOf (PySem.strKind PG w) p.oM [(Str.ofString "other", .ref p.dt)]
  hdt : (p.dt, tupObj #[.int 1 p.td1, .int 0 p.td2] p.nd) ∈ news
theorem AffAt.mono {w : World} {n n' : Led} (s : ∀ p ∈ n, p ∈ n') {a : Addr} {k : Int} {p q : Str} (h : AffAt w n a k p q) : AffAt w n' a k p q := by
  obtain ⟨d, t1, t2, t3, k1, k2, k3, x, y⟩ := h
  exact ⟨d, t1, t2, t3, k1, k2, k3, s _ x, s _ y⟩
theorem PieceAt.mono {w : World} {n n' : Led} (s : ∀ p ∈ n, p ∈ n') {i : Nat} {a : Addr} {r : Row} (h : PieceAt w n i a r) : PieceAt w n' i a r := by
  cases h with
  | gap x y => exact .gap (s _ x) (s _ y)
  | ali x y => exact .ali (s _ x) (s _ y)
  | org x y z => exact .org (s _ x) (s _ y) (z.mono s)
  | leb x y z => exact .leb (s _ x) (s _ y) (z.mono s)
theorem RowAt.mono {n n' : Led} (s : ∀ p ∈ n, p ∈ n') {i : Nat} {a : Addr} {r : Row} (h : RowAt n i a r) : RowAt n' i a r := by
  cases h with
  | gap x => exact .gap (s _ x)
  | ali x => exact .ali (s _ x)
  | org x => exact .org (s _ x)
  | leb x => exact .leb (s _ x)
theorem RowsAt.mono {n n' : Led} (s : ∀ p ∈ n, p ∈ n') {R : Addr} {rows : List Row} (h : RowsAt n R rows) : RowsAt n' R rows := by
  obtain ⟨its, k, x, y, z⟩ := h
  exact ⟨its, k, s _ x, y, fun i r e => let ⟨a, h1, h2⟩ := z i r e; ⟨a, h1, h2.mono s⟩⟩
theorem LabsAt.mono {n n' : Led} (s : ∀ p ∈ n, p ∈ n') {ts : List Addr} (h : LabsAt n ts) : LabsAt n' ts :=
  fun i a e => let ⟨t1, t2, k, x⟩ := h i a e; ⟨t1, t2, k, s _ x⟩
theorem ProgAt.mono {w : World} {n n' : Led} (s : ∀ p ∈ n, p ∈ n') {p : PA} {rows : List Row} (h : ProgAt w n p rows) : ProgAt w n' p rows where
  hP := s _ h.hP
  hdP := s _ h.hdP
  hnm := s _ h.hnm
  hsec := s _ h.hsec
  hS := h.hS
  heq := s _ h.heq
  leq := h.leq
  hE := h.hE
  h1 := h.h1.mono s
  h2 := h.h2.mono s
  h3 := h.h3.mono s
  h4 := h.h4.mono s
  hT := s _ h.hT
  hdT := s _ h.hdT
  hTP := s _ h.hTP
  htn := h.htn
  hpc := fun i r e => let ⟨a, h1, h2⟩ := h.hpc i r e; ⟨a, h1, h2.mono s⟩
  hTL := s _ h.hTL
  lTL := h.lTL
  hL := h.hL
  hts := h.hts
  hlab := h.hlab.mono s
  hD := s _ h.hD
  hdD := s _ h.hdD
  hDP := s _ h.hDP
  hdp := h.hdp.mono s
  hDL := s _ h.hDL
  lDL := h.lDL
  hM := h.hM
  hdt := s _ h.hdt
theorem lab_ne {n : Nat} {x : Str} (h : x.cps[0]? ≠ some 108) : lab n ≠ x := by
  intro e
  apply h
  rw [← e]
  show ((Str.ofString "l").cps ++ _)[0]? = _
  rw [Array.getElem?_append]
  rfl
theorem lab_inj_le {i j : Nat} (hi : i ≤ 12) (hj : j ≤ 12) (e : lab i = lab j) : i = j := by
  have key : ∀ a : Fin 13, ∀ b : Fin 13, lab a.1 = lab b.1 → a = b := by decide +kernel
  have := key ⟨i, by omega⟩ ⟨j, by omega⟩ e
  exact congrArg Fin.val this
-- L1
section
variable {prog : Program} {w : World} {A : Around} {E : Value → Shared → Prop} {s : Shared} {env : Env} {h₀ : Heap} {target : Expr} {body : List Stmt} {Q : Flow → Shared → Prop}
noncomputable def OffA (ws : List (Addr × String)) (n : List (Addr × Obj)) : Prop := ∀ p ∈ n, ∀ q ∈ ws, p.1 ≠ q.1
noncomputable def TurnP (prog : Program) (w : World) (A : Around) (E : Value → Shared → Prop) (h₀ : Heap) (env : Env) (target : Expr) (body : List Stmt) (Q : Flow → Shared → Prop) (ws : List (Addr × String)) (n₁ : List (Addr × Obj)) (R : (Str → Option Value) → List (Addr × Obj) → Prop) (v : Value) (s₁ : Shared) : Prop :=
  AllObj ws (fun its => News h₀ env.locals s₁.heap (its ++ n₁) →
    wpAny (model prog w) A (assign target env v) (fun _ s₂ => wpAny (model prog w) A (execs body env) (UnrPostW h₀ env.locals s₁ its R Q) E s₂) E s₁)
theorem unrPost_mono {L : Addr} {s₁ : Shared} {its : List (Addr × Obj)} {R R' : (Str → Option Value) → List (Addr × Obj) → Prop} (hR : ∀ m n, (∀ p ∈ n, ∀ q ∈ its, p.1 ≠ q.1) → R m n → R' m n) {f : Flow} {s₂ : Shared} (h : UnrPostW h₀ L s₁ its R Q f s₂) : UnrPostW h₀ L s₁ its R' Q f s₂ := by
  cases f with
  | ret v => exact h
  | brk => exact h
  | next => obtain ⟨h', tk, m', n', e, F, N, off, r⟩ := h; exact ⟨h', tk, m', n', e, F, N, off, hR _ _ off r⟩
  | cont => obtain ⟨h', tk, m', n', e, F, N, off, r⟩ := h; exact ⟨h', tk, m', n', e, F, N, off, hR _ _ off r⟩
theorem allObj_mono {k k' : List (Addr × Obj) → Prop} : ∀ {ws : List (Addr × String)}, (∀ its, its.map (·.1) = ws.map (·.1) → k its → k' its) → AllObj ws k → AllObj ws k'
  | [], h, x => h [] rfl x
  | wd :: r, h, x => fun o ho => allObj_mono (k := fun its => k ((wd.1, o) :: its)) (k' := fun its => k' ((wd.1, o) :: its)) (fun its e y => h ((wd.1, o) :: its) (by rw [List.map_cons, List.map_cons, e]) y) (x o ho)
theorem rest_inv {ws : List (Addr × String)} {keep : List (Addr × Obj)} (J : Nat → (Str → Option Value) → List (Addr × Obj) → Prop) : ∀ (xs : List Itm) (k : Nat)
    (_turn : ∀ i a v m₁ n₁ h tk, xs[i]? = some a → a.Is v h → SubL keep n₁ → OffA ws n₁ → J (k + i) m₁ n₁ → Fr h₀ env.locals h m₁ → TurnP prog w A E h₀ env target body Q ws n₁ (fun m' n' => SubL keep n' ∧ J (k + i + 1) m' n') v { s with heap := h, toks := tk })
    (_done : ∀ m₁ n₁ h tk, J (k + xs.length) m₁ n₁ → SubL keep n₁ → OffA ws n₁ → Fr h₀ env.locals h m₁ → News h₀ env.locals h n₁ → Q .next { s with heap := h, toks := tk }) (m₁ : Str → Option Value) (n₁ : List (Addr × Obj)),
    SubL keep n₁ → OffA ws n₁ → J k m₁ n₁ → ItemsRest prog w A E h₀ env target body Q s ws keep xs m₁ n₁ := by
  intro xs
  induction xs with
  | nil => exact fun k _ done m₁ n₁ hs ho hj h tk F N => done m₁ n₁ h tk hj hs ho F N
  | cons a r ihr =>
    intro k turn done m₁ n₁ hs ho hj v h tk ha F
    refine allObj_mono (fun its e x N => ?_) (turn 0 a v m₁ n₁ h tk rfl ha hs ho hj F)
    refine wpAny_mono (x N) (fun _ s₂ y => wpAny_mono y (fun f s₃ z => unrPost_mono (fun m n off q => ⟨q.1, ?_⟩) z) fun _ _ z => z) fun _ _ z => z
    refine ihr (k + 1) (fun i a v m₁ n₁ h tk hi hv h1 h2 h3 h4 => ?_) (fun m₁ n₁ h tk h1 h2 h3 h4 h5 => ?_) m n q.1 (fun p hp q hq => ?_) q.2
    · have := turn (i + 1) a v m₁ n₁ h tk hi hv h1 h2 (by rw [show k + (i + 1) = k + 1 + i from (Nat.add_right_comm k 1 i).symm]; exact h3) h4
      rw [show k + (i + 1) + 1 = k + 1 + i + 1 from congrArg Nat.succ (Nat.add_right_comm k 1 i).symm] at this
      exact this
    · refine done m₁ n₁ h tk ?_ h2 h3 h4 h5
      rw [List.length_cons, show k + (r.length + 1) = k + 1 + r.length from (Nat.add_right_comm k 1 r.length).symm]; exact h1
    · have hm : q.1 ∈ its.map (·.1) := by rw [e]; exact List.mem_map_of_mem hq
      obtain ⟨q', hq', e'⟩ := List.mem_map.mp hm
      rw [← e']; exact off p hp q' hq'
theorem offA_lt {ws : List (Addr × String)} {n : List (Addr × Obj)} {I : Addr} (h : ∀ p ∈ n, p.1 < I) (hw : ∀ q ∈ ws, I ≤ q.1) : OffA ws n := fun p hp q hq => Nat.ne_of_lt (Nat.lt_of_lt_of_le (h p hp) (hw q hq))
theorem subL_get {x : Addr × Obj} {n : List (Addr × Obj)} (h : SubL [x] n) : x ∈ n := h.1
theorem subL_one {x : Addr × Obj} {n : List (Addr × Obj)} (h : x ∈ n) : SubL [x] n := ⟨h, trivial⟩
theorem loop_list {l : Addr} {vs : List Value} {k : Nat} {m₀ : Str → Option Value} {news : List (Addr × Obj)} (J : Nat → (Str → Option Value) → List (Addr × Obj) → Prop)
    (hh : A.handled = none) (F : Fr h₀ env.locals s.heap m₀) (N : News h₀ env.locals s.heap news) (hm : (l, W.listOf vs.toArray k) ∈ news) (h0 : J 0 m₀ news)
    (turn : ∀ I i v m₁ n₁ h tk, vs[i]? = some v → (l, W.listOf vs.toArray k) ∈ n₁ → OffA [(I, "list_iterator")] n₁ → J i m₁ n₁ → Fr h₀ env.locals h m₁ →
      TurnP prog w A E h₀ env target body Q [(I, "list_iterator")] n₁ (fun m' n' => SubL [(l, W.listOf vs.toArray k)] n' ∧ J (i + 1) m' n') v { s with heap := h, toks := tk })
    (done : ∀ I m₁ n₁ h tk, J vs.length m₁ n₁ → (l, W.listOf vs.toArray k) ∈ n₁ → OffA [(I, "list_iterator")] n₁ → Fr h₀ env.locals h m₁ → News h₀ env.locals h n₁ → Q .next { s with heap := h, toks := tk }) :
    wpAny (model prog w) A (pyIter (.ref l)) (fun it s₂ => TurnsAt prog w A h₀ env target body Q E it s₂) E s := by
  refine iter_listTurns hh F N hm rfl rfl fun I hI => ?_
  refine rest_inv J (vs.map .val) 0 (fun i a v m₁ n₁ h tk hi hv h1 h2 h3 h4 => ?_) (fun m₁ n₁ h tk h1 h2 h3 h4 h5 => done I m₁ n₁ h tk (by simpa using h1) (subL_get h2) h3 h4 h5) m₀ news (subL_one hm) (offA_lt hI (fun q hq => by rw [List.mem_singleton.mp hq]; exact Nat.le_refl _)) h0
  rw [List.getElem?_map] at hi
  obtain ⟨v', hv', rfl⟩ := Option.map_eq_some_iff.mp hi
  have e : v = v' := hv
  subst e
  simpa using turn I i v m₁ n₁ h tk hv' h1.1 h2 (by simpa using h3) h4
theorem loop_tup {l : Addr} {vs : List Value} {k : Nat} {m₀ : Str → Option Value} {news : List (Addr × Obj)} (J : Nat → (Str → Option Value) → List (Addr × Obj) → Prop)
    (hh : A.handled = none) (F : Fr h₀ env.locals s.heap m₀) (N : News h₀ env.locals s.heap news) (hm : (l, ({ cls := .type "tuple", data := .seq vs.toArray k } : Obj)) ∈ news) (h0 : J 0 m₀ news)
    (turn : ∀ I i v m₁ n₁ h tk, vs[i]? = some v → (l, ({ cls := .type "tuple", data := .seq vs.toArray k } : Obj)) ∈ n₁ → OffA [(I, "tuple_iterator")] n₁ → J i m₁ n₁ → Fr h₀ env.locals h m₁ →
      TurnP prog w A E h₀ env target body Q [(I, "tuple_iterator")] n₁ (fun m' n' => SubL [(l, ({ cls := .type "tuple", data := .seq vs.toArray k } : Obj))] n' ∧ J (i + 1) m' n') v { s with heap := h, toks := tk })
    (done : ∀ I m₁ n₁ h tk, J vs.length m₁ n₁ → (l, ({ cls := .type "tuple", data := .seq vs.toArray k } : Obj)) ∈ n₁ → OffA [(I, "tuple_iterator")] n₁ → Fr h₀ env.locals h m₁ → News h₀ env.locals h n₁ → Q .next { s with heap := h, toks := tk }) :
    wpAny (model prog w) A (pyIter (.ref l)) (fun it s₂ => TurnsAt prog w A h₀ env target body Q E it s₂) E s := by
  refine iter_tupTurns hh F N hm rfl rfl fun I hI => ?_
  refine rest_inv J (vs.map .val) 0 (fun i a v m₁ n₁ h tk hi hv h1 h2 h3 h4 => ?_) (fun m₁ n₁ h tk h1 h2 h3 h4 h5 => done I m₁ n₁ h tk (by simpa using h1) (subL_get h2) h3 h4 h5) m₀ news (subL_one hm) (offA_lt hI (fun q hq => by rw [List.mem_singleton.mp hq]; exact Nat.le_refl _)) h0
  rw [List.getElem?_map] at hi
  obtain ⟨v', hv', rfl⟩ := Option.map_eq_some_iff.mp hi
  have e : v = v' := hv
  subst e
  simpa using turn I i v m₁ n₁ h tk hv' h1.1 h2 (by simpa using h3) h4
theorem loop_enum {elts : List Expr} {ke : Nat} {pe : Pos} {l : Addr} {vs : List Value} {k : Nat} {m₀ : Str → Option Value} {news : List (Addr × Obj)} (J : Nat → (Str → Option Value) → List (Addr × Obj) → Prop)
    (hh : A.handled = none) (F : Fr h₀ env.locals s.heap m₀) (N : News h₀ env.locals s.heap news) (hm : (l, W.listOf vs.toArray k) ∈ news) (h0 : J 0 m₀ news)
    (turn : ∀ I i v T t m₁ n₁ h tk, vs[i]? = some v → IsTup h T #[.int (i : Nat) t, v] → (l, W.listOf vs.toArray k) ∈ n₁ → OffA [(I + 1, "enumerate"), (I, "list_iterator")] n₁ → J i m₁ n₁ → Fr h₀ env.locals h m₁ →
      TurnP prog w A E h₀ env (.Tuple elts ke pe) body Q [(I + 1, "enumerate"), (I, "list_iterator")] n₁ (fun m' n' => SubL [(l, W.listOf vs.toArray k)] n' ∧ J (i + 1) m' n') (.ref T) { s with heap := h, toks := tk })
    (done : ∀ I m₁ n₁ h tk, J vs.length m₁ n₁ → (l, W.listOf vs.toArray k) ∈ n₁ → OffA [(I + 1, "enumerate"), (I, "list_iterator")] n₁ → Fr h₀ env.locals h m₁ → News h₀ env.locals h n₁ → Q .next { s with heap := h, toks := tk }) :
    wpAny (model prog w) A (call (.type "enumerate") [.ref l]) (fun xv s₁ => wpAny (model prog w) A (pyIter xv) (fun it s₂ => TurnsAt prog w A h₀ env (.Tuple elts ke pe) body Q E it s₂) E s₁) E s := by
  refine ktu_enum hh F N hm rfl rfl (xs := enumItems 0 vs) rfl fun I hI => ?_
  refine rest_inv J (enumItems 0 vs) 0 (fun i a v m₁ n₁ h tk hi hv h1 h2 h3 h4 => ?_) (fun m₁ n₁ h tk h1 h2 h3 h4 h5 => done I m₁ n₁ h tk (by simpa [enumItems_length] using h1) (subL_get h2) h3 h4 h5) m₀ news (subL_one hm) (offA_lt hI (fun q hq => ?_)) h0
  · have hlt : i < vs.length := by have := (List.getElem?_eq_some_iff.mp hi).1; rwa [enumItems_length] at this
    have hx : vs[i]? = some vs[i] := List.getElem?_eq_getElem hlt
    rw [enumItems_get vs 0 i hx] at hi
    obtain rfl := Option.some.inj hi
    obtain ⟨T, t, rfl, hT⟩ := hv
    simp only [Nat.zero_add] at hT h3 ⊢
    exact turn I i _ T t m₁ n₁ h tk hx hT h1.1 h2 h3 h4
  · rcases List.mem_cons.mp hq with rfl | hq
    · exact Nat.le_succ _
    · rw [List.mem_singleton.mp hq]; exact Nat.le_refl _
end
section
variable {h₀ h' : Heap} {L I : Addr} {s₁ : Shared} {tk : Nat} {m' : Str → Option Value} {oI oJ : Obj} {n' : List (Addr × Obj)} {R : (Str → Option Value) → List (Addr × Obj) → Prop} {x1 x2 x3 : Addr × Obj}
theorem unrEnd1 {all : List (Addr × Obj)} (F : Fr h₀ L h' m') (N : News h₀ L h' all) (sub : ∀ p ∈ (I, oI) :: n', p ∈ all) (off : ∀ p ∈ n', p.1 ≠ I) (r : R m' n') : UnrEndW h₀ L s₁ [(I, oI)] R { s₁ with heap := h', toks := tk } :=
  ⟨h', tk, m', n', rfl, F, fun p hp => N p (sub p hp), fun p hp q hq => by rw [List.mem_singleton.mp hq]; exact off p hp, r⟩
theorem unrEnd1_0 (F : Fr h₀ L h' m') (N : News h₀ L h' ((I, oI) :: n')) (off : ∀ p ∈ n', p.1 ≠ I) (r : R m' n') : UnrEndW h₀ L s₁ [(I, oI)] R { s₁ with heap := h', toks := tk } := unrEnd1 F N (fun _ h => h) off r
theorem unrEnd1_1 (F : Fr h₀ L h' m') (N : News h₀ L h' (x1 :: (I, oI) :: n')) (off : ∀ p ∈ n', p.1 ≠ I) (r : R m' n') : UnrEndW h₀ L s₁ [(I, oI)] R { s₁ with heap := h', toks := tk } := unrEnd1 F N (fun _ h => .tail _ h) off r
theorem unrEnd1_2 (F : Fr h₀ L h' m') (N : News h₀ L h' (x1 :: x2 :: (I, oI) :: n')) (off : ∀ p ∈ n', p.1 ≠ I) (r : R m' n') : UnrEndW h₀ L s₁ [(I, oI)] R { s₁ with heap := h', toks := tk } := unrEnd1 F N (fun _ h => .tail _ (.tail _ h)) off r
theorem unrEnd2 {all : List (Addr × Obj)} (F : Fr h₀ L h' m') (N : News h₀ L h' all) (sub : ∀ p ∈ (I + 1, oI) :: (I, oJ) :: n', p ∈ all) (off : ∀ p ∈ n', p.1 ≠ I ∧ p.1 ≠ I + 1) (r : R m' n') : UnrEndW h₀ L s₁ [(I + 1, oI), (I, oJ)] R { s₁ with heap := h', toks := tk } :=
  ⟨h', tk, m', n', rfl, F, fun p hp => N p (sub p hp), fun p hp q hq => by
    rcases List.mem_cons.mp hq with rfl | hq
    · exact (off p hp).2
    · rw [List.mem_singleton.mp hq]; exact (off p hp).1, r⟩
theorem off_new {led tl : List (Addr × Obj)} {I : Addr} {o : Obj} (h : ∀ q ∈ led, ∀ p ∈ tl, q.1 < p.1) (hm : (I, o) ∈ led) : ∀ p ∈ tl, p.1 ≠ I := fun p hp => Nat.ne_of_gt (h _ hm p hp)
theorem offA1 {t : String} {n : List (Addr × Obj)} (h : OffA [(I, t)] n) : ∀ p ∈ n, p.1 ≠ I := fun p hp => h p hp _ (List.mem_cons_self ..)
theorem offA2 {t u : String} {n : List (Addr × Obj)} (h : OffA [(I + 1, t), (I, u)] n) : ∀ p ∈ n, p.1 ≠ I ∧ p.1 ≠ I + 1 := fun p hp => ⟨h p hp _ (List.mem_cons_of_mem _ (List.mem_cons_self ..)), h p hp _ (List.mem_cons_self ..)⟩
end
section
variable {prog : Program} {w : World} {A : Around} {E : Value → Shared → Prop} {s : Shared} {env : Env} {h₀ : Heap} {target : Expr} {body : List Stmt} {Q : Flow → Shared → Prop}
theorem iterL {l : Addr} {its : Array Value} {k : Nat} {m₀ : Str → Option Value} {news : List (Addr × Obj)}
    (hh : A.handled = none) (F : Fr h₀ env.locals s.heap m₀) (N : News h₀ env.locals s.heap news) (hm : (l, W.listOf its k) ∈ news)
    (rest₀ : ∀ I : Addr, (∀ p ∈ news, p.1 < I) → ItemsRest prog w A E h₀ env target body Q s [(I, "list_iterator")] [(l, W.listOf its k)] (its.toList.map .val) m₀ news) :
    wpAny (model prog w) A (pyIter (.ref l)) (fun it s₂ => TurnsAt prog w A h₀ env target body Q E it s₂) E s := iter_listTurns (vs := its.toList) hh F N hm rfl (by rw [Array.toArray_toList]) rest₀
theorem iterT {l : Addr} {its : Array Value} {k : Nat} {m₀ : Str → Option Value} {news : List (Addr × Obj)}
    (hh : A.handled = none) (F : Fr h₀ env.locals s.heap m₀) (N : News h₀ env.locals s.heap news) (hm : (l, ({ cls := .type "tuple", data := .seq its k } : Obj)) ∈ news)
    (rest₀ : ∀ I : Addr, (∀ p ∈ news, p.1 < I) → ItemsRest prog w A E h₀ env target body Q s [(I, "tuple_iterator")] [(l, ({ cls := .type "tuple", data := .seq its k } : Obj))] (its.toList.map .val) m₀ news) :
    wpAny (model prog w) A (pyIter (.ref l)) (fun it s₂ => TurnsAt prog w A h₀ env target body Q E it s₂) E s := iter_tupTurns (vs := its.toList) hh F N hm rfl (by rw [Array.toArray_toList]) rest₀
end
section
variable {prog : Program} {w : World} {A : Around} {E : Value → Shared → Prop} {s : Shared} {env : Env} {h₀ : Heap} {body : List Stmt} {Q : Flow → Shared → Prop}
theorem iterR {x : Str} {px : Pos} {r : Addr} {a₀ b₀ : Int} {t₀ u₀ v₀ : Tok} {n : Nat} {m₀ : Str → Option Value} {news : List (Addr × Obj)}
    (hh : A.handled = none) (hr : IsRange s.heap r a₀ b₀ 1 t₀ u₀ v₀) (hsmall : Builtin.Range.small a₀ b₀ 1 = true) (hn : Builtin.Range.rangeSize a₀ b₀ 1 = (n : Int)) (F : Fr h₀ env.locals s.heap m₀) (N : News h₀ env.locals s.heap news)
    (rest₀ : ∀ I : Addr, (∀ p ∈ news, p.1 < I) → ItemsRest prog w A E h₀ env (.Name x px) body Q s [(I, "range_iterator")] [] ((List.range n).map fun i => .tok fun t => .int (a₀ + (i : Nat)) t) m₀ news) :
    wpAny (model prog w) A (pyIter (.ref r)) (fun it s₂ => TurnsAt prog w A h₀ env (.Name x px) body Q E it s₂) E s := by
  refine wpAny_pyIter_range hr hsmall ?_
  refine ktu_core (tk0 := s.toks) (keep := []) (KTurns.ofWalks (Walks.range hh s.heap.objs.size a₀ 1 n).bound fun i v s Q E st q => by unfold letOwnedTupleGo; exact wpAny_pure q) (by simp) (fun i v h hp => ?_) (fun i h st => ?_) (fun b hb => ?_) (fun b hb => by simpa using hb) (fun b hb => ?_) ?_ (fun p hp hI => ?_) ?_ (F.push _) (fun p hp => ⟨Heap.get?_push_of_some _ (N p hp).1, (N p hp).2⟩) trivial (rest₀ _ fun p hp => Heap.lt_size (N p hp).1)
  · obtain ⟨hi, t, rfl⟩ := (hp : i < n ∧ ∃ t, v = Value.int (a₀ + i * 1) t)
    refine ⟨.tok fun t => .int (a₀ + (i : Nat)) t, ?_, t, by rw [Int.mul_one]⟩
    rw [List.getElem?_map, List.getElem?_range hi]; rfl
  · exact ⟨[(s.heap.objs.size, _)], ⟨⟨rfl, rfl⟩, trivial⟩, fun p hp => by rw [List.mem_singleton.mp hp]; exact st⟩
  · have hb' : b = s.heap.objs.size := by simpa using hb
    rw [hb']
    exact ⟨List.mem_cons_self .., next_is_new F⟩
  · have hb' : b = s.heap.objs.size := by simpa using hb
    exact .inl (by simp [hb'])
  · intro hI
    exact absurd F.ns.lt ((List.mem_singleton.mp hI) ▸ Nat.lt_irrefl _)
  · exact absurd (Heap.lt_size (N p hp).1) ((List.mem_singleton.mp hI) ▸ Nat.lt_irrefl _)
  · show IsRangeIter _ _ _ _ _
    rw [hn]
    simpa using Heap.get?_push_size _ rfl
end
section
variable {prog : Program} {w : World} {A : Around} {E : Value → Shared → Prop} {s : Shared} {env : Env} {h₀ : Heap} {body : List Stmt} {Q : Flow → Shared → Prop}
theorem loop_range {x : Str} {px : Pos} {r : Addr} {b₀ : Int} {t₀ u₀ v₀ : Tok} {n : Nat} {m₀ : Str → Option Value} {news : List (Addr × Obj)} (J : Nat → (Str → Option Value) → List (Addr × Obj) → Prop)
    (hh : A.handled = none) (hr : IsRange s.heap r 0 b₀ 1 t₀ u₀ v₀) (hsmall : Builtin.Range.small 0 b₀ 1 = true) (hn : Builtin.Range.rangeSize 0 b₀ 1 = (n : Int)) (F : Fr h₀ env.locals s.heap m₀) (N : News h₀ env.locals s.heap news) (h0 : J 0 m₀ news)
    (turn : ∀ I i t m₁ n₁ h tk, i < n → OffA [(I, "range_iterator")] n₁ → J i m₁ n₁ → Fr h₀ env.locals h m₁ →
      TurnP prog w A E h₀ env (.Name x px) body Q [(I, "range_iterator")] n₁ (fun m' n' => SubL [] n' ∧ J (i + 1) m' n') (.int (i : Nat) t) { s with heap := h, toks := tk })
    (done : ∀ I m₁ n₁ h tk, J n m₁ n₁ → OffA [(I, "range_iterator")] n₁ → Fr h₀ env.locals h m₁ → News h₀ env.locals h n₁ → Q .next { s with heap := h, toks := tk }) :
    wpAny (model prog w) A (pyIter (.ref r)) (fun it s₂ => TurnsAt prog w A h₀ env (.Name x px) body Q E it s₂) E s := by
  refine iterR hh hr hsmall hn F N fun I hI => ?_
  refine rest_inv J _ 0 (fun i a v m₁ n₁ h tk hi hv h1 h2 h3 h4 => ?_) (fun m₁ n₁ h tk h1 h2 h3 h4 h5 => done I m₁ n₁ h tk (by simpa using h1) h3 h4 h5) m₀ news trivial (offA_lt hI (fun q hq => by rw [List.mem_singleton.mp hq]; exact Nat.le_refl _)) h0
  have hlt : i < n := by have := (List.getElem?_eq_some_iff.mp hi).1; simpa using this
  rw [List.getElem?_map, List.getElem?_range hlt] at hi
  simp only [Option.map_some, Option.some.injEq] at hi
  subst hi
  obtain ⟨t, rfl⟩ := hv
  rw [Int.zero_add]
  simpa using turn I i t m₁ n₁ h tk hlt h2 (by simpa using h3) h4
end
-- E1
section
variable {prog : Program} {w : World} {A : Around} {E : Value → Shared → Prop} {s : Shared} {h₀ : Heap} {L a b : Addr} {its its2 : Array Value} {n n2 : Nat} {news : List (Addr × Obj)} {Q : Value → Shared → Prop}
theorem l_eq_len (N : News h₀ L s.heap news) (ha : (a, W.listOf its n) ∈ news) (hb : (b, W.listOf its2 n2) ∈ news) (hz : (its.size != its2.size) = true) (hu : A.units < cLine) (h : Q (.bool false) s) : wpAny (model prog w) A (compareOp .Eq (.ref a) (.ref b)) Q E s :=
  SeqAt.RcAt.lists_lengths (News.isList N ha) (News.isList N hb) hz hu prog w E Q h
theorem l_ne_len (N : News h₀ L s.heap news) (ha : (a, W.listOf its n) ∈ news) (hb : (b, W.listOf its2 n2) ∈ news) (hz : (its.size != its2.size) = true) (hu : A.units < cLine) (h : Q (.bool true) s) : wpAny (model prog w) A (compareOp .NotEq (.ref a) (.ref b)) Q E s :=
  SeqAt.RcNeAt.lists_lengths (News.isList N ha) (News.isList N hb) hz hu prog w E Q h
theorem l_eq_nil (N : News h₀ L s.heap news) (ha : (a, W.listOf its n) ∈ news) (hb : (b, W.listOf its2 n2) ∈ news) (hz : its.size = 0) (hz2 : its2.size = 0) (hu : A.units < cLine) (h : Q (.bool true) s) : wpAny (model prog w) A (compareOp .Eq (.ref a) (.ref b)) Q E s := by
  have := SeqAt.RcAt.lists (e := fun _ => true) (News.isList N ha) (News.isList N hb) (hz.trans hz2.symm) hu (fun j h1 => by omega) prog w E Q
  rw [hz] at this
  exact this h
theorem l_ne_nil (N : News h₀ L s.heap news) (ha : (a, W.listOf its n) ∈ news) (hb : (b, W.listOf its2 n2) ∈ news) (hz : its.size = 0) (hz2 : its2.size = 0) (hu : A.units < cLine) (h : Q (.bool false) s) : wpAny (model prog w) A (compareOp .NotEq (.ref a) (.ref b)) Q E s := by
  have := SeqAt.RcNeAt.lists (e := fun _ => true) (News.isList N ha) (News.isList N hb) (hz.trans hz2.symm) hu (fun j h1 => by omega) prog w E Q
  rw [hz] at this
  exact this h
end
section
variable {prog : Program} {w : World} {A : Around} {E : Value → Shared → Prop} {s : Shared} {h₀ : Heap} {L a b : Addr} {its : Array Value} {n : Nat} {news : List (Addr × Obj)} {Q : Value → Shared → Prop}
theorem l_item {value slice : Expr} {k : Int} {u : Tok} {v : Value} (N : News h₀ L s.heap news) (hm : (a, W.listOf its n) ∈ news) (h0 : 0 ≤ k) (hhi : k < 2 ^ 63) (hx : its.toList[k.toNat]? = some v) (h : Q v s)
    (hs : subscripted slice false (.ref a) (.int k u) = operate [.ref a, .int k u] (getItem (.ref a) (.int k u))) :
    wpAny (model prog w) A (subscriptTail value slice (.ref a) (.int k u)) Q E s :=
  tail_any (News.isList N hm).typeIs slot_list_getitem.lookup (wpAny_getItem_list (News.isList N hm) h0 hhi (by simpa using hx) h) hs
theorem t_item {value slice : Expr} {k : Int} {u : Tok} {v : Value} (N : News h₀ L s.heap news) (hm : (a, ({ cls := .type "tuple", data := .seq its n } : Obj)) ∈ news) (h0 : 0 ≤ k) (hhi : k < 2 ^ 63) (hx : its.toList[k.toNat]? = some v) (h : Q v s)
    (hs : subscripted slice false (.ref a) (.int k u) = operate [.ref a, .int k u] (getItem (.ref a) (.int k u))) :
    wpAny (model prog w) A (subscriptTail value slice (.ref a) (.int k u)) Q E s :=
  item_tupleT (l := its.toList) (News.isTup N (by rw [Array.toArray_toList]; exact hm)) (by omega) hhi (j := k.toNat) (by
    have hlt : k.toNat < its.size := by
      rcases Nat.lt_or_ge k.toNat its.size with h' | h'
      · exact h'
      · rw [List.getElem?_eq_none (by simpa using h')] at hx; cases hx
    unfold seqIndex?
    rw [Array.length_toList]
    simp only [show ¬ k < 0 by omega, if_false]
    rw [if_pos (by simp; omega)]) hx h hs
end
-- L2
theorem map_eta {m : SMap} {x : Str} {v : Value} (e : m x = some v) : setF x v m = m := by
  funext y
  by_cases h : y = x
  · simp [setF, h, e]
  · simp [setF, h]
theorem fr_eta {h₀ h : Heap} {L : Addr} {m : Str → Option Value} (F : Fr h₀ L h m) {x : Str} {v : Value} (e : m x = some v) : Fr h₀ L h (setF x v m) := by
  rw [map_eta e]; exact F
theorem fr_eta2 {h₀ h : Heap} {L : Addr} {m : Str → Option Value} (F : Fr h₀ L h m) {x x2 : Str} {v v2 : Value} (e : m x = some v) (e2 : m x2 = some v2) : Fr h₀ L h (setF x v (setF x2 v2 m)) := by
  have := fr_eta F e
  rw [← map_eta e2] at this; exact this
theorem fr_eta3 {h₀ h : Heap} {L : Addr} {m : Str → Option Value} (F : Fr h₀ L h m) {x x2 x3 : Str} {v v2 v3 : Value} (e : m x = some v) (e2 : m x2 = some v2) (e3 : m x3 = some v3) : Fr h₀ L h (setF x v (setF x2 v2 (setF x3 v3 m))) := by
  have := fr_eta2 F e e2
  rw [← map_eta e3] at this; exact this
theorem fr_eta4 {h₀ h : Heap} {L : Addr} {m : Str → Option Value} (F : Fr h₀ L h m) {x x2 x3 x4 : Str} {v v2 v3 v4 : Value} (e : m x = some v) (e2 : m x2 = some v2) (e3 : m x3 = some v3) (e4 : m x4 = some v4) : Fr h₀ L h (setF x v (setF x2 v2 (setF x3 v3 (setF x4 v4 m)))) := by
  have := fr_eta3 F e e2 e3
  rw [← map_eta e4] at this; exact this
theorem fr_eta5 {h₀ h : Heap} {L : Addr} {m : Str → Option Value} (F : Fr h₀ L h m) {x x2 x3 x4 x5 : Str} {v v2 v3 v4 v5 : Value} (e : m x = some v) (e2 : m x2 = some v2) (e3 : m x3 = some v3) (e4 : m x4 = some v4) (e5 : m x5 = some v5) : Fr h₀ L h (setF x v (setF x2 v2 (setF x3 v3 (setF x4 v4 (setF x5 v5 m))))) := by
  have := fr_eta4 F e e2 e3 e4
  rw [← map_eta e5] at this; exact this
section
variable {w : World} {A : Around} {E : Value → Shared → Prop} {env : Env} {h₀ : Heap} {body : List Stmt} {Q : Flow → Shared → Prop} {hp : Heap} {G : Array GenState} {D : Drawn} {t0 : Nat} {O : OsState} {L : Addr}
theorem turn_one {prog : Program} {target : Expr} {I : Addr} {ty : String} {n₁ : Led} {R : SMap → Led → Prop} {v : Value} {h : Heap} {tk : Nat} (ho : OffA [(I, ty)] n₁)
    (turn : ∀ oI (q : Flow → Shared → Prop), News h₀ env.locals h ((I, oI) :: n₁) → (∀ p ∈ n₁, p.1 ≠ I) → (∀ v s', Q (.ret v) s' → q (.ret v) s') →
      (∀ h' tk' m' n', Fr h₀ env.locals h' m' → News h₀ env.locals h' ((I, oI) :: n') → (∀ p ∈ n', p.1 ≠ I) → R m' n' → q .next ⟨h', G, D, tk', O⟩) →
      wpAny (model prog w) A (assign target env v) (fun _ s₂ => wpAny (model prog w) A (execs body env) q E s₂) E ⟨h, G, D, tk, O⟩) :
    TurnP prog w A E h₀ env target body Q [(I, ty)] n₁ R v ⟨h, G, D, tk, O⟩ := by
  unfold TurnP
  refine AllObj.cons fun oI hoI => ?_
  refine AllObj.nil ?_
  intro NI
  refine turn oI _ NI (offA1 ho) (fun v s' x => x) ?_
  intro h' tk' m' n' F N off r
  exact ⟨h', tk', m', n', rfl, F, N, fun p hp q hq => by rw [List.mem_singleton.mp hq]; exact off p hp, r⟩
theorem turn_two {prog : Program} {target : Expr} {I : Addr} {t1 t2 : String} {n₁ : Led} {R : SMap → Led → Prop} {v : Value} {h : Heap} {tk : Nat} (ho : OffA [(I + 1, t1), (I, t2)] n₁)
    (turn : ∀ oI oJ (q : Flow → Shared → Prop), News h₀ env.locals h ((I + 1, oI) :: (I, oJ) :: n₁) → (∀ p ∈ n₁, p.1 ≠ I ∧ p.1 ≠ I + 1) → (∀ v s', Q (.ret v) s' → q (.ret v) s') →
      (∀ h' tk' m' n', Fr h₀ env.locals h' m' → News h₀ env.locals h' ((I + 1, oI) :: (I, oJ) :: n') → (∀ p ∈ n', p.1 ≠ I ∧ p.1 ≠ I + 1) → R m' n' → q .next ⟨h', G, D, tk', O⟩) →
      wpAny (model prog w) A (assign target env v) (fun _ s₂ => wpAny (model prog w) A (execs body env) q E s₂) E ⟨h, G, D, tk, O⟩) :
    TurnP prog w A E h₀ env target body Q [(I + 1, t1), (I, t2)] n₁ R v ⟨h, G, D, tk, O⟩ := by
  unfold TurnP
  refine AllObj.cons fun oI hoI => AllObj.cons fun oJ hoJ => ?_
  refine AllObj.nil ?_
  intro NI
  refine turn oI oJ _ NI (offA2 ho) (fun v s' x => x) ?_
  intro h' tk' m' n' F N off r
  refine ⟨h', tk', m', n', rfl, F, N, fun p hp q hq => ?_, r⟩
  rcases List.mem_cons.mp hq with rfl | hq
  · exact (off p hp).2
  · rw [List.mem_singleton.mp hq]; exact (off p hp).1
theorem lp_range {x : Str} {px : Pos} {r : Addr} {b₀ : Int} {t₀ u₀ v₀ : Tok} {n : Nat} {m₀ : SMap} {news : Led} (J : Nat → SMap → Led → Prop)
    (hL : env.locals = L) (hh : A.handled = none) (hr : IsRange hp r 0 b₀ 1 t₀ u₀ v₀) (hsmall : Builtin.Range.small 0 b₀ 1 = true) (hn : Builtin.Range.rangeSize 0 b₀ 1 = (n : Int)) (F : Fr h₀ L hp m₀) (N : News h₀ L hp news) (h0 : J 0 m₀ news)
    (turn : ∀ I oI i t m₁ n₁ h tk (q : Flow → Shared → Prop), i < n → J i m₁ n₁ → Fr h₀ L h m₁ → News h₀ L h ((I, oI) :: n₁) → (∀ p ∈ n₁, p.1 ≠ I) → (∀ v s', Q (.ret v) s' → q (.ret v) s') →
      (∀ h' tk' m' n', Fr h₀ L h' m' → News h₀ L h' ((I, oI) :: n') → (∀ p ∈ n', p.1 ≠ I) → J (i + 1) m' n' → q .next ⟨h', G, D, tk', O⟩) →
      wpAny (model PG w) A (assign (.Name x px) env (.int (i : Nat) t)) (fun _ s₂ => wpAny (model PG w) A (execs body env) q E s₂) E ⟨h, G, D, tk, O⟩)
    (done : ∀ m₁ n₁ h tk, J n m₁ n₁ → Fr h₀ L h m₁ → News h₀ L h n₁ → Q .next ⟨h, G, D, tk, O⟩) :
    wpAny (model PG w) A (pyIter (.ref r)) (fun it s₂ => TurnsAt PG w A h₀ env (.Name x px) body Q E it s₂) E ⟨hp, G, D, t0, O⟩ := by
  subst hL
  exact loop_range (s := ⟨hp, G, D, t0, O⟩) J hh hr hsmall hn F N h0 (fun I i t m₁ n₁ h tk hi ho j F => turn_one ho fun oI q NI off k1 k2 => turn I oI i t m₁ n₁ h tk q hi j F NI off k1 fun h' tk' m' n' F N off j => k2 h' tk' m' n' F N off ⟨trivial, j⟩)
    fun _ m₁ n₁ h tk j _ F N => done m₁ n₁ h tk j F N
theorem lp_list {target : Expr} {l : Addr} {vs : List Value} {k : Nat} {m₀ : SMap} {news : Led} (J : Nat → SMap → Led → Prop)
    (hL : env.locals = L) (hh : A.handled = none) (F : Fr h₀ L hp m₀) (N : News h₀ L hp news) (hm : (l, W.listOf vs.toArray k) ∈ news) (h0 : J 0 m₀ news)
    (turn : ∀ I oI i v m₁ n₁ h tk (q : Flow → Shared → Prop), vs[i]? = some v → (l, W.listOf vs.toArray k) ∈ n₁ → J i m₁ n₁ → Fr h₀ L h m₁ → News h₀ L h ((I, oI) :: n₁) → (∀ p ∈ n₁, p.1 ≠ I) → (∀ v s', Q (.ret v) s' → q (.ret v) s') →
      (∀ h' tk' m' n', Fr h₀ L h' m' → News h₀ L h' ((I, oI) :: n') → (∀ p ∈ n', p.1 ≠ I) → (l, W.listOf vs.toArray k) ∈ n' → J (i + 1) m' n' → q .next ⟨h', G, D, tk', O⟩) →
      wpAny (model PG w) A (assign target env v) (fun _ s₂ => wpAny (model PG w) A (execs body env) q E s₂) E ⟨h, G, D, tk, O⟩)
    (done : ∀ m₁ n₁ h tk, J vs.length m₁ n₁ → (l, W.listOf vs.toArray k) ∈ n₁ → Fr h₀ L h m₁ → News h₀ L h n₁ → Q .next ⟨h, G, D, tk, O⟩) :
    wpAny (model PG w) A (pyIter (.ref l)) (fun it s₂ => TurnsAt PG w A h₀ env target body Q E it s₂) E ⟨hp, G, D, t0, O⟩ := by
  subst hL
  exact loop_list (s := ⟨hp, G, D, t0, O⟩) J hh F N hm h0 (fun I i v m₁ n₁ h tk hi hl ho j F => turn_one ho fun oI q NI off k1 k2 => turn I oI i v m₁ n₁ h tk q hi hl j F NI off k1 fun h' tk' m' n' F N off hl j => k2 h' tk' m' n' F N off ⟨subL_one hl, j⟩)
    fun _ m₁ n₁ h tk j hl _ F N => done m₁ n₁ h tk j hl F N
theorem lp_enum {elts : List Expr} {ke : Nat} {pe : Pos} {l : Addr} {vs : List Value} {k : Nat} {m₀ : SMap} {news : Led} (J : Nat → SMap → Led → Prop)
    (hL : env.locals = L) (hh : A.handled = none) (F : Fr h₀ L hp m₀) (N : News h₀ L hp news) (hm : (l, W.listOf vs.toArray k) ∈ news) (h0 : J 0 m₀ news)
    (turn : ∀ I oI oJ i v T t m₁ n₁ h tk (q : Flow → Shared → Prop), vs[i]? = some v → IsTup h T #[.int (i : Nat) t, v] → (l, W.listOf vs.toArray k) ∈ n₁ → J i m₁ n₁ → Fr h₀ L h m₁ → News h₀ L h ((I + 1, oI) :: (I, oJ) :: n₁) → (∀ p ∈ n₁, p.1 ≠ I ∧ p.1 ≠ I + 1) → (∀ v s', Q (.ret v) s' → q (.ret v) s') →
      (∀ h' tk' m' n', Fr h₀ L h' m' → News h₀ L h' ((I + 1, oI) :: (I, oJ) :: n') → (∀ p ∈ n', p.1 ≠ I ∧ p.1 ≠ I + 1) → (l, W.listOf vs.toArray k) ∈ n' → J (i + 1) m' n' → q .next ⟨h', G, D, tk', O⟩) →
      wpAny (model PG w) A (assign (.Tuple elts ke pe) env (.ref T)) (fun _ s₂ => wpAny (model PG w) A (execs body env) q E s₂) E ⟨h, G, D, tk, O⟩)
    (done : ∀ m₁ n₁ h tk, J vs.length m₁ n₁ → (l, W.listOf vs.toArray k) ∈ n₁ → Fr h₀ L h m₁ → News h₀ L h n₁ → Q .next ⟨h, G, D, tk, O⟩) :
    wpAny (model PG w) A (call (.type "enumerate") [.ref l]) (fun xv s₁ => wpAny (model PG w) A (pyIter xv) (fun it s₂ => TurnsAt PG w A h₀ env (.Tuple elts ke pe) body Q E it s₂) E s₁) E ⟨hp, G, D, t0, O⟩ := by
  subst hL
  exact loop_enum (s := ⟨hp, G, D, t0, O⟩) J hh F N hm h0 (fun I i v T t m₁ n₁ h tk hi hT hl ho j F => turn_two ho fun oI oJ q NI off k1 k2 => turn I oI oJ i v T t m₁ n₁ h tk q hi hT hl j F NI off k1 fun h' tk' m' n' F N off hl j => k2 h' tk' m' n' F N off ⟨subL_one hl, j⟩)
    fun _ m₁ n₁ h tk j hl _ F N => done m₁ n₁ h tk j hl F N
end
-- N2
theorem ar_z {n : Nat} : 0 ≤ (n : Int) := Int.natCast_nonneg n
theorem ar_lo {n : Nat} : -2 ^ 1920 < (n : Int) := Int.lt_of_lt_of_le (by decide +kernel) (Int.natCast_nonneg n)
theorem ar_hi {n : Nat} (h : n ≤ 10000) : (n : Int) < 2 ^ 1920 := Int.lt_of_le_of_lt (Int.ofNat_le.mpr h) (by decide +kernel)
theorem ar_10 {n : Nat} (h : n ≤ 10000) : (n : Int) < 10 ^ 10 := Int.lt_of_le_of_lt (Int.ofNat_le.mpr h) (by decide +kernel)
theorem ar_63 {n : Nat} (h : n ≤ 10000) : (n : Int) < 2 ^ 63 := Int.lt_of_le_of_lt (Int.ofNat_le.mpr h) (by decide +kernel)
theorem ar_up {n : Nat} (h : n ≤ 10000) : (n : Int) + 1 ≤ ((10000 : Nat) : Int) + 1 := Int.add_le_add_right (Int.ofNat_le.mpr h) 1
theorem ar_z1 {n : Nat} : 0 ≤ (n : Int) + 1 := Int.add_nonneg (Int.natCast_nonneg n) (by decide)
theorem ar_lo1 {n : Nat} : -2 ^ 1920 < (n : Int) + 1 := Int.lt_of_lt_of_le (by decide +kernel) ar_z1
theorem ar_hi1 {n : Nat} (h : n ≤ 10000) : (n : Int) + 1 < 2 ^ 1920 := Int.lt_of_le_of_lt (ar_up h) (by decide +kernel)
theorem ar_101 {n : Nat} (h : n ≤ 10000) : (n : Int) + 1 < 10 ^ 10 := Int.lt_of_le_of_lt (ar_up h) (by decide +kernel)
theorem ar_max {a b : Int} : (if b > a then b else a) = max a b := by
  by_cases h : a < b
  · rw [if_pos h, Int.max_eq_right (Int.le_of_lt h)]
  · rw [if_neg h, Int.max_eq_left (Int.not_lt.mp h)]
theorem ar_add {a x : Int} (h : 0 ≤ x) : a + x = max a (a + x) := (Int.max_eq_right (Int.le_add_of_nonneg_right h)).symm
theorem ar_ss {n i : Nat} (h : i < n) : n - i = (n - (i + 1)) + 1 := (Nat.succ_pred_eq_of_pos (Nat.sub_pos_of_lt h)).symm
theorem ar_s1 {n i k : Nat} (h : n - i = k + 1) : n - (i + 1) = k := congrArg Nat.pred h
theorem ar_s2 {n i k : Nat} (h : n - i = k + 1) : i < n := Nat.lt_of_sub_eq_succ h
theorem ar_dec {n i : Nat} (h : i < n) : n + 1 - (i + 1) < n + 1 - i := Nat.sub_lt_sub_left (Nat.lt_succ_of_lt h) (Nat.lt_succ_self i)
theorem ar_far {x n : Nat} (h : x < n) : x ≠ n ∧ x ≠ n + 1 ∧ x ≠ n + 2 ∧ x ≠ n + 3 := ⟨Nat.ne_of_lt h, Nat.ne_of_lt (Nat.lt_succ_of_lt h), Nat.ne_of_lt (Nat.lt_succ_of_lt (Nat.lt_succ_of_lt h)), Nat.ne_of_lt (Nat.lt_succ_of_lt (Nat.lt_succ_of_lt (Nat.lt_succ_of_lt h)))⟩
theorem ar_s0 {n i : Nat} (h : n - i = 0) (h2 : i ≤ n) : i = n := Nat.le_antisymm h2 (Nat.le_of_sub_eq_zero h)
noncomputable def okAt (K : Frag) (C : Addr) (name : Str) : Bool := plainGet K C name && (hasDictIn K C && (match findIn K (.ref C) name with | some a => noGet K a | none => false))
theorem okAt_spec {K : Frag} {C : Addr} {name : Str} (h : okAt K C name = true) : plainGet K C name = true ∧ hasDictIn K C = true ∧ ∃ a, findIn K (.ref C) name = some a ∧ noGet K a = true := by
  unfold okAt at h
  simp only [Bool.and_eq_true] at h
  refine ⟨h.1, h.2.1, ?_⟩
  have h3 := h.2.2
  split at h3
  · exact ⟨_, by assumption, h3⟩
  · cases h3
noncomputable def okNm (sc : Scope) (x : Str) : Bool := decide (sc.kind = .function) && (decide (sc.names.lookup x = some .local) && !(x == ("__debug__" : Str)))
theorem okNm_spec {sc : Scope} {x : Str} (h : okNm sc x = true) : sc.kind = .function ∧ sc.names.lookup x = some .local ∧ (x == ("__debug__" : Str)) = false := by
  unfold okNm at h
  simp only [Bool.and_eq_true, decide_eq_true_eq, Bool.not_eq_true'] at h
  exact ⟨h.1, h.2.1, h.2.2⟩
section
variable {w : World} {A : Around} {E : Value → Shared → Prop} {g h : Heap} {G : Array GenState} {D : Drawn} {tk : Nat} {O : OsState} {L : Addr} {m : SMap} {news : Led} {cn : Str} {cs : Scope} {a : Addr} {ccd : Value}
theorem at_L {x attr : Str} {xp pos : Pos} {o d C : Addr} {es : List DictEntry} {n : Nat} {v : Value} {Q : Value → Shared → Prop} (F : Fr g L h m) (X : (Mine.hd.heap_1_39 w.params).In g) (N : News g L h news) (hv : m x = some (.ref o))
    (h1 : (o, instObj C d) ∈ news) (h2 : (d, dictOf es n) ∈ news) (hl : getL attr es = some (some v)) (hhd : handedIn v = true) (hc : okAt (Mine.hd.heap_1_39 w.params) C attr = true) (hn : okNm cs x = true)
    (k : Q v ⟨h, G, D, tk + 1, O⟩)
    (he : eval (.Attribute (.Name x xp) attr pos) (envOf cn cs L a ccd) = (do
      let o ← eval (.Name x xp) (envOf cn cs L a ccd)
      standAt pos.atName
      let r ← holding [o] (getAttr o attr true)
      letTemporaryGo (.Name x xp) o r
      pure r) := by with_unfolding_all rfl) : wpAny (model PG w) A (eval (.Attribute (.Name x xp) attr pos) (envOf cn cs L a ccd)) Q E ⟨h, G, D, tk, O⟩ := by
  obtain ⟨c1, c2, c3⟩ := okNm_spec hn
  obtain ⟨d1, d2, av, d3, d4⟩ := okAt_spec hc
  refine Attribute_Name_ ?_ he
  refine nameX_L (s := ⟨h, G, D, tk, O⟩) F hv ?_ c1 ?_ c3
  · exact get_own (s := ⟨h, G, D, tk, O⟩) F X ⟨News.get N h1, rfl, rfl, News.get N h2⟩ d1 d2 d3 d4 hl hhd k
  · show (envOf cn cs L a ccd).kindOf x = _
    exact c2
end
noncomputable def IntP (k : Int) : Led → Value → Prop := fun _ r => ∃ t, r = .int k t
noncomputable def BytP (n : Nat) : Led → Value → Prop := fun _ r => ∃ a t, a.size = n ∧ r = .bytes a t
section
variable {w : World} {nd nu : Nat} {f : Addr} {args : List Value} {news : Led} {exc : Prop} {A A₀ : Around} {env : Env} {outer : List Env} {base g : Heap} {L : Addr} {mg mb : SMap} {mean : ExcName → Option Value} {m : SMap} {h : Heap} {G : Array GenState} {D : Drawn} {tk : Nat} {O : OsState} {Q E : Value → Shared → Prop} {nd' nu' : Nat}
theorem use_int {k : Int} (c : Amb w A A₀ env outer base g L mg mb mean) (F : Fr g L h m) (N : News g L h news) (hd9 : A.depth + nd' < recursionLimit) (hu9 : A.units + nu' < cLine) (C : Ct w nd nu f args news (IntP k) exc) (h1 : Nat.ble nd nd' = true) (h2 : Nat.ble nu nu' = true)
    (hx : exc → ∀ e t vs h' tk' g', Fr g L g' m → RaisedS base g' (env :: outer) e (.ref 83) t vs news h' → g'.UpToSlots h' → E (.ref e) ⟨h', G, D, tk', O⟩)
    (ret : ∀ t h' tk', Fr g L h' m → News g L h' news → Q (.int k t) ⟨h', G, D, tk', O⟩) : wpAny (model PG w) A (call (.ref f) args) Q E ⟨h, G, D, tk, O⟩ :=
  ct_use c F N hd9 hu9 C h1 h2 hx fun _ _ h' tk' F N _ ⟨_, e⟩ => e ▸ ret _ h' tk' F (news_sub N fun _ x => List.mem_append_right _ x)
theorem use_byt {n : Nat} (c : Amb w A A₀ env outer base g L mg mb mean) (F : Fr g L h m) (N : News g L h news) (hd9 : A.depth + nd' < recursionLimit) (hu9 : A.units + nu' < cLine) (C : Ct w nd nu f args news (BytP n) exc) (h1 : Nat.ble nd nd' = true) (h2 : Nat.ble nu nu' = true)
    (hx : exc → ∀ e t vs h' tk' g', Fr g L g' m → RaisedS base g' (env :: outer) e (.ref 83) t vs news h' → g'.UpToSlots h' → E (.ref e) ⟨h', G, D, tk', O⟩)
    (ret : ∀ a t h' tk', Array.size a = n → Fr g L h' m → News g L h' news → Q (.bytes a t) ⟨h', G, D, tk', O⟩) : wpAny (model PG w) A (call (.ref f) args) Q E ⟨h, G, D, tk, O⟩ :=
  ct_use c F N hd9 hu9 C h1 h2 hx fun _ _ h' tk' F N _ ⟨_, _, hz, e⟩ => e ▸ ret _ _ h' tk' hz F (news_sub N fun _ x => List.mem_append_right _ x)
end
noncomputable def OptI (x : Option Int) : Led → Value → Prop := fun _ r => ∃ g t, x = some g ∧ r = .int g t
noncomputable def OptD (x : Option Int) (d : Int) : Led → Value → Prop := fun _ r => ∃ g t, x = some g ∧ r = .int (g - d) t
section
variable {w : World} {nd nu : Nat} {f : Addr} {args : List Value} {news : Led} {exc : Prop} {A A₀ : Around} {env : Env} {outer : List Env} {base g : Heap} {L : Addr} {mg mb : SMap} {mean : ExcName → Option Value} {m : SMap} {h : Heap} {G : Array GenState} {D : Drawn} {tk : Nat} {O : OsState} {Q E : Value → Shared → Prop} {nd' nu' : Nat}
theorem use_optD {x : Option Int} {d : Int} (c : Amb w A A₀ env outer base g L mg mb mean) (F : Fr g L h m) (N : News g L h news) (hd9 : A.depth + nd' < recursionLimit) (hu9 : A.units + nu' < cLine) (C : Ct w nd nu f args news (OptD x d) exc) (h1 : Nat.ble nd nd' = true) (h2 : Nat.ble nu nu' = true)
    (hx : exc → ∀ e t vs h' tk' g', Fr g L g' m → RaisedS base g' (env :: outer) e (.ref 83) t vs news h' → g'.UpToSlots h' → E (.ref e) ⟨h', G, D, tk', O⟩)
    (ret : ∀ k t h' tk', x = some k → Fr g L h' m → News g L h' news → Q (.int (k - d) t) ⟨h', G, D, tk', O⟩) : wpAny (model PG w) A (call (.ref f) args) Q E ⟨h, G, D, tk, O⟩ :=
  ct_use c F N hd9 hu9 C h1 h2 hx fun _ _ h' tk' F N _ ⟨_, _, hz, e⟩ => e ▸ ret _ _ h' tk' hz F (news_sub N fun _ x => List.mem_append_right _ x)
theorem use_optI {x : Option Int} (c : Amb w A A₀ env outer base g L mg mb mean) (F : Fr g L h m) (N : News g L h news) (hd9 : A.depth + nd' < recursionLimit) (hu9 : A.units + nu' < cLine) (C : Ct w nd nu f args news (OptI x) exc) (h1 : Nat.ble nd nd' = true) (h2 : Nat.ble nu nu' = true)
    (hx : exc → ∀ e t vs h' tk' g', Fr g L g' m → RaisedS base g' (env :: outer) e (.ref 83) t vs news h' → g'.UpToSlots h' → E (.ref e) ⟨h', G, D, tk', O⟩)
    (ret : ∀ k t h' tk', x = some k → Fr g L h' m → News g L h' news → Q (.int k t) ⟨h', G, D, tk', O⟩) : wpAny (model PG w) A (call (.ref f) args) Q E ⟨h, G, D, tk, O⟩ :=
  ct_use c F N hd9 hu9 C h1 h2 hx fun _ _ h' tk' F N _ ⟨_, _, hz, e⟩ => e ▸ ret _ _ h' tk' hz F (news_sub N fun _ x => List.mem_append_right _ x)
theorem ct_mono {nd' nu' : Nat} {Post Post' : Led → Value → Prop} {exc exc' : Prop} (C : Ct w nd nu f args news Post exc) (h1 : nd ≤ nd') (h2 : nu ≤ nu') (hP : ∀ tl r, Post tl r → Post' tl r) (he : exc → exc') : Ct w nd' nu' f args news Post' exc' := by
  unfold Ct
  intro A A₀ env outer base g L mg mb mean m h G D tk O Q E c F N hd9 hu9 hret hexc
  exact C A A₀ env outer base g L mg mb mean m h G D tk O Q E c F N (Nat.lt_of_le_of_lt (Nat.add_le_add_left (by assumption) _) (by assumption)) (Nat.lt_of_le_of_lt (Nat.add_le_add_left (by assumption) _) (by assumption)) (fun r tl h' tk' a1 a2 a3 a4 => hret r tl h' tk' a1 a2 a3 (hP _ _ a4)) (fun h => hexc (he h))
end
-- Sv
noncomputable def lname (env : Env) (x : Str) : Bool := decide (env.kindOf x = some .local) && !(x == ("__debug__" : Str))
/-- a name of the frame, a constant, an item or an attribute of what lies on the ledger -/
inductive Sv1 (w : World) (env : Env) (m : SMap) (news : Led) : Expr → Value → Nat → Nat → Prop
  | name {x : Str} {pos : Pos} {v : Value} {t : Nat} (hv : m x = some v) (hx : lname env x = true) : Sv1 w env m news (.Name x pos) v t t
  | int {i : Int} {k : Nat} {pos : Pos} {t : Nat} : Sv1 w env m news (.Constant (.int i) k pos) (.int i t) t (t + 1)
  | str {x : Str} {k : Nat} {pos : Pos} {t : Nat} : Sv1 w env m news (.Constant (.str x) k pos) (.str x t) t (t + 1)
  | bool {b : Bool} {k : Nat} {pos : Pos} {t : Nat} : Sv1 w env m news (.Constant (.bool b) k pos) (.bool b) t t
  | item {x : Str} {xp pos ps : Pos} {i : Int} {k n : Nat} {a : Addr} {its : Array Value} {v : Value} {t : Nat} (hv : m x = some (.ref a)) (hx : lname env x = true) (hm : (a, ({ cls := .type "tuple", data := .seq its n } : Obj)) ∈ news ∨ (a, PySem.W.listOf its n) ∈ news)
      (hi : (decide (0 ≤ i) && decide (i < 2 ^ 63)) = true) (e : its.toList[i.toNat]? = some v) : Sv1 w env m news (.Subscript (.Name x xp) (.Constant (.int i) k pos) ps) v t (t + 1)
  | attr {x attr : Str} {xp pos : Pos} {o d C : Addr} {ds : List DictEntry} {n : Nat} {v : Value} {t : Nat} (hv : m x = some (.ref o)) (hx : lname env x = true) (h1 : (o, instObj C d) ∈ news) (h2 : (d, dictOf ds n) ∈ news) (hl : getL attr ds = some (some v)) (hhd : handedIn v = true)
      (hc : okAt (Mine.hd.heap_1_39 w.params) C attr = true) : Sv1 w env m news (.Attribute (.Name x xp) attr pos) v t (t + 1)
inductive Sv (w : World) (env : Env) (m : SMap) (news : Led) : List Expr → List Value → Nat → Nat → Prop
  | nil {t : Nat} : Sv w env m news [] [] t t
  | cons {e : Expr} {v : Value} {es : List Expr} {vs : List Value} {t t1 t' : Nat} (a : Sv1 w env m news e v t t1) (b : Sv w env m news es vs t1 t') : Sv w env m news (e :: es) (v :: vs) t t'
section
variable {w : World} {A : Around} {E : Value → Shared → Prop} {h₀ h : Heap} {L : Addr} {env : Env} {m : SMap} {news : Led} {G : Array GenState} {D : Drawn} {O : OsState}
theorem sv_name {x : Str} {pos : Pos} {v : Value} {t : Nat} {Q : Value → Shared → Prop} (F : Fr h₀ L h m) (hk : env.scope.kind = .function) (hL : env.locals = L) (hx : lname env x = true) (hv : m x = some v) (q : Q v ⟨h, G, D, t, O⟩) : wpAny (model PG w) A (eval (.Name x pos) env) Q E ⟨h, G, D, t, O⟩ := by
  simp only [lname, Bool.and_eq_true, decide_eq_true_eq, Bool.not_eq_true'] at hx
  subst hL
  exact wpAny_Name (wpAny_loadName_local hk hx.1 F.ns hv q) hx.2
theorem sv_item {x : Str} {xp pos ps : Pos} {i : Int} {k n : Nat} {a : Addr} {its : Array Value} {v : Value} {t : Nat} {Q : Value → Shared → Prop} (F : Fr h₀ L h m) (N : News h₀ L h news) (hk : env.scope.kind = .function) (hL : env.locals = L) (hv : m x = some (.ref a)) (hx : lname env x = true) (hm : (a, ({ cls := .type "tuple", data := .seq its n } : Obj)) ∈ news ∨ (a, PySem.W.listOf its n) ∈ news)
    (hi : (decide (0 ≤ i) && decide (i < 2 ^ 63)) = true) (e : its.toList[i.toNat]? = some v) (q : Q v ⟨h, G, D, t + 1, O⟩) : wpAny (model PG w) A (eval (.Subscript (.Name x xp) (.Constant (.int i) k pos) ps) env) Q E ⟨h, G, D, t, O⟩ := by
  rw [Bool.and_eq_true, decide_eq_true_eq, decide_eq_true_eq] at hi
  exact Subscript_ (sv_name F hk hL hx hv (wpAny_Constant_int (hm.elim (fun hm => t_item (s := ⟨h, G, D, t + 1, O⟩) N hm hi.1 hi.2 e q rfl) fun hm => l_item (s := ⟨h, G, D, t + 1, O⟩) N hm hi.1 hi.2 e q rfl)))
theorem sv_attr {x attr : Str} {xp pos : Pos} {o d C : Addr} {ds : List DictEntry} {n : Nat} {v : Value} {t : Nat} {Q : Value → Shared → Prop} (F : Fr h₀ L h m) (X : (Mine.hd.heap_1_39 w.params).In h₀) (N : News h₀ L h news) (hk : env.scope.kind = .function) (hL : env.locals = L) (hv : m x = some (.ref o)) (hx : lname env x = true) (h1 : (o, instObj C d) ∈ news) (h2 : (d, dictOf ds n) ∈ news)
    (hl : getL attr ds = some (some v)) (hhd : handedIn v = true) (hc : okAt (Mine.hd.heap_1_39 w.params) C attr = true) (q : Q v ⟨h, G, D, t + 1, O⟩) : wpAny (model PG w) A (eval (.Attribute (.Name x xp) attr pos) env) Q E ⟨h, G, D, t, O⟩ := by
  obtain ⟨d1, d2, av, d3, d4⟩ := okAt_spec hc
  exact Attribute_Name_ (sv_name F hk hL hx hv (get_own (s := ⟨h, G, D, t, O⟩) F X ⟨News.get N h1, rfl, rfl, News.get N h2⟩ d1 d2 d3 d4 hl hhd q)) rfl
theorem sv_one {e : Expr} {v : Value} {t t' : Nat} (F : Fr h₀ L h m) (X : (Mine.hd.heap_1_39 w.params).In h₀) (N : News h₀ L h news) (hk : env.scope.kind = .function) (hL : env.locals = L) (S : Sv1 w env m news e v t t') {Q : Value → Shared → Prop} (q : Q v ⟨h, G, D, t', O⟩) : wpAny (model PG w) A (eval e env) Q E ⟨h, G, D, t, O⟩ := by
  cases S with
  | name hv hx => exact sv_name F hk hL hx hv q
  | int => exact wpAny_Constant_int q
  | str => exact wpAny_Constant_str q
  | bool => exact wpAny_Constant_bool q
  | item hv hx hm hi e => exact sv_item F N hk hL hv hx hm hi e q
  | attr hv hx o1 o2 hl hhd hc => exact sv_attr F X N hk hL hv hx o1 o2 hl hhd hc q
theorem sv_plain {e : Expr} {es : List Expr} {v : Value} {t t' : Nat} (S : Sv1 w env m news e v t t') : starEach (e :: es) env = (false, eval e env) :: starEach es env := by
  cases S <;> rfl
theorem sv_spl (F : Fr h₀ L h m) (X : (Mine.hd.heap_1_39 w.params).In h₀) (N : News h₀ L h news) (hk : env.scope.kind = .function) (hL : env.locals = L) {es : List Expr} {vs : List Value} {t t' : Nat} (S : Sv w env m news es vs t t') {pos : Pos} {Q : List Value → Shared → Prop} (q : Q vs ⟨h, G, D, t', O⟩) : wpAny (model PG w) A (spliced (backTo pos (starEach es env))) Q E ⟨h, G, D, t, O⟩ := by
  induction S generalizing Q with
  | nil => exact args_nil q
  | cons a _ ih => exact args_cons (sv_one F X N hk hL a (ih q)) (sv_plain a)
theorem sv_two {a b : Expr} {x y : Value} {t t1 t' : Nat} (F : Fr h₀ L h m) (X : (Mine.hd.heap_1_39 w.params).In h₀) (N : News h₀ L h news) (hk : env.scope.kind = .function) (hL : env.locals = L) (S1 : Sv1 w env m news a x t t1) (S2 : Sv1 w env m news b y t1 t') {α : Type} {f : Value → Value → Sem α} {Q : α → Shared → Prop} (q : wpAny (model PG w) A (f x y) Q E ⟨h, G, D, t', O⟩) :
    wpAny (model PG w) A (eval a env) (fun o s₁ => wpAny (model PG w) A (eval b env) (fun i s₂ => wpAny (model PG w) A (f o i) Q E s₂) E s₁) E ⟨h, G, D, t, O⟩ := sv_one F X N hk hL S1 (sv_one F X N hk hL S2 q)
theorem sv_sub {value slice : Expr} {pos : Pos} {x y : Value} {t t1 t' : Nat} {Q : Value → Shared → Prop} (F : Fr h₀ L h m) (X : (Mine.hd.heap_1_39 w.params).In h₀) (N : News h₀ L h news) (hk : env.scope.kind = .function) (hL : env.locals = L) (S1 : Sv1 w env m news value x t t1) (S2 : Sv1 w env m news slice y t1 t') (q : wpAny (model PG w) A (subscriptTail value slice x y) Q E ⟨h, G, D, t', O⟩) :
    wpAny (model PG w) A (eval (.Subscript value slice pos) env) Q E ⟨h, G, D, t, O⟩ := Subscript_ (sv_two F X N hk hL S1 S2 q)
theorem sv_bin {l r : Expr} {op : Operator} {pos : Pos} {x y : Value} {t t1 t' : Nat} {Q : Value → Shared → Prop} (F : Fr h₀ L h m) (X : (Mine.hd.heap_1_39 w.params).In h₀) (N : News h₀ L h news) (hk : env.scope.kind = .function) (hL : env.locals = L) (S1 : Sv1 w env m news l x t t1) (S2 : Sv1 w env m news r y t1 t') (q : wpAny (model PG w) A (binaryOp op x y) Q E ⟨h, G, D, t', O⟩) :
    wpAny (model PG w) A (eval (.BinOp l op r pos) env) Q E ⟨h, G, D, t, O⟩ := wpAny_BinOp (sv_two F X N hk hL S1 S2 q)
theorem sv_cmp {l r : Expr} {op : CmpOp} {pos : Pos} {whole : Sem Value} {x y : Value} {t t1 t' : Nat} {Q : Bool → Shared → Prop} (F : Fr h₀ L h m) (X : (Mine.hd.heap_1_39 w.params).In h₀) (N : News h₀ L h news) (hk : env.scope.kind = .function) (hL : env.locals = L) (S1 : Sv1 w env m news l x t t1) (S2 : Sv1 w env m news r y t1 t') (hm : behindInMarks op r = false)
    (q : wpAny (model PG w) A (compareOp op x y) (fun c s₃ => wpAny (model PG w) A (truthy c) Q E s₃) E ⟨h, G, D, t', O⟩) : wpAny (model PG w) A (isTrue (.Compare l [op] [r] pos) env whole) Q E ⟨h, G, D, t, O⟩ := wpAny_isTrue_Compare1 (sv_two F X N hk hL S1 S2 q) hm
theorem sv_eqs {l r : Expr} {pos : Pos} {whole : Sem Value} {x y : Str} {tx ty t t1 t' : Nat} {Q : Bool → Shared → Prop} (F : Fr h₀ L h m) (X : (Mine.hd.heap_1_39 w.params).In h₀) (N : News h₀ L h news) (hk : env.scope.kind = .function) (hL : env.locals = L) (S1 : Sv1 w env m news l (.str x tx) t t1) (S2 : Sv1 w env m news r (.str y ty) t1 t') (hm : behindInMarks .Eq r = false)
    (q : Q (x == y) ⟨h, G, D, t', O⟩) : wpAny (model PG w) A (isTrue (.Compare l [.Eq] [r] pos) env whole) Q E ⟨h, G, D, t, O⟩ := sv_cmp F X N hk hL S1 S2 hm (PyProof.Rows.eq_str (wpAny_truthy_bool q))
theorem sv_nes {l r : Expr} {pos : Pos} {whole : Sem Value} {x y : Str} {tx ty t t1 t' : Nat} {Q : Bool → Shared → Prop} (F : Fr h₀ L h m) (X : (Mine.hd.heap_1_39 w.params).In h₀) (N : News h₀ L h news) (hk : env.scope.kind = .function) (hL : env.locals = L) (S1 : Sv1 w env m news l (.str x tx) t t1) (S2 : Sv1 w env m news r (.str y ty) t1 t') (hm : behindInMarks .NotEq r = false)
    (q : Q (x != y) ⟨h, G, D, t', O⟩) : wpAny (model PG w) A (isTrue (.Compare l [.NotEq] [r] pos) env whole) Q E ⟨h, G, D, t, O⟩ := sv_cmp F X N hk hL S1 S2 hm (PyProof.Rows.ne_str (wpAny_truthy_bool q))
noncomputable def gname (env : Env) (x : Str) : Bool := decide (env.scope.kind = .function) && (decide (env.kindOf x = some .globalImplicit) && !(x == ("__debug__" : Str)))
theorem sv_flat {es : List Expr} {vs : List Value} {t t' : Nat} (S : Sv w env m news es vs t t') {pos : Pos} : (backTo pos (starEach es env)).any (·.1) = false := by
  induction S with
  | nil => rfl
  | cons a _ ih => rw [sv_plain a]; exact ih
/-- the call of a def by its name, with simple arguments -/
theorem cl_L {cn : Str} {cs : Scope} {fa : Addr} {ccd : Value} {x : Str} {xp pos : Pos} {e : Expr} {es : List Expr} {vs : List Value} {t t' : Nat} {f : Value} {mg mb : SMap} {mean : ExcName → Option Value} {Q : Value → Shared → Prop} (F : Fr h₀ L h m) (X : (Mine.hd.heap_1_39 w.params).In h₀) (T : Top Mine.hd.view_1_40 lo5 mean mg mb h₀) (N : News h₀ L h news)
    (S : Sv w (envOf cn cs L fa ccd) m news (e :: es) vs t t') (e1 : nsIn (Mine.hd.heap_1_39 w.params) mainGlobals x = some (some f)) (hk : keepIn (Mine.hd.heap_1_39 w.params) f = true) (hg : gname (envOf cn cs L fa ccd) x = true) (q : wpAny (model PG w) A (call f vs) Q E ⟨h, G, D, t', O⟩) :
    wpAny (model PG w) A (eval (.Call (.Name x xp) (e :: es) [] pos) (envOf cn cs L fa ccd)) Q E ⟨h, G, D, t, O⟩ := by
  simp only [gname, Bool.and_eq_true, decide_eq_true_eq, Bool.not_eq_true'] at hg
  have S' := S
  cases S' with
  | cons a b =>
    exact Call_ (nameX_K (s := ⟨h, G, D, t, O⟩) (cl := []) F X (topRead_of T) e1 (callWith_K X hk (sv_spl F X N hg.1 rfl S ⟨X.keeps F.keep, q⟩) (sv_plain a) (sv_flat b)) hg.1 hg.2.1 hg.2.2) rfl
/-- a tuple of such -/
theorem sv_tup {elts : List Expr} {k9z : Nat} {pos : Pos} {vs : List Value} {t t' : Nat} {Q : Value → Shared → Prop} (F : Fr h₀ L h m) (X : (Mine.hd.heap_1_39 w.params).In h₀) (N : News h₀ L h news) (hk : env.scope.kind = .function) (hL : env.locals = L) (S : Sv w env m news elts vs t t') (hz : Nat.ble vs.length 1000 = true)
    (q : ∀ d h' tk', Fr h₀ L h' m → News h₀ L h' ((d, ({ cls := .type "tuple", data := .seq vs.toArray } : Obj)) :: news) → (∀ p ∈ news, p.1 < d) → Q (.ref d) ⟨h', G, D, tk', O⟩) : wpAny (model PG w) A (eval (.Tuple elts k9z pos) env) Q E ⟨h, G, D, t, O⟩ :=
  Tuple_ (sv_spl F X N hk hL S (kup_newTuple (s := ⟨h, G, D, t', O⟩) F N (fun d h' F' N' l => q d h' t' F' N' l) (Nat.le_trans (Nat.le_of_ble_eq_true hz) (by rw [sizeLine_eq]; decide))))
end
section
variable {M : Model} {A : Around} {E : Value → Shared → Prop} {h₀ h : Heap} {L : Addr} {env : Env} {m : SMap} {G : Array GenState} {D : Drawn} {O : OsState}
/-- a store to a name of the frame, the tokens forgotten -/
theorem st_L {x : Str} {v : Value} {t : Nat} {news : Led} {Q : Unit → Shared → Prop} (F : Fr h₀ L h m) (hk : env.scope.kind = .function) (hL : env.locals = L) (N : News h₀ L h news) (hx : decide (env.kindOf x = some .local) = true)
    (q : ∀ h' tk', Fr h₀ L h' (setF x v m) → News h₀ L h' news → Q () ⟨h', G, D, tk', O⟩) : wpAny M A (storeName env x v) Q E ⟨h, G, D, t, O⟩ := by
  subst hL
  exact wpAny_storeName_local (of_decide_eq_true hx) F.ns (fun h' hn hs => q h' _ (F.set hn hs) (N.set hs)) (by rw [hk]; rfl)
/-- new lists and tuples, the tokens forgotten -/
theorem nl_L {vs : List Value} {t : Nat} {news : Led} {Q : Value → Shared → Prop} (F : Fr h₀ L h m) (N : News h₀ L h news) (hz : Nat.ble vs.length 1000 = true)
    (q : ∀ l h' tk', Fr h₀ L h' m → News h₀ L h' ((l, PySem.W.listOf vs.toArray 0) :: news) → (∀ p ∈ news, p.1 < l) → Q (.ref l) ⟨h', G, D, tk', O⟩) : wpAny M A (newList vs) Q E ⟨h, G, D, t, O⟩ :=
  newList_K (s := ⟨h, G, D, t, O⟩) F N (fun l h' F' N' l1 => q l h' t F' N' l1) (Nat.le_trans (Nat.le_of_ble_eq_true hz) (by rw [sizeLine_eq]; decide))
theorem nt_L {vs : List Value} {t : Nat} {news : Led} {Q : Value → Shared → Prop} (F : Fr h₀ L h m) (N : News h₀ L h news) (hz : Nat.ble vs.length 1000 = true)
    (q : ∀ d h' tk', Fr h₀ L h' m → News h₀ L h' ((d, ({ cls := .type "tuple", data := .seq vs.toArray } : Obj)) :: news) → (∀ p ∈ news, p.1 < d) → Q (.ref d) ⟨h', G, D, tk', O⟩) : wpAny M A (newTuple vs) Q E ⟨h, G, D, t, O⟩ :=
  kup_newTuple (s := ⟨h, G, D, t, O⟩) F N (fun d h' F' N' l => q d h' t F' N' l) (Nat.le_trans (Nat.le_of_ble_eq_true hz) (by rw [sizeLine_eq]; decide))
theorem news_tl {x : Addr × Obj} {r : Led} (N : News h₀ L h (x :: r)) : News h₀ L h r := fun p hp => N p (.tail _ hp)
theorem un_one {x : Str} {pos : Pos} {v : Value} {t : Nat} {news : Led} {Q : Unit → Shared → Prop} {ts : List (Value → Sem Unit)} {xs : List Value} (F : Fr h₀ L h m) (hk : env.scope.kind = .function) (hL : env.locals = L) (N : News h₀ L h news) (hx : decide (env.kindOf x = some .local) = true)
    (q : ∀ h' tk', Fr h₀ L h' (setF x v m) → News h₀ L h' news → wpAny M A (assignInOrder ts xs) Q E ⟨h', G, D, tk', O⟩) : wpAny M A (assignInOrder (assign (.Name x pos) env :: ts) (v :: xs)) Q E ⟨h, G, D, t, O⟩ :=
  assignInOrder_cons (assign_Name (st_L F hk hL N hx q))
end
section
variable {w : World} {A : Around} {E : Value → Shared → Prop} {h₀ h : Heap} {L : Addr} {env : Env} {m : SMap} {G : Array GenState} {D : Drawn} {O : OsState} {x y z : Str} {p1 p2 p3 pos : Pos} {k9z t : Nat} {a : Addr} {v1 v2 v3 : Value} {news : Led} {Q : Unit → Shared → Prop}
/-- x, y = a tuple of two -/
theorem un2 (F : Fr h₀ L h m) (hk : env.scope.kind = .function) (hL : env.locals = L) (hh : A.handled = none) (N : News h₀ L h news) (T : IsTup h a #[v1, v2]) (hx : (decide (env.kindOf x = some .local) && decide (env.kindOf y = some .local)) = true)
    (q : ∀ h' tk', Fr h₀ L h' (setF y v2 (setF x v1 m)) → News h₀ L h' news → Q () ⟨h', G, D, tk', O⟩) : wpAny (model PG w) A (assign (.Tuple [.Name x p1, .Name y p2] k9z pos) env (.ref a)) Q E ⟨h, G, D, t, O⟩ := by
  rw [Bool.and_eq_true] at hx
  exact unpackN_ (s := ⟨h, G, D, t, O⟩) F N T hh rfl rfl fun h1 F1 N1 => un_one F1 hk hL N1 hx.1 fun h2 t2 F2 N2 => un_one F2 hk hL N2 hx.2 fun h3 t3 F3 N3 => assignInOrder_nil (q h3 t3 F3 N3)
theorem un3 (F : Fr h₀ L h m) (hk : env.scope.kind = .function) (hL : env.locals = L) (hh : A.handled = none) (N : News h₀ L h news) (T : IsTup h a #[v1, v2, v3]) (hx : (decide (env.kindOf x = some .local) && (decide (env.kindOf y = some .local) && decide (env.kindOf z = some .local))) = true)
    (q : ∀ h' tk', Fr h₀ L h' (setF z v3 (setF y v2 (setF x v1 m))) → News h₀ L h' news → Q () ⟨h', G, D, tk', O⟩) : wpAny (model PG w) A (assign (.Tuple [.Name x p1, .Name y p2, .Name z p3] k9z pos) env (.ref a)) Q E ⟨h, G, D, t, O⟩ := by
  rw [Bool.and_eq_true, Bool.and_eq_true] at hx
  exact unpackN_ (s := ⟨h, G, D, t, O⟩) F N T hh rfl rfl fun h1 F1 N1 => un_one F1 hk hL N1 hx.1 fun h2 t2 F2 N2 => un_one F2 hk hL N2 hx.2.1 fun h3 t3 F3 N3 => un_one F3 hk hL N3 hx.2.2 fun h4 t4 F4 N4 => assignInOrder_nil (q h4 t4 F4 N4)
end
/-- what is left to do behind a statement -/
noncomputable def nextQ (M : Model) (A : Around) (env : Env) (rest : List Stmt) (Q : Flow → Shared → Prop) (E : Value → Shared → Prop) : Flow → Shared → Prop := fun f s' => match f with
  | .next => wpAny M A (execs rest env) Q E s'
  | f => Q f s'
section
variable {M : Model} {A : Around} {E : Value → Shared → Prop} {Q : Flow → Shared → Prop} {env : Env} {rest : List Stmt} {st9z : Stmt} {h : Heap} {G : Array GenState} {D : Drawn} {t : Nat} {O : OsState} {s9z : Shared}
theorem nx_cons (h9z : wpAny M A (exec st9z env) (nextQ M A env rest Q E) E ⟨h, G, D, t, O⟩) : wpAny M A (execs (st9z :: rest) env) Q E ⟨h, G, D, t, O⟩ := wpAny_execs_cons (wpAny_mono h9z (fun f _ x => by cases f <;> exact x) fun _ _ x => x)
theorem nx_last (h9z : wpAny M A (exec st9z env) Q E ⟨h, G, D, t, O⟩) : wpAny M A (execs [st9z] env) Q E ⟨h, G, D, t, O⟩ := wpAny_execs_cons (wpAny_mono h9z (fun f s' x => by cases f <;> first | exact wpAny_execs_nil x | exact x) fun _ _ x => x)
theorem nx_next (h9z : wpAny M A (execs rest env) Q E s9z) : nextQ M A env rest Q E .next s9z := h9z
theorem nx_ret {v9z : Value} (h9z : Q (.ret v9z) s9z) : nextQ M A env rest Q E (.ret v9z) s9z := h9z
end
-- X1
theorem words1 : True := by
  k_with "execs cons If nil" => (k_here; ((with_reducible refine wp_last (G := G) (D := D) (O := O) (by assumption) ?_); intro tk8; (try dsimp only)))
  k_with "execs cons If cons" => (k_here; ((with_reducible refine wp_cons (G := G) (D := D) (O := O) (by assumption) ?_); intro q8 tk8 hq8 hr8; (try dsimp only)))
  k_with "execs cons For nil" => (k_here; ((with_reducible refine wp_last (G := G) (D := D) (O := O) (by assumption) ?_); intro tk8; (try dsimp only)))
  k_with "execs cons For cons" => (k_here; ((with_reducible refine wp_cons (G := G) (D := D) (O := O) (by assumption) ?_); intro q8 tk8 hq8 hr8; (try dsimp only)))
  k_with "execs cons While nil" => (k_here; ((with_reducible refine wp_last (G := G) (D := D) (O := O) (by assumption) ?_); intro tk8; (try dsimp only)))
  k_with "execs cons While cons" => (k_here; ((with_reducible refine wp_cons (G := G) (D := D) (O := O) (by assumption) ?_); intro q8 tk8 hq8 hr8; (try dsimp only)))
  k_with "execs cons Try nil" => (k_here; ((with_reducible refine wp_last (G := G) (D := D) (O := O) (by assumption) ?_); intro tk8; (try dsimp only)))
  k_with "execs cons Try cons" => (k_here; ((with_reducible refine wp_cons (G := G) (D := D) (O := O) (by assumption) ?_); intro q8 tk8 hq8 hr8; (try dsimp only)))
  trivial
section
open PySem.Calls
variable {prog : Program} {w : World} {A : Around} {E : Value → Shared → Prop} {h : Heap} {g : Array GenState} {d : Drawn} {t : Nat} {os : OsState}
variable {nm q : Str} {C N : Addr} {bs bm : List Value} {hdct : Bool} {sn : List Str} {sub : List Value} {ab : Bool} {col : Option Bool} {dd : Option Addr} {k0 k1 k2 k3 k5 : Option Value} {fI : Addr}
noncomputable abbrev excObj (C t : Addr) : Obj := { cls := .ref C, data := .fields #[.ref t, .none, .none, .none, .bool false, .none] }
theorem exc_type_call {rest : List Value} {Q : Fin → Shared → Prop}
    (hC : h.get? C = some (excClassObj nm q C N bs bm hdct sn sub ab col dd k0 k1 k2 k3 k5 "Exception.__new__"))
    (hcB : bm.contains (.type "Exception") = true) (hcA : bm.contains (.type "AttributeError") = false) (hcN : bm.contains (.type "NameError") = false)
    (hl : Looks (model prog w) h (typeLookup (.ref C) "__init__") (some (.ref fI))) (hb : ∀ self, Looks (model prog w) h (bindSpecial (.ref fI) self) (.ref fI, [self]))
    (hrest : rest.length ≤ sizeLine)
    (hq : codeAny (model prog w) A (.call (.ref fI) ⟨.ref (h.objs.size + 1) :: rest, []⟩) (fun r s' => match r with | .ok (.ret v) => v = .none ∧ Q (.done (.ret (.ref (h.objs.size + 1)))) s' | .ok _ => False | .error e => E e s')
      ⟨(h.push { cls := .type "tuple", data := .seq rest.toArray }).push (excObj C h.objs.size), g, d, t, os⟩) :
    wpAny (model prog w) A (Builtin.«type.__call__» ⟨.ref C :: rest, []⟩) Q E ⟨h, g, d, t, os⟩ := by
  have Fx := PySem.F.excBase_Exception
  have hcB' : (Value.ref C :: bm).contains (.type "Exception") = true := by rw [List.contains_cons, hcB, Bool.or_true]
  have hcA' : (Value.ref C :: bm).contains (.type "AttributeError") = false := by rw [List.contains_cons, hcA]; rfl
  have hcN' : (Value.ref C :: bm).contains (.type "NameError") = false := by rw [List.contains_cons, hcN]; rfl
  repeat (first | with_reducible refine wpAny_loadPart_at hC ?_ | with_reducible refine wpAny_madeBy_exc hC ?_ | wp_step)
  refine codeAny_call_builtin_code (Code.quiet_builtin _ Fx.quiet) ?_
  have hstar := Fx.noStar
  simp only [checkBuiltinCall, Fx.newKind, Fx.newSplit, Fx.newRow]
  repeat (first | refine wpAny_loadPart_at hC ?_ | (refine wpAny_isSubtype_exc hC ?_; rw [hcB']) | refine wpAny_staticBase_exc hC ?_ | refine wpAny_madeBy_exc hC ?_ | simp only [bne_self_eq_false, Bool.false_eq_true, if_false] | wp_step)
  have hends := Fx.ends
  refine codeAny_builtinAt Fx.entry ?_
  unfold Builtin.«BaseException.__new__»
  refine PySem.wpAt_bind ?_
  show PySem.wpAt _ _ _ (stack >>= _) _ _ _
  refine PySem.wpAt_bind (PySem.wpAt_stack fun p below => PySem.wpAt_of_wpAny ?_)
  wp_walk
  refine PySem.wpAt_of_wpAny ?_
  rw [Fx.owner]
  repeat (first | with_reducible refine wpAny_madeHere_exc Fx.canon hC ?_ | with_reducible refine wpAny_loadPart_at hC ?_ | (with_reducible refine wpAny_isSubtype_exc hC ?_; first | rw [hcB'] | rw [hcA'] | rw [hcN']) | wp_step)
  have hsz : (h.push { cls := .type "tuple", data := .seq rest.toArray }).objs.size = h.objs.size + 1 := Heap.size_push ..
  have hrep : (#[Value.ref h.objs.size, Value.none, Value.none, Value.none, Value.bool false, Value.none] ++ (List.replicate 0 (rawInt 0)).toArray) = #[Value.ref h.objs.size, Value.none, Value.none, Value.none, Value.bool false, Value.none] := rfl
  simp only [hsz, hrep]
  have k : ∀ b o, h.get? b = some o → ((h.push { cls := .type "tuple", data := .seq rest.toArray }).push (excObj C h.objs.size)).get? b = some o := fun b o e => Heap.get?_push_of_some _ (Heap.get?_push_of_some _ e)
  have hx : ((h.push { cls := .type "tuple", data := .seq rest.toArray }).push (excObj C h.objs.size)).get? (h.objs.size + 1) = some (excObj C h.objs.size) := by heap_get
  have t1 : Looks (model prog w) ((h.push { cls := .type "tuple", data := .seq rest.toArray }).push (excObj C h.objs.size)) (typeOf (.ref (h.objs.size + 1))) (.ref C) := (Looks.ld hx).andThen .now
  have hcC : (Value.ref C :: bm).contains (.ref C) = true := by simp
  refine wpAny_isSubtype_exc (k _ _ hC) ?_
  rw [hcC]
  simp only [Bool.not_true, Bool.false_eq_true, if_false]
  have i1 := hl.keeps k
  have b1 := (hb (.ref (h.objs.size + 1))).keeps k
  unfold callSpecial? specialOf
  repeat (first | with_reducible refine wpAny_call ?_ | lk)
  refine codeAny_mono hq fun r s' z => ?_
  rcases r with e | (v | _ | _ | _) <;> first | exact z | exact z.elim | skip
  obtain ⟨rfl, z⟩ := z
  exact wpAny_pure (wpAny_pure z)
theorem exc_call {rest : List Value} {Q : Value → Shared → Prop}
    (hC : h.get? C = some (excClassObj nm q C N bs bm hdct sn sub ab col dd k0 k1 k2 k3 k5 "Exception.__new__"))
    (hcB : bm.contains (.type "Exception") = true) (hcA : bm.contains (.type "AttributeError") = false) (hcN : bm.contains (.type "NameError") = false)
    (hl : Looks (model prog w) h (typeLookup (.ref C) "__init__") (some (.ref fI))) (hb : ∀ self, Looks (model prog w) h (bindSpecial (.ref fI) self) (.ref fI, [self]))
    (hrest : rest.length ≤ sizeLine)
    (hq : codeAny (model prog w) (A.under (.builtin "type.__call__" ⟨.ref C :: rest, []⟩)) (.call (.ref fI) ⟨.ref (h.objs.size + 1) :: rest, []⟩) (InitBack (h.objs.size + 1) fun r s' => match r with | .ok (.ret v) => Q v s' | .ok _ => False | .error e => E e s')
      ⟨(h.push { cls := .type "tuple", data := .seq rest.toArray }).push (excObj C h.objs.size), g, d, t, os⟩) :
    wpAny (model prog w) A (call (.ref C) rest) Q E ⟨h, g, d, t, os⟩ := by
  have f1 := tc_lookup
  have f2 := tc_bind (.ref C)
  have hT : (⟨h, g, d, t, os⟩ : Shared).TypeIs (.ref C) "type" := ⟨_, hC, rfl⟩
  refine wpAny_call (codeAny_of_tree ?_)
  show wpAny _ _ (callAny (.ref C) _) _ _ _
  repeat (any_goals (first | assumption | with_reducible refine wpAny_loadPart_at hC ?_ | wp_step))
  refine ⟨rfl, ?_⟩
  refine codeAny_call_builtin_at (Code.quiet_builtin _ (by decide +kernel)) entry_typeCall (wpAny_check_type_call_sub hC (exc_type_call hC hcB hcA hcN hl hb hrest (codeAny_mono hq fun r s' z => ?_)))
  rcases r with e | (v | _ | _ | _) <;> first | exact z | skip
end
section
variable {prog : Program} {w : World} {A : Around} {E : Value → Shared → Prop} {s : Shared} {K : Frag} {C L fI : Addr} {h₀ : Heap} {m : Str → Option Value} {news : List (Addr × Obj)} {Q : Value → Shared → Prop} {rest : List Value}
variable {nm q : Str} {N₀ : Addr} {bs bm : List Value} {hdct : Bool} {sn : List Str} {sub : List Value} {ab : Bool} {col : Option Bool} {dd : Option Addr} {k0 k1 k2 k3 k5 : Option Value}
theorem exc_call_K (F : Fr h₀ L s.heap m) (X₀ : K.In h₀) (N : News h₀ L s.heap news)
    (hC : K.lookup C = some (excClassObj nm q C N₀ bs bm hdct sn sub ab col dd k0 k1 k2 k3 k5 "Exception.__new__"))
    (hcB : bm.contains (.type "Exception") = true) (hcA : bm.contains (.type "AttributeError") = false) (hcN : bm.contains (.type "NameError") = false)
    (hi : findIn K (.ref C) "__init__" = some (some (.ref fI))) (hf : isFn K (.ref fI) = true) (hrest : rest.length ≤ sizeLine)
    (h : ∀ e t h', Fr h₀ L h' m → News h₀ L h' ((e, excObj C t) :: (t, { cls := .type "tuple", data := .seq rest.toArray }) :: news) → (∀ p ∈ news, p.1 < t) → t < e →
      codeAny (model prog w) (A.under (.builtin "type.__call__" ⟨.ref C :: rest, []⟩)) (.call (.ref fI) ⟨.ref e :: rest, []⟩) (InitBack e fun r s' => match r with | .ok (.ret v) => Q v s' | .ok _ => False | .error e => E e s') { s with heap := h' }) :
    wpAny (model prog w) A (call (.ref C) rest) Q E s := by
  obtain ⟨hh, g, d, t, os⟩ := s
  have X := X₀.keeps F.keep
  have N' := (N.push F { cls := .type "tuple", data := .seq rest.toArray }).push (F.push _) (excObj C hh.objs.size)
  rw [Heap.size_push] at N'
  exact exc_call (X _ _ hC) hcB hcA hcN (looks_findIn X hi) (fun self => bind_fn X self (beq_iff_eq.mp hf)) hrest (h (hh.objs.size + 1) hh.objs.size _ ((F.push _).push _) N' (fun p hp => Heap.lt_size (N p hp).1) (Nat.lt_succ_self _))
end
section
open PySem.Calls
variable {prog : Program} {w : World} {A : Around} {E : Value → Shared → Prop} {h : Heap} {g : Array GenState} {d : Drawn} {t : Nat} {os : OsState}
variable {nm q : Str} {C N e tp : Addr} {bs bm : List Value} {hdct : Bool} {sn : List Str} {sub : List Value} {ab : Bool} {col : Option Bool} {dd : Option Addr} {k0 k1 k2 k3 k5 : Option Value}
theorem exc_init {rest : List Value} {Q : Value → Shared → Prop}
    (hC : h.get? C = some (excClassObj nm q C N bs bm hdct sn sub ab col dd k0 k1 k2 k3 k5 "Exception.__new__"))
    (hcB : bm.contains (.type "Exception") = true) (he : h.get? e = some (excObj C tp)) (hrest : rest.length ≤ sizeLine)
    (hq : Q .none ⟨(h.push { cls := .type "tuple", data := .seq rest.toArray }).update e (Obj.mapFields (·.setIfInBounds 0 (.ref h.objs.size))), g, d, t, os⟩) :
    wpAny (model prog w) A (call (.builtin "Exception.__init__") (.ref e :: rest)) Q E ⟨h, g, d, t, os⟩ := by
  have Fx := PySem.F.excBase_Exception
  have hcB' : (Value.ref C :: bm).contains (.type "Exception") = true := by rw [List.contains_cons, hcB, Bool.or_true]
  refine wpAny_call (codeAny_call_builtin Fx.init.plain Fx.initEntry ?_)
  have hshort := Fx.noStar
  simp only [checkBuiltinCall, Fx.initKind, Fx.initSplit, Fx.initRow]
  repeat (first | with_reducible refine wpAny_loadPart_at he ?_ | with_reducible refine wpAny_loadPart_at hC ?_ | (with_reducible refine wpAny_isSubtype_exc hC ?_; rw [hcB']) | wp_step)
  refine wpAny_onRaise ?_
  rw [show ∀ (a b : String) (n : Nat), Bind.check ⟨.positional, "*", "Exception", .self, [⟨"args", .varPos, false⟩]⟩ a b n (List.map (fun x => x.fst) ({ pos := Value.ref e :: rest } : Args).kw) = pure () from
    fun a b n => check_star_args _ _ _ _ _ _]
  refine wpAny_pure ?_
  have he' : (h.push { cls := .type "tuple", data := .seq rest.toArray }).get? e = some (excObj C tp) := Heap.get?_push_of_some _ he
  wp_walk
  exact hq
end
section
variable {prog : Program} {w : World} {A : Around} {E : Value → Shared → Prop} {s : Shared} {K : Frag} {C L e tp : Addr} {h₀ : Heap} {m : Str → Option Value} {news r : List (Addr × Obj)} {Q : Value → Shared → Prop} {rest : List Value}
variable {nm q : Str} {N₀ : Addr} {bs bm : List Value} {hdct : Bool} {sn : List Str} {sub : List Value} {ab : Bool} {col : Option Bool} {dd : Option Addr} {k0 k1 k2 k3 k5 : Option Value}
theorem exc_init_K (F : Fr h₀ L s.heap m) (X₀ : K.In h₀) (N : News h₀ L s.heap ((e, excObj C tp) :: r)) (off : ∀ p ∈ r, p.1 ≠ e)
    (hC : K.lookup C = some (excClassObj nm q C N₀ bs bm hdct sn sub ab col dd k0 k1 k2 k3 k5 "Exception.__new__"))
    (hcB : bm.contains (.type "Exception") = true) (hrest : rest.length ≤ sizeLine)
    (h : ∀ t h', Fr h₀ L h' m → News h₀ L h' ((t, { cls := .type "tuple", data := .seq rest.toArray }) :: (e, excObj C t) :: r) → (∀ p ∈ (e, excObj C tp) :: r, p.1 < t) → Q .none { s with heap := h' }) :
    wpAny (model prog w) A (call (.builtin "Exception.__init__") (.ref e :: rest)) Q E s := by
  obtain ⟨hh, g, d, t, os⟩ := s
  have X := X₀.keeps F.keep
  have he := (N _ (List.mem_cons_self ..)).1
  have lt : ∀ p ∈ (e, excObj C tp) :: r, p.1 < hh.objs.size := fun p hp => Heap.lt_size (N p hp).1
  have F' := F.push { cls := .type "tuple", data := .seq rest.toArray }
  have N' := N.push F { cls := .type "tuple", data := .seq rest.toArray }
  have U := news_upd (pre := [(hh.objs.size, { cls := .type "tuple", data := .seq rest.toArray })]) (d := e) (post := r) (o' := excObj C hh.objs.size) (f := Obj.mapFields (·.setIfInBounds 0 (.ref hh.objs.size))) F' N' (fun p hp => by
    rw [List.mem_singleton.mp hp]; exact Nat.ne_of_gt (lt _ (List.mem_cons_self ..))) off rfl rfl
  exact exc_init (X _ _ hC) hcB he hrest (h _ _ U.1 U.2 lt)
end
section
open Builtin Builtin.ObjectAttr PySem.Calls
theorem refuse_exc (self : Value) : refuseLoop self "__setattr__" [.type "Exception", .type "BaseException", .type "object"] = pure () := by kernel_rfl
variable {prog : Program} {w : World} {A : Around} {s : Shared} {K : Frag} {C D x : Addr} {R : Result → Shared → Prop} {cd : ClassData}
theorem osa_exc {ox : Obj} {od : Option Obj} {name : Str} {tk : Tok} {v : Value} (X : K.In s.heap) (I : InstAt s.heap x ox C od) (hc : clsIn K C = some cd) (hm : cd.mro = [.ref C, .ref D, .type "Exception", .type "BaseException", .type "object"]) (ht : takerIn K C name = some none)
    (h : ∀ b, wpAny (model prog w) A.in1 (storeInOwnDict (.ref x) (.ref C) (.str name tk) name v b)
      (fun fin s' => match fin with | .done f => R (.ok f) s' | .again c' => c'.quiet = true ∧ codeAny (model prog w) A c' R s') (fun e s' => R (.error e) s') s) :
    codeAny (model prog w) A (.call (.builtin "object.__setattr__") ⟨[.ref x, .str name tk, v], []⟩) R s := by
  have SF := PySem.F.store_object
  have sub : Looks (model prog w) s.heap (isInstance (.ref x) (.type "object")) true := I.type.andThen (looks_mroIn X (by unfold mroIn; rw [hc, Option.bind_some, hm]; rfl))
  refine codeAny_call_builtin SF.slot.plain SF.entry (@check_slot (model prog w) _ _ s "object.__setattr__" "object" "__setattr__" (.ref x) [.str name tk, v] [] _ SF.kind SF.split sub (SF.args (.ref x) (.str name tk) v) ?_)
  obtain ⟨attr, ha, hr⟩ := Option.bind_eq_some_iff.mp ht
  have hmr : Looks (model prog w) s.heap (mroOf (.ref C)) cd.mro := (looks_clsIn X hc).andThen .now
  have L3 : Looks (model prog w) s.heap (storeTaker? attr) none := by
    cases attr with
    | none => exact .now
    | some a =>
      obtain ⟨b, hb, hbe⟩ := Option.map_eq_some_iff.mp hr
      refine (looks_takesIn X hb).andThen ?_
      cases b
      · exact .now
      · cases hbe
  rw [osa_eq, refuse_eq]
  refine wpAny_bind (wpAny_bind (I.type.here (wpAny_bind (hmr.here ?_))))
  rw [hm, refuseLoop_ref, refuseLoop_ref, refuse_exc]
  exact wpAny_pure (wpAny_bind (I.type.here (wpAny_bind ((looks_findIn X ha).here (wpAny_bind (L3.here (h _)))))))
end
section
variable {prog : Program} {w : World} {A : Around} {E : Value → Shared → Prop} {s : Shared} {K : Frag} {C L e tp : Addr} {h₀ : Heap} {m : Str → Option Value} {x1 : Addr × Obj} {news r : List (Addr × Obj)} {Q : Unit → Shared → Prop} {name : Str} {v : Value}
theorem exc_set_K (F : Fr h₀ L s.heap m) (X₀ : K.In h₀) (N : News h₀ L s.heap (x1 :: (e, excObj C tp) :: r)) (off1 : x1.1 ≠ e) (off : ∀ p ∈ r, p.1 ≠ e)
    (hs : findIn K (.ref C) "__setattr__" = some (some (.builtin "object.__setattr__"))) {cd : ClassData} {D : Addr} (hc : clsIn K C = some cd) (hm : cd.mro = [.ref C, .ref D, .type "Exception", .type "BaseException", .type "object"]) (ht : takerIn K C name = some none) (hd : cd.hasDict = true)
    (h : ∀ d h', Fr h₀ L h' m → News h₀ L h' ((d, dictOf [⟨PyData.keyHash w.params name, .str name (s.toks + 1), v⟩] 1) :: x1 :: (e, excObjD C tp d) :: r) → (∀ p ∈ x1 :: (e, excObj C tp) :: r, p.1 < d) → Q () { s with heap := h', toks := s.toks + 2 }) :
    wpAny (model prog w) A (setAttr (.ref e) name v) Q E s := by
  obtain ⟨hh0, g, dr, t, os⟩ := s
  have X := X₀.keeps F.keep
  have he := (N _ (List.mem_cons_of_mem _ (List.mem_cons_self ..))).1
  have I : InstAt hh0 e (excObj C tp) C none := ⟨he, rfl, rfl, trivial⟩
  refine set_plain X I hs (osa_exc (s := ⟨hh0, g, dr, t + 1, os⟩) X I hc hm ht fun b => ?_)
  have lt : ∀ p ∈ x1 :: (e, excObj C tp) :: r, p.1 < hh0.objs.size := fun p hp => Heap.lt_size (N p hp).1
  have F1 := F.push { cls := .type "dict", data := .dict #[] }
  have N1 := N.push F { cls := .type "dict", data := .dict #[] }
  have U := news_upd (pre := [(hh0.objs.size, { cls := .type "dict", data := .dict #[] }), x1]) (d := e) (post := r) (o' := excObjD C tp hh0.objs.size) (f := fun o => { o with dict := some hh0.objs.size }) F1 N1 (fun p hp => by
    rcases List.mem_cons.mp hp with rfl | hp
    · exact Nat.ne_of_gt (lt _ (List.mem_cons_of_mem _ (List.mem_cons_self ..)))
    · rw [List.mem_singleton.mp hp]; exact off1) off rfl rfl
  dsimp only
  refine wpAny_bind (wpAny_pure (wpAny_bind (wpAny_bind (wpAny_loadPart he (wpAny_bind (looks_clsIn X hc _ _ _ _ (fun _ _ e => e) ?_))))))
  rw [hd]
  show wpAny _ _ (alloc _ >>= fun d => update e _ >>= fun _ => dictMade _ e d) _ _ _
  refine wpAny_bind (wpAny_alloc (wpAny_bind (wpAny_updatePart (Heap.get?_push_of_some _ he) ?_)))
  have lt2 : ∀ p ∈ x1 :: (e, excObjD C tp hh0.objs.size) :: r, p.1 ≠ hh0.objs.size := fun p hp => by
    rcases List.mem_cons.mp hp with rfl | hp
    · exact Nat.ne_of_lt (lt _ (List.mem_cons_self ..))
    rcases List.mem_cons.mp hp with rfl | hp
    · exact Nat.ne_of_lt (lt (e, excObj C tp) (List.mem_cons_of_mem _ (List.mem_cons_self ..)))
    · exact Nat.ne_of_lt (lt _ (List.mem_cons_of_mem _ (List.mem_cons_of_mem _ hp)))
  have U2 := news_upd (pre := []) (d := hh0.objs.size) (post := x1 :: (e, excObjD C tp hh0.objs.size) :: r) (o' := dictOf [⟨PyData.keyHash w.params name, .str name (t + 1), v⟩] 1) (f := Obj.putName name (PyData.keyHash w.params name) (.str name (t + 1)) v) U.1 U.2 (fun _ h => nomatch h) lt2 rfl rfl
  have D := (U.2 _ (List.mem_cons_self ..)).1
  have D' := (U2.2 _ (List.mem_cons_self ..)).1
  refine wpAny_pure (wpAny_bind (wpAny_pure (wpAny_bind ?_)))
  unfold nsSet
  refine wpAny_bind (wpAny_bind (wpAny_askSetting (wpAny_pure (wpAny_bind (wpAny_mkText (wpAny_bind (wpAny_loadPart D ?_)))))))
  refine wpAny_updatePart D ?_
  refine wpAny_bind (wpAny_lookBehind D' (pastItsLine_dict (by rw [List.size_toArray, sizeLine_eq]; exact Nat.le_of_ble_eq_true rfl)) ?_)
  exact wpAny_pure (h _ _ U2.1 U2.2 lt)
end
section
variable {prog : Program} {w : World} {A : Around} {E : Value → Shared → Prop} {s : Shared} {K : Frag} {C L e tp d : Addr} {h₀ : Heap} {m : Str → Option Value} {r : List (Addr × Obj)} {Q : Unit → Shared → Prop} {name : Str} {v : Value} {es es' : List DictEntry} {n n' : Nat}
theorem exc_set2_K (F : Fr h₀ L s.heap m) (X₀ : K.In h₀) (N : News h₀ L s.heap ((d, dictOf es n) :: r)) (hm' : (e, excObjD C tp d) ∈ r) (off : ∀ p ∈ r, p.1 ≠ d)
    (hs : findIn K (.ref C) "__setattr__" = some (some (.builtin "object.__setattr__"))) {cd : ClassData} {D : Addr} (hc : clsIn K C = some cd) (hm : cd.mro = [.ref C, .ref D, .type "Exception", .type "BaseException", .type "object"]) (ht : takerIn K C name = some none) (hd : cd.hasDict = true)
    (hk : aRefKeyMayBeTheName name es.toArray = false) (he' : Obj.putName name (PyData.keyHash w.params name) (.str name (s.toks + 1)) v (dictOf es n) = dictOf es' n') (hz : es'.length ≤ 1000)
    (h : ∀ h', Fr h₀ L h' m → News h₀ L h' ((d, dictOf es' n') :: r) → Q () { s with heap := h', toks := s.toks + 2 }) :
    wpAny (model prog w) A (setAttr (.ref e) name v) Q E s := by
  obtain ⟨hh0, g, dr, t, os⟩ := s
  have X := X₀.keeps F.keep
  have he := (N _ (List.mem_cons_of_mem _ hm')).1
  have D := (N _ (List.mem_cons_self ..)).1
  have I : InstAt hh0 e (excObjD C tp d) C (some (dictOf es n)) := ⟨he, rfl, rfl, D⟩
  refine set_plain X I hs (osa_exc (s := ⟨hh0, g, dr, t + 1, os⟩) X I hc hm ht fun b => ?_)
  have U2 := news_upd (pre := []) (d := d) (post := r) (o' := dictOf es' n') (f := Obj.putName name (PyData.keyHash w.params name) (.str name (t + 1)) v) F N (fun _ h => nomatch h) off he' rfl
  have D' := (U2.2 _ (List.mem_cons_self ..)).1
  refine wpAny_bind (wpAny_pure (wpAny_bind (wpAny_bind (wpAny_loadPart he (wpAny_bind (looks_clsIn X hc _ _ _ _ (fun _ _ e => e) ?_))))))
  rw [hd]
  refine wpAny_pure (a := some d) (wpAny_bind (wpAny_pure (wpAny_bind ?_)))
  unfold nsSet
  refine wpAny_bind (wpAny_bind (wpAny_askSetting (wpAny_pure (wpAny_bind (wpAny_mkText (wpAny_bind (wpAny_loadPart D ?_)))))))
  dsimp only
  rw [hk]
  refine wpAny_updatePart D ?_
  refine wpAny_bind (wpAny_lookBehind D' (pastItsLine_dict (by rw [List.size_toArray, sizeLine_eq]; omega)) ?_)
  exact wpAny_pure (h _ U2.1 U2.2)
end
theorem off_chg {x1 : Addr × Obj} {e d : Addr} {o o' : Obj} {r : List (Addr × Obj)} (h : ∀ p ∈ x1 :: (e, o) :: r, p.1 < d) : ∀ p ∈ x1 :: (e, o') :: r, p.1 ≠ d := fun p hp => by
  rcases List.mem_cons.mp hp with rfl | hp
  · exact Nat.ne_of_lt (h _ (List.mem_cons_self ..))
  rcases List.mem_cons.mp hp with rfl | hp
  · exact Nat.ne_of_lt (h (e, o) (List.mem_cons_of_mem _ (List.mem_cons_self ..)))
  · exact Nat.ne_of_lt (h _ (List.mem_cons_of_mem _ (List.mem_cons_of_mem _ hp)))
theorem off_two {news : List (Addr × Obj)} {t e : Addr} {o : Obj} (l1 : ∀ p ∈ news, p.1 < t) (l2 : t < e) : ∀ p ∈ ((t, o) : Addr × Obj) :: news, p.1 ≠ e := fun p hp => by
  rcases List.mem_cons.mp hp with rfl | hp
  · exact Nat.ne_of_lt l2
  · exact Nat.ne_of_lt (Nat.lt_trans (l1 p hp) l2)
theorem meta_exc : typeOf (.type "Exception") = pure (.type "type") := by kernel_rfl
theorem words2 : True := by
  k_with "getMethod type:Exception" => ((k_here; refine method_type (by k_asm) (by k_asm) (by exact meta_exc) (by decide +kernel) (by k_dflt k_is) (by k_handed) ?_))
  k_with "passes_own" => (assumption)
  k_with "k_room" => (first | exact Nat.lt_of_le_of_lt (Nat.le_add_right _ _) hd9 | ((simp only [depth_under_make, depth_under_kw, depth_in1, depth_deeper, depth_caller]); omega))
  k_with "k_units" => (first | exact Nat.lt_of_le_of_lt (Nat.le_add_right _ _) hu9 | exact Nat.lt_of_le_of_lt (Nat.add_le_add_left (Nat.le_of_ble_eq_true rfl : 1 ≤ _) _) hu9 | ktr_units)
  k_with "ct_in" => ((unfold Body; intro dp un fr gd A₀ outer base gg L mg mb mean hh0 G D tk O qq ee c hpo B X T F N hd9 hu9 hr hn hx hy))
  k_with "execs cons!" => ((k_here; first | ((with_reducible refine wp_last (G := G) (D := D) (O := O) (by assumption) ?_); intro tk8; (try dsimp only)) | ((with_reducible refine wp_cons (G := G) (D := D) (O := O) (by assumption) ?_); intro q8 tk8 hq8 hr8; (try dsimp only))))
  k_with "unq" => (first | (refine hq8 _ ?_; clear hq8 hr8 q8) | (refine hr8 _ _ ?_; clear hq8 hr8 q8))
  k_with "k_steps" => (repeat' (first | walk1 | k_extra "unq" | (dsimp only; walk1) | (leave1; walk_say "STEP leave1"; try dsimp only) | fail "no step"))
  k_with "ct_room" => (k_units)
  k_with "memz" => (first | with_reducible assumption | with_reducible exact List.mem_cons_self .. | ((with_reducible refine List.mem_cons_of_mem _ ?_); k_extra "memz") | ((with_reducible refine List.mem_append_right _ ?_); k_extra "memz") | ((with_reducible refine List.mem_append_left _ ?_); k_extra "memz"))
  k_with "k_mem" => (k_extra "memz")
  k_with "subz" => (first | with_reducible exact sub_id | with_reducible exact sub_nil | with_reducible assumption | ((with_reducible refine sub_splitC ?_ ?_); (k_extra "memz"); k_extra "subz") | ((with_reducible refine sub_splitA ?_ ?_) <;> k_extra "subz") | ((with_reducible refine sub_skip ?_); k_extra "subz") | ((with_reducible refine sub_skipA ?_); k_extra "subz") | ((with_reducible refine sub_left ?_); k_extra "subz"))
  k_with "k_ne" => (((try dsimp only); first | assumption | exact ne_lt (by assumption) (by k_extra "memz") | exact ne_gt (by assumption) (by k_extra "memz") | exact Nat.ne_of_lt (by assumption) | exact Nat.ne_of_gt (by assumption) | exact ne_lt2 (by assumption) (by assumption) (by k_extra "memz") | exact ne_gt2 (by assumption) (by assumption) (by k_extra "memz") | exact ne_led (by assumption) (by k_extra "memz") (by k_extra "memz") | exact ne_led' (by assumption) (by k_extra "memz") (by k_extra "memz")))
  k_with "k_all" => (first | with_reducible assumption | with_reducible exact List.forall_mem_nil _ | exact all_lt (by assumption) (by k_extra "subz") | exact all_lt2 (by assumption) (by assumption) (by k_extra "subz") | exact off_lt (by assumption) (by k_extra "memz") | exact off1_all (by assumption) | (refine List.forall_mem_cons.mpr ⟨?_, ?_⟩; k_ne; k_all) | (refine all_app ?_ ?_ <;> k_all))
  k_with "k_inst" => (exact ⟨News.get (by k_asm) (by k_mem), rfl, rfl, News.get (by k_asm) (by k_mem)⟩)
  k_with "is_list" => (exact News.isList (by k_asm) (by k_mem))
  k_with "CompEnd!" => ((refine LCg.CompEnd.intro (by assumption) (by assumption) _ (fun p hp => hp) (by assumption) (by first | assumption | exact Or.inr ⟨_, by k_mem, rfl, _, rfl⟩) ?_))
  k_with "eval Attribute Name!" => ((k_here; k_dflt (refine at_L (by assumption) (by assumption) (by assumption) (by rfl) (by k_mem) (by k_mem) (by k_get) (by k_handed) (by kernel_rfl) (by kernel_rfl) ?_)))
  k_with "svo" => (first | ((with_reducible apply Sv1.name); (focus (exact Eq.refl (some _))); (focus (exact Eq.refl true))) | (with_reducible apply Sv1.int) | (with_reducible apply Sv1.str) | (with_reducible apply Sv1.bool) | ((with_reducible apply Sv1.item); (focus (exact Eq.refl (some _))); (focus (exact Eq.refl true)); (focus (first | exact .inl (by k_mem) | exact .inr (by k_mem))); (focus (exact Eq.refl true)); (focus (exact rfl))) | ((with_reducible apply Sv1.attr); (focus (exact Eq.refl (some _))); (focus (exact Eq.refl true)); (focus k_mem); (focus k_mem); (focus k_get); (focus k_handed); (focus kernel_rfl)))
  k_with "svz" => (first | (with_reducible apply Sv.nil) | ((with_reducible apply Sv.cons); (focus (k_extra "svo")); k_extra "svz"))
  k_with "spliced!" => ((k_here; (with_reducible refine sv_spl (G := G) (D := D) (O := O) (by k_asm) (by k_asm) (by k_asm) (by k_dflt (exact rfl)) (by k_dflt (exact rfl)) (by k_dflt (k_extra "svz")) ?_)))
  k_with "eval Subscript Name" => ((k_here; (with_reducible refine sv_sub (G := G) (D := D) (O := O) (by k_asm) (by k_asm) (by k_asm) (by k_dflt (exact rfl)) (by k_dflt (exact rfl)) (by k_dflt (k_extra "svo")) (by k_dflt (k_extra "svo")) ?_)))
  k_with "eval Subscript Name Constant" => ((k_here; (with_reducible refine sv_sub (G := G) (D := D) (O := O) (by k_asm) (by k_asm) (by k_asm) (by k_dflt (exact rfl)) (by k_dflt (exact rfl)) (by k_dflt (k_extra "svo")) (by k_dflt (k_extra "svo")) ?_)))
  k_with "eval Subscript Name Constant" => ((k_here; (with_reducible refine sv_one (G := G) (D := D) (O := O) (by k_asm) (by k_asm) (by k_asm) (by k_dflt (exact rfl)) (by k_dflt (exact rfl)) (by k_dflt (k_extra "svo")) ?_)))
  k_with "eval Subscript Subscript" => ((k_here; (with_reducible refine sv_sub (G := G) (D := D) (O := O) (by k_asm) (by k_asm) (by k_asm) (by k_dflt (exact rfl)) (by k_dflt (exact rfl)) (by k_dflt (k_extra "svo")) (by k_dflt (k_extra "svo")) ?_)))
  k_with "eval Subscript Attribute" => ((k_here; (with_reducible refine sv_sub (G := G) (D := D) (O := O) (by k_asm) (by k_asm) (by k_asm) (by k_dflt (exact rfl)) (by k_dflt (exact rfl)) (by k_dflt (k_extra "svo")) (by k_dflt (k_extra "svo")) ?_)))
  k_with "eval BinOp Name" => ((k_here; (with_reducible refine sv_bin (G := G) (D := D) (O := O) (by k_asm) (by k_asm) (by k_asm) (by k_dflt (exact rfl)) (by k_dflt (exact rfl)) (by k_dflt (k_extra "svo")) (by k_dflt (k_extra "svo")) ?_)))
  k_with "eval BinOp Constant" => ((k_here; (with_reducible refine sv_bin (G := G) (D := D) (O := O) (by k_asm) (by k_asm) (by k_asm) (by k_dflt (exact rfl)) (by k_dflt (exact rfl)) (by k_dflt (k_extra "svo")) (by k_dflt (k_extra "svo")) ?_)))
  k_with "eval BinOp Subscript" => ((k_here; (with_reducible refine sv_bin (G := G) (D := D) (O := O) (by k_asm) (by k_asm) (by k_asm) (by k_dflt (exact rfl)) (by k_dflt (exact rfl)) (by k_dflt (k_extra "svo")) (by k_dflt (k_extra "svo")) ?_)))
  k_with "eval BinOp Attribute" => ((k_here; (with_reducible refine sv_bin (G := G) (D := D) (O := O) (by k_asm) (by k_asm) (by k_asm) (by k_dflt (exact rfl)) (by k_dflt (exact rfl)) (by k_dflt (k_extra "svo")) (by k_dflt (k_extra "svo")) ?_)))
  k_with "isTrue Compare Name" => ((k_here; (with_reducible refine sv_cmp (G := G) (D := D) (O := O) (by k_asm) (by k_asm) (by k_asm) (by k_dflt (exact rfl)) (by k_dflt (exact rfl)) (by k_dflt (k_extra "svo")) (by k_dflt (k_extra "svo")) (by with_unfolding_all rfl) ?_)))
  k_with "isTrue Compare Name" => ((k_here; with_reducible first | (refine sv_eqs (G := G) (D := D) (O := O) (by k_asm) (by k_asm) (by k_asm) (by k_dflt (exact rfl)) (by k_dflt (exact rfl)) (by k_dflt (k_extra "svo")) (by k_dflt (k_extra "svo")) (by with_unfolding_all rfl) ?_) | (refine sv_nes (G := G) (D := D) (O := O) (by k_asm) (by k_asm) (by k_asm) (by k_dflt (exact rfl)) (by k_dflt (exact rfl)) (by k_dflt (k_extra "svo")) (by k_dflt (k_extra "svo")) (by with_unfolding_all rfl) ?_)))
  k_with "isTrue Compare Subscript" => ((k_here; (with_reducible refine sv_cmp (G := G) (D := D) (O := O) (by k_asm) (by k_asm) (by k_asm) (by k_dflt (exact rfl)) (by k_dflt (exact rfl)) (by k_dflt (k_extra "svo")) (by k_dflt (k_extra "svo")) (by with_unfolding_all rfl) ?_)))
  k_with "isTrue Compare Subscript" => ((k_here; with_reducible first | (refine sv_eqs (G := G) (D := D) (O := O) (by k_asm) (by k_asm) (by k_asm) (by k_dflt (exact rfl)) (by k_dflt (exact rfl)) (by k_dflt (k_extra "svo")) (by k_dflt (k_extra "svo")) (by with_unfolding_all rfl) ?_) | (refine sv_nes (G := G) (D := D) (O := O) (by k_asm) (by k_asm) (by k_asm) (by k_dflt (exact rfl)) (by k_dflt (exact rfl)) (by k_dflt (k_extra "svo")) (by k_dflt (k_extra "svo")) (by with_unfolding_all rfl) ?_)))
  k_with "isTrue Compare Attribute" => ((k_here; (with_reducible refine sv_cmp (G := G) (D := D) (O := O) (by k_asm) (by k_asm) (by k_asm) (by k_dflt (exact rfl)) (by k_dflt (exact rfl)) (by k_dflt (k_extra "svo")) (by k_dflt (k_extra "svo")) (by with_unfolding_all rfl) ?_)))
  k_with "isTrue Compare Attribute" => ((k_here; with_reducible first | (refine sv_eqs (G := G) (D := D) (O := O) (by k_asm) (by k_asm) (by k_asm) (by k_dflt (exact rfl)) (by k_dflt (exact rfl)) (by k_dflt (k_extra "svo")) (by k_dflt (k_extra "svo")) (by with_unfolding_all rfl) ?_) | (refine sv_nes (G := G) (D := D) (O := O) (by k_asm) (by k_asm) (by k_asm) (by k_dflt (exact rfl)) (by k_dflt (exact rfl)) (by k_dflt (k_extra "svo")) (by k_dflt (k_extra "svo")) (by with_unfolding_all rfl) ?_)))
  k_with "eval Tuple!" => ((k_here; (with_reducible refine sv_tup (G := G) (D := D) (O := O) (by k_asm) (by k_asm) (by k_asm) (by k_dflt (exact rfl)) (by k_dflt (exact rfl)) (by k_dflt (k_extra "svz")) (by k_dflt (exact Eq.refl true)) ?_); (intro D' h' tk' F' N' l1q)))
  k_with "eval Call Name cons nil" => ((k_here; (with_reducible refine cl_L (G := G) (D := D) (O := O) (by k_asm) (by k_asm) (by k_asm) (by k_asm) (by k_dflt (k_extra "svz")) (by k_dflt k_is) (by k_dflt k_is) (by k_dflt (exact Eq.refl true)) ?_)))
  k_with "newList!" => ((k_here; (with_reducible refine nl_L (G := G) (D := D) (O := O) (by k_asm) (by k_asm) (by k_dflt (exact Eq.refl true)) ?_); (intro D' h' tk' F' N' l1q); (try k_sweep)))
  k_with "newTuple!" => ((k_here; (with_reducible refine nt_L (G := G) (D := D) (O := O) (by k_asm) (by k_asm) (by k_dflt (exact Eq.refl true)) ?_); (intro D' h' tk' F' N' l1q)))
  k_with "storeName!" => ((k_here; (with_reducible refine st_L (G := G) (D := D) (O := O) (by k_asm) (by k_dflt (exact rfl)) (by k_dflt (exact rfl)) (by k_asm) (by with_unfolding_all exact Eq.refl true) ?_); (intro h' tk' F' N'); (try k_sweep)))
  k_with "assign Tuple!" => ((k_here; (with_reducible refine un2 (G := G) (D := D) (O := O) (by k_asm) (by k_dflt (exact rfl)) (by k_dflt (exact rfl)) (by k_dflt (exact rfl)) (by k_asm) (by first | with_reducible assumption | (refine News.isTup (by k_asm) (by k_mem))) (by with_unfolding_all exact Eq.refl true) ?_); (intro h' tk' F' N'); (try k_sweep)))
  k_with "assign Tuple!" => ((k_here; (with_reducible refine un3 (G := G) (D := D) (O := O) (by k_asm) (by k_dflt (exact rfl)) (by k_dflt (exact rfl)) (by k_dflt (exact rfl)) (by k_asm) (by first | with_reducible assumption | (refine News.isTup (by k_asm) (by k_mem))) (by with_unfolding_all exact Eq.refl true) ?_); (intro h' tk' F' N'); (try k_sweep)))
  k_with "execs cons Return nil" => ((k_here; (with_reducible refine nx_last (G := G) (D := D) (O := O) ?_)))
  k_with "execs cons Return cons" => ((k_here; (with_reducible refine nx_cons (G := G) (D := D) (O := O) ?_)))
  k_with "execs cons Assign nil" => ((k_here; (with_reducible refine nx_last (G := G) (D := D) (O := O) ?_)))
  k_with "execs cons Assign cons!" => ((k_here; (with_reducible refine nx_cons (G := G) (D := D) (O := O) ?_)))
  k_with "execs cons AugAssign nil" => ((k_here; (with_reducible refine nx_last (G := G) (D := D) (O := O) ?_)))
  k_with "execs cons AugAssign cons" => ((k_here; (with_reducible refine nx_cons (G := G) (D := D) (O := O) ?_)))
  k_with "execs cons Expr nil" => ((k_here; (with_reducible refine nx_last (G := G) (D := D) (O := O) ?_)))
  k_with "execs cons Expr cons" => ((k_here; (with_reducible refine nx_cons (G := G) (D := D) (O := O) ?_)))
  k_with "execs cons Raise nil" => ((k_here; (with_reducible refine nx_last (G := G) (D := D) (O := O) ?_)))
  k_with "execs cons Raise cons" => ((k_here; (with_reducible refine nx_cons (G := G) (D := D) (O := O) ?_)))
  k_with "execs cons Pass nil" => ((k_here; (with_reducible refine nx_last (G := G) (D := D) (O := O) ?_)))
  k_with "execs cons Pass cons" => ((k_here; (with_reducible refine nx_cons (G := G) (D := D) (O := O) ?_)))
  k_with "kt_fact" => (first | (with_reducible exact ar_z) | (with_reducible exact ar_lo) | (with_reducible exact ar_hi (by assumption)) | (with_reducible exact ar_10 (by assumption)) | (with_reducible exact ar_z1) | (with_reducible exact ar_lo1) | (with_reducible exact ar_hi1 (by assumption)) | (with_reducible exact ar_101 (by assumption)))
  k_with "nextQ" => (first | (with_reducible refine nx_next ?_) | (with_reducible refine nx_ret ?_))
  k_with "unq" => (first | (with_reducible refine nx_next ?_) | (with_reducible refine nx_ret ?_) | (refine hq8 _ ?_; clear hq8 hr8 q8) | (refine hr8 _ _ ?_; clear hq8 hr8 q8))
  trivial
theorem le_ct {w : World} {news : Led} {x : Str} {t₀ : Tok} : Ct w 4 60 83 [.str x t₀] news (RefP ExcAt) False := by
  refine ct_mkG (led0 := fun e t => [(e, excObj 83 t), (t, { cls := .type "tuple", data := .seq [Value.str x t₀].toArray })]) (binds := fun e => [(Str.ofString "self", .ref e), (Str.ofString "what", .str x t₀), (Str.ofString "at", .none)]) (fun F X N k => exc_call_K F X N (by k_is) rfl rfl rfl (by k_is) (by k_is) (Nat.le_of_ble_eq_true (by rw [sizeLine_eq]; rfl)) k) (by k_is) (by k_is) (fun e s X => binds_K X rfl (by k_is) rfl rfl rfl) (fun e => locs rfl) rfl rfl rfl (by decide) (fun e => rfl) rfl rfl ?_
  intro e' t' l1 l2
  k_extra "ct_in"
  dsimp only [List.cons_append, List.nil_append] at N
  k_steps
  k_dflt (refine exc_init_K (by k_asm) (by k_asm) (by k_asm) (off_two l1 l2) (by k_is) rfl (Nat.le_of_ble_eq_true (by rw [sizeLine_eq]; rfl)) ?_)
  intro t1 h1 F1 N1 l3
  k_steps
  k_dflt (refine' exc_set_K ?k1 ?k2 ?k3 ?k4 ?k5 ?k6 ?k7 ?ka ?k8 ?k9 ?_)
  case k1 => k_asm
  case k2 => k_asm
  case k3 => k_asm
  case k4 => exact Nat.ne_of_gt (l3 _ (List.mem_cons_self ..))
  case k5 => exact off_two l1 l2
  case k6 => k_is
  case k7 => k_is
  case ka => exact rfl
  case k8 => k_is
  case k9 => exact rfl
  intro d1 h2 F2 N2 l4
  have l6 : ∀ p ∈ news, p.1 < t1 := fun p hp => l3 p (.tail _ (.tail _ hp))
  have l7 : ∀ p ∈ news, p.1 < d1 := fun p hp => l4 p (.tail _ (.tail _ (.tail _ hp)))
  have l5 := off_chg (o' := excObjD 83 t1 d1) l4
  k_steps
  k_dflt (refine' exc_set2_K ?k1 ?k2 ?k3 ?k4 ?k5 ?k6 ?k7 ?ka ?k8 ?k9 ?kk ?ke ?kz ?_)
  case k1 => k_asm
  case k2 => k_asm
  case k3 => k_asm
  case k4 => k_mem
  case k5 => exact l5
  case k6 => k_is
  case k7 => k_is
  case ka => exact rfl
  case k8 => k_is
  case k9 => exact rfl
  case kk => exact rfl
  case ke => exact rfl
  case kz => exact Nat.le_of_ble_eq_true rfl
  intro h3 F3 N3
  k_steps
  exact hn [_, _, _, _] _ _ _ (by assumption) (by assumption) (lt_cons l7 (lt_cons l6 (lt_cons (fun p hp => Nat.lt_trans (l1 p hp) l2) (lt_cons l1 lt_nilL)))) ⟨_, rfl, .mk _ _ _ _ (.tail _ (.tail _ (.head _))) (.tail _ (.head _))⟩
noncomputable def RaisE (E : Value → Shared → Prop) (v : Value) (s₁ : Shared) : Prop := ∃ e t d, v = .ref e ∧ (∃ nm q N bs bm hdct sn sub ab col dd k0 k1 k2 k3 k5, bm.contains (.type "BaseException") = true ∧ s₁.heap.get? 83 = some (excClassObj nm q 83 N bs bm hdct sn sub ab col dd k0 k1 k2 k3 k5 "Exception.__new__")) ∧ s₁.heap.get? e = some (excObjD 83 t d) ∧ E (.ref e) s₁
theorem raise_stmt {prog : Program} {w : World} {A : Around} {E : Value → Shared → Prop} {s : Shared} {env : Env} {x : Expr} {pos : Pos} {Q : Flow → Shared → Prop} (hh : A.handled = none) (h : wpAny (model prog w) A (eval x env) (RaisE E) E s) :
    wpAny (model prog w) A (exec (.Raise (some x) none pos) env) Q E s := by
  rw [arm_exec_Raise]
  refine wpAny_bind (wpAny_standAt ?_)
  show wpAny _ _ (raiseStmt env (some (eval x env >>= fun v => standAt pos >>= fun _ => pure v)) none) _ _ _
  unfold raiseStmt
  refine wpAny_bind (wpAny_bind (wpAny_mono h (fun v s₁ h₁ => wpAny_bind (wpAny_standAt (wpAny_pure ?_))) fun _ _ x => x))
  obtain ⟨e, t, d, rfl, ⟨nm, q, N, bs, bm, hdct, sn, sub, ab, col, dd, k0, k1, k2, k3, k5, hbase, hC⟩, he, hE⟩ := h₁
  have hcB : (Value.ref 83 :: bm).contains (.type "BaseException") = true := by rw [List.contains_cons, hbase, Bool.or_true]
  obtain ⟨hp, g, dr, tk, os⟩ := s₁
  repeat (first | with_reducible refine wpAny_loadPart_at he ?_ | with_reducible refine wpAny_loadPart_at hC ?_ | (with_reducible refine wpAny_isSubtype_exc hC ?_; rw [hcB]) | wp_step)
  exact wpAny_raiseNew_none hh hE
theorem RaisE.mk {E : Value → Shared → Prop} {e t : Addr} {d nm q N bs bm hdct sn sub ab col dd k0 k1 k2 k3 k5} {s₁ : Shared} (hc : s₁.heap.get? 83 = some (excClassObj nm q 83 N bs bm hdct sn sub ab col dd k0 k1 k2 k3 k5 "Exception.__new__")) (hb : bm.contains (.type "BaseException") = true) (he : s₁.heap.get? e = some (excObjD 83 t d)) (hE : E (.ref e) s₁) : RaisE E (.ref e) s₁ :=
  ⟨e, t, d, rfl, ⟨nm, q, N, bs, bm, hdct, sn, sub, ab, col, dd, k0, k1, k2, k3, k5, hb, hc⟩, he, hE⟩
-- B1
theorem words3 : True := by
  k_with "CompSrc!" => ((k_here; k_dflt (refine LCg.CompSrc.ledger rfl (by k_asm) (by k_asm) (by k_mem) (by first | size_fits | exact Nat.le_of_ble_eq_true rfl) ?_; intro g'; lcg_lit)))
  trivial
theorem shr7 {prog : Program} {w : World} {A : Around} {E : Value → Shared → Prop} {s : Shared} {Q : Value → Shared → Prop} {a : Int} {t u : Tok}
  (h : Q (.int (a / 128) s.toks) { s with toks := s.toks + 1 }) : wpAny (model prog w) A (binaryOp .RShift (.int a t) (.int 7 u)) Q E s :=
  rshift_int (by decide) (by
    have e : a.fdiv (2 ^ (7 : Int).toNat) = a / 128 := by rw [Int.fdiv_eq_ediv_of_nonneg _ (by decide)]; rfl
    rw [e]; exact h)
theorem and127 {prog : Program} {w : World} {A : Around} {E : Value → Shared → Prop} {s : Shared} {Q : Value → Shared → Prop} {a : Int} {t u : Tok}
  (h : Q (.int (a % 128) s.toks) { s with toks := s.toks + 1 }) : wpAny (model prog w) A (binaryOp .BitAnd (.int a t) (.int 127 u)) Q E s := by
  have e : Builtin.bitAnd a 127 = a % 128 := kbt_mask a 7
  have := and_int (prog := prog) (w := w) (A := A) (E := E) (s := s) (Q := Q) (a := a) (b := 127) (t := t) (u := u)
  rw [e] at this
  exact this h
theorem words4 : True := by
  k_with "binaryOp RShift int int!" => ((refine shr7 ?_))
  k_with "binaryOp BitAnd int int!" => ((refine and127 ?_))
  trivial
theorem octs1 {w : World} {x : Int} {l : Addr} {n : Nat} {t : Tok} {news : List (Addr × Obj)} (hl : (l, W.listOf #[.int x t] n) ∈ news) (h0 : 0 ≤ x) (h1 : x < 128) :
    Ct w 3 30 97 [.ref l] news (BytP 1) False := by
  refine ct_open1 (by k_is) (by k_is) (by kernel_rfl) rfl rfl rfl ?_; k_extra "ct_in"
  k_steps
  refine hr _ [] _ _ _ (by assumption) (news_sub (by assumption) (by k_extra "subz")) lt_nilL ?_; exact ⟨_, _, rfl, rfl⟩
theorem octs2 {w : World} {x y : Int} {l : Addr} {n : Nat} {t u : Tok} {news : List (Addr × Obj)} (hl : (l, W.listOf #[.int x t, .int y u] n) ∈ news) (h0 : 0 ≤ x) (h1 : x < 128) (g0 : 0 ≤ y) (g1 : y < 128):
    Ct w 3 30 97 [.ref l] news (BytP 2) False := by
  refine ct_open1 (by k_is) (by k_is) (by kernel_rfl) rfl rfl rfl ?_; k_extra "ct_in"
  k_steps
  refine hr _ [] _ _ _ (by assumption) (news_sub (by assumption) (by k_extra "subz")) lt_nilL ?_; exact ⟨_, _, rfl, rfl⟩
theorem words5 : True := by
  k_with "call builtin:list.append!" => ((k_here; k_dflt (refine append_K (by k_asm) (by k_asm) (by k_upd) ?_ (by size_fits)); intro hzq Fzq Nzq; (try k_sweep)))
  k_with "call ref!" => ((k_here; (with_reducible show wpAny _ _ (call (Value.ref 97) _) _ _ _); k_dflt (first | refine use_byt c (by assumption) (by assumption) hd9 hu9 (octs1 (by k_mem) (by omega) (by omega)) rfl rfl nofun ?_ | refine use_byt c (by assumption) (by assumption) hd9 hu9 (octs2 (by k_mem) (by omega) (by omega) (by omega) (by omega)) rfl rfl nofun ?_); intro oa ot h9 tk9 oz F9 N9))
  trivial
theorem uleb1 {w : World} {x : Int} {t : Tok} {news : List (Addr × Obj)} (h0 : 0 ≤ x) (h1 : x < 128) :
    Ct w 6 100 104 [.int x t] news (BytP 1) False := by
  refine ct_open1 (by k_is) (by k_is) (by kernel_rfl) rfl rfl rfl ?_; k_extra "ct_in"
  k_steps
  exact hr _ [] _ _ _ (by assumption) (news_sub (by assumption) (by k_extra "subz")) lt_nilL ⟨_, _, by assumption, rfl⟩
theorem uleb2 {w : World} {x : Int} {t : Tok} {news : List (Addr × Obj)} (h0 : 128 ≤ x) (h1 : x < 16384) :
    Ct w 6 100 104 [.int x t] news (BytP 2) False := by
  refine ct_open1 (by k_is) (by k_is) (by kernel_rfl) rfl rfl rfl ?_; k_extra "ct_in"
  k_steps
  exact hr _ [] _ _ _ (by assumption) (news_sub (by assumption) (by k_extra "subz")) lt_nilL ⟨_, _, by assumption, rfl⟩
theorem sleb1 {w : World} {x : Int} {t : Tok} {news : List (Addr × Obj)} (h0 : -64 ≤ x) (h1 : x < 64) :
    Ct w 6 100 111 [.int x t] news (BytP 1) False := by
  refine ct_open1 (by k_is) (by k_is) (by kernel_rfl) rfl rfl rfl ?_; k_extra "ct_in"
  k_steps
  exact hr _ [] _ _ _ (by assumption) (news_sub (by assumption) (by k_extra "subz")) lt_nilL ⟨_, _, by assumption, rfl⟩
theorem sleb2 {w : World} {x : Int} {t : Tok} {news : List (Addr × Obj)} (h0 : -8192 ≤ x) (h1 : x < 8192) (h2 : ¬ (-64 ≤ x ∧ x < 64)) :
    Ct w 6 100 111 [.int x t] news (BytP 2) False := by
  refine ct_open1 (by k_is) (by k_is) (by kernel_rfl) rfl rfl rfl ?_; k_extra "ct_in"
  k_steps
  all_goals exact hr _ [] _ _ _ (by assumption) (news_sub (by assumption) (by k_extra "subz")) lt_nilL ⟨_, _, by assumption, rfl⟩
theorem align_ct {w : World} {x y : Int} {t1 t2 : Tok} {news : List (Addr × Obj)} (hy : 0 < y) :
    Ct w 3 30 118 [.int x t1, .int y t2] news (IntP (x + Int.fmod (-x) y)) False := by
  refine ct_open2 (by k_is) (by k_is) (by kernel_rfl) rfl rfl rfl ?_; k_extra "ct_in"
  k_steps
  exact hr _ [] _ _ _ (by assumption) (news_sub (by assumption) (by k_extra "subz")) lt_nilL ⟨_, rfl⟩
-- R2
theorem words6 : True := by
  k_with "execs cons If nil" => (k_here; (with_reducible refine nx_last (G := G) (D := D) (O := O) ?_))
  k_with "execs cons If cons" => (k_here; (with_reducible refine nx_cons (G := G) (D := D) (O := O) ?_))
  k_with "execs cons For nil" => (k_here; (with_reducible refine nx_last (G := G) (D := D) (O := O) ?_))
  k_with "execs cons For cons" => (k_here; (with_reducible refine nx_cons (G := G) (D := D) (O := O) ?_))
  k_with "execs cons While nil" => (k_here; (with_reducible refine nx_last (G := G) (D := D) (O := O) ?_))
  k_with "execs cons While cons" => (k_here; (with_reducible refine nx_cons (G := G) (D := D) (O := O) ?_))
  k_with "execs cons Try nil" => (k_here; (with_reducible refine nx_last (G := G) (D := D) (O := O) ?_))
  k_with "execs cons Try cons" => (k_here; (with_reducible refine nx_cons (G := G) (D := D) (O := O) ?_))
  k_with "my_for" => ((k_here; (rename Fr _ _ _ _ => lF'); k_dflt (with_unfolding_all refine' For_turns lF' ?_)))
  k_with "exec For Name Attribute cons nil!" => (k_extra "my_for")
  k_with "exec For Name Name cons nil!" => (k_extra "my_for")
  k_with "exec For Name Subscript cons nil!" => (k_extra "my_for")
  k_with "exec For Name Call cons nil!" => (k_extra "my_for")
  k_with "exec For Tuple Call cons nil!" => (k_extra "my_for")
  k_with "exec For Tuple Tuple cons nil!" => (k_extra "my_for")
  k_with "UnrEndW!" => (((first | refine unrEnd1_0 (by assumption) (by assumption) (by k_all) ?_ | refine unrEnd1_1 (by assumption) (by assumption) (by k_all) ?_ | refine unrEnd1_2 (by assumption) (by assumption) (by k_all) ?_); (try refine ⟨subL_one (by k_mem), ?_⟩)))
  k_with "last pyIter ref!" => ((k_here; (with_reducible show wpAny _ _ _ (fun it s₂ => TurnsAt _ _ _ _ _ _ _ _ _ it s₂) _ _); k_dflt (first | (refine iterL rfl (by k_asm) (by k_asm) (by k_mem) ?_; intro I' l1'; (try k_lt l1')) | (refine iterT rfl (by k_asm) (by k_asm) (by k_mem) ?_; intro I' l1'; (try k_lt l1')))))
  k_with "subscriptTail!" => ((k_here; (with_reducible show wpAny _ _ (subscriptTail _ _ (Value.ref _) (Value.str _ _)) _ _ _); k_dflt (refine kda_item (knd := PySem.strKind _ _) (by k_asm) (by k_mem) (by assumption) (strKind_is _ _ _ _) (by first | assumption | rfl) ?_)))
  k_with "getItem ref str!" => ((k_here; k_dflt (refine kdt_getItem (knd := PySem.strKind _ _) (by k_asm) (by k_mem) (by assumption) (strKind_is _ _ _ _) (by first | assumption | rfl) ?_)))
  k_with "compareOp In str ref!" => ((k_here; k_dflt (first | (refine kda_in (knd := PySem.strKind _ _) (by k_asm) (by k_mem) (by assumption) (by assumption) (strKind_is _ _ _ _) true (by first | exact congrArg Option.isSome (by assumption : valueAt _ _ = some _) | exact congrArg Option.isSome (by assumption : valueAt _ _ = none) | rfl) ?_) | (refine kda_in (knd := PySem.strKind _ _) (by k_asm) (by k_mem) (by assumption) (by assumption) (strKind_is _ _ _ _) false (by first | exact congrArg Option.isSome (by assumption : valueAt _ _ = some _) | exact congrArg Option.isSome (by assumption : valueAt _ _ = none) | rfl) ?_))))
  k_with "compareOp NotIn str ref!" => ((k_here; k_dflt (first | (refine kdg_notin (knd := PySem.strKind _ _) (by k_asm) (by k_mem) (by assumption) (by assumption) (strKind_is _ _ _ _) true (by first | exact congrArg Option.isSome (by assumption : valueAt _ _ = some _) | exact congrArg Option.isSome (by assumption : valueAt _ _ = none) | rfl) ?_) | (refine kdg_notin (knd := PySem.strKind _ _) (by k_asm) (by k_mem) (by assumption) (by assumption) (strKind_is _ _ _ _) false (by first | exact congrArg Option.isSome (by assumption : valueAt _ _ = some _) | exact congrArg Option.isSome (by assumption : valueAt _ _ = none) | rfl) ?_))))
  k_with "compareOp NotEq ref ref!" => ((k_here; k_dflt (first | (refine l_ne_len (by k_asm) (by k_mem) (by k_mem) (by exact rfl) (by k_extra "ct_room") ?_) | (refine l_ne_nil (by k_asm) (by k_mem) (by k_mem) (by exact rfl) (by exact rfl) (by k_extra "ct_room") ?_))))
  k_with "compareOp Eq ref ref!" => ((k_here; k_dflt (first | (refine l_eq_len (by k_asm) (by k_mem) (by k_mem) (by exact rfl) (by k_extra "ct_room") ?_) | (refine l_eq_nil (by k_asm) (by k_mem) (by k_mem) (by exact rfl) (by exact rfl) (by k_extra "ct_room") ?_))))
  k_with "subscriptTail Name Constant ref int!" => ((k_here; k_dflt (first | (refine l_item (by k_asm) (by k_mem) (by decide) (by decide) (by exact rfl) ?_ (by with_unfolding_all rfl)) | (refine t_item (by k_asm) (by k_mem) (by decide) (by decide) (by exact rfl) ?_ (by with_unfolding_all rfl)))))
  trivial
theorem bne_no {p q : Str} (h : p ≠ q) (e : (p != q) = false) : False := by simp_all
theorem bne_yes {p q : Str} (e : (p != q) = true) : p ≠ q := by simp_all
theorem bne_self {p : Str} (e : (p != p) = true) : False := by simp_all
theorem aff3_ct {w : World} {news : Led} {k : Int} {p q : Str} {t1 t2 t3 : Tok} (h : p ≠ q) : Ct w 4 60 178 [.int k t1, .str p t2, .str q t3] news (RefP fun tl c => AffAt w tl c k p q) False := by
  refine' ct_cls4 (by k_is) (by k_is) (by k_is) (by k_is) (by k_is) (by kernel_rfl) ?hb rfl rfl ?_; (case hb => intro x s X; first | exact BindsTo.of_eq rfl | exact binds_K X rfl (by k_is) rfl rfl rfl); (intro x0 d0 l1 l2; k_extra "ct_in")
  k_steps
  all_goals first
    | (exfalso; exact bne_no (by assumption) (by assumption))
    | exact hn [_, _] _ _ _ (by assumption) (by assumption) (lt_cons (fun p hp => Nat.lt_trans (l1 p hp) l2) (lt_cons l1 lt_nilL)) ⟨_, rfl, .mk _ _ _ _ _ _ _ (.head _) (.tail _ (.head _))⟩
theorem aff3e_ct {w : World} {news : Led} {k : Int} {p : Str} {t1 t2 t3 : Tok} : Ct w 4 60 178 [.int k t1, .str p t2, .str p t3] news (RefP fun tl c => AffAt w tl c k (Str.ofString "") (Str.ofString "")) False := by
  refine' ct_cls4 (by k_is) (by k_is) (by k_is) (by k_is) (by k_is) (by kernel_rfl) ?hb rfl rfl ?_; (case hb => intro x s X; first | exact BindsTo.of_eq rfl | exact binds_K X rfl (by k_is) rfl rfl rfl); (intro x0 d0 l1 l2; k_extra "ct_in")
  k_steps
  all_goals first
    | (exfalso; exact bne_self (by assumption))
    | exact hn [_, _] _ _ _ (by assumption) (by assumption) (lt_cons (fun p hp => Nat.lt_trans (l1 p hp) l2) (lt_cons l1 lt_nilL)) ⟨_, rfl, .mk _ _ _ _ _ _ _ (.head _) (.tail _ (.head _))⟩
theorem words7 : True := by
  k_with "call ref!" => ((k_here; (with_reducible show wpAny _ _ (call (Value.ref 178) _) _ _ _); k_dflt (first | refine use_ref c (by assumption) (by assumption) hd9 hu9 (aff3_ct (by first | assumption | decide | exact bne_yes (by assumption))) rfl rfl nofun ?_ | refine use_ref c (by assumption) (by assumption) hd9 hu9 aff3e_ct rfl rfl nofun ?_); intro c9 tl9 h9 tk9 F9 N9 hl9 hAf))
  k_with "CompSrcT!" => ((k_here; k_dflt (refine LCt.CompSrcT.ledger rfl (by k_asm) (by k_asm) (by k_mem) (by first | size_fits | exact Nat.le_of_ble_eq_true rfl) ?_; intro g'; lct_lit)))
  trivial
theorem affo_any {w : World} {news : Led} {k : Int} {p2 : Str} {t t1 t2 t3 t4 : Tok} {n1 n2 : Nat} {l1 l2 : Addr} (h1 : (l1, W.listOf #[.str (Str.ofString "") t1, .str p2 t2] n1) ∈ news) (h2 : (l2, W.listOf #[.str (Str.ofString "") t3, .str (Str.ofString "") t4] n2) ∈ news) :
    Ct w 6 80 187 [.int k t, .ref l1, .ref l2] news (RefP fun tl c => AffAt w tl c k p2 (Str.ofString "")) False := by
  refine ct_open3 (by k_is) (by k_is) (by kernel_rfl) rfl rfl rfl ?_; k_extra "ct_in"
  k_steps
  all_goals first
    | exact hr _ tl9 _ _ _ (by assumption) (news_sub (by assumption) (by k_extra "subz")) (lt_sub hl9 (by k_extra "subz")) ⟨_, rfl, hAf⟩
    | (have e9 : p2 = Str.ofString "" := (by first | assumption | (simp_all; done) | exact Decidable.byContradiction fun hne => bne_no hne (by assumption)); subst e9; exact hr _ tl9 _ _ _ (by assumption) (news_sub (by assumption) (by k_extra "subz")) (lt_sub hl9 (by k_extra "subz")) ⟨_, rfl, hAf⟩)
theorem affo_ct {w : World} {news : Led} {k : Int} {p2 : Str} {t t1 t2 t3 t4 : Tok} {n1 n2 : Nat} {l1 l2 : Addr} (h1 : (l1, W.listOf #[.str (Str.ofString "") t1, .str p2 t2] n1) ∈ news) (h2 : (l2, W.listOf #[.str (Str.ofString "") t3, .str (Str.ofString "") t4] n2) ∈ news) (_ : p2 ≠ Str.ofString "") :
    Ct w 6 80 187 [.int k t, .ref l1, .ref l2] news (RefP fun tl c => AffAt w tl c k p2 (Str.ofString "")) False := affo_any h1 h2
theorem affo0_ct {w : World} {news : Led} {k : Int} {t t1 t2 t3 t4 : Tok} {n1 n2 : Nat} {l1 l2 : Addr} (h1 : (l1, W.listOf #[.str (Str.ofString "") t1, .str (Str.ofString "") t2] n1) ∈ news) (h2 : (l2, W.listOf #[.str (Str.ofString "") t3, .str (Str.ofString "") t4] n2) ∈ news) :
    Ct w 6 80 187 [.int k t, .ref l1, .ref l2] news (RefP fun tl c => AffAt w tl c k (Str.ofString "") (Str.ofString "")) False := affo_any h1 h2
theorem words8 : True := by
  k_with "call ref!" => ((k_here; (with_reducible show wpAny _ _ (call (Value.ref 187) _) _ _ _); k_dflt (refine use_ref c (by assumption) (by assumption) hd9 hu9 (affo_any (by k_mem) (by k_mem)) rfl rfl nofun ?_); intro c9 tl9 h9 tk9 F9 N9 hl9 hAf))
  trivial
theorem add_any {w : World} {news : Led} {a b : Addr} {k1 k2 : Int} {p2 : Str} (ha : AffAt w news a k1 (Str.ofString "") (Str.ofString "")) (hb : AffAt w news b k2 p2 (Str.ofString "")) :
    Ct w 9 90 168 [.ref a, .ref b] news (RefP fun tl c => AffAt w tl c (k1 + k2) p2 (Str.ofString "")) False := by
  obtain ⟨_, _, _, _, _, _, _, ha1, ha2⟩ := ha
  obtain ⟨_, _, _, _, _, _, _, hb1, hb2⟩ := hb
  refine ct_open2 (by k_is) (by k_is) (by kernel_rfl) rfl rfl rfl ?_; k_extra "ct_in"
  k_steps
  exact hr _ tl9 _ _ _ (by assumption) (news_sub (by assumption) (by k_extra "subz")) (lt_sub hl9 (by k_extra "subz")) ⟨_, rfl, hAf⟩
theorem add_ct {w : World} {news : Led} {a b : Addr} {k1 k2 : Int} {p2 : Str} (ha : AffAt w news a k1 (Str.ofString "") (Str.ofString "")) (hb : AffAt w news b k2 p2 (Str.ofString "")) (_ : p2 ≠ Str.ofString "") :
    Ct w 9 90 168 [.ref a, .ref b] news (RefP fun tl c => AffAt w tl c (k1 + k2) p2 (Str.ofString "")) False := add_any ha hb
theorem add0_ct {w : World} {news : Led} {a b : Addr} {k1 k2 : Int} (ha : AffAt w news a k1 (Str.ofString "") (Str.ofString "")) (hb : AffAt w news b k2 (Str.ofString "") (Str.ofString "")) :
    Ct w 9 90 168 [.ref a, .ref b] news (RefP fun tl c => AffAt w tl c (k1 + k2) (Str.ofString "") (Str.ofString "")) False := add_any ha hb
-- R1
theorem valueAt_lab {j : Nat} {b : Addr} : ∀ {ts : List Addr} {i : Nat}, ts[j]? = some b → i + ts.length ≤ 12 → valueAt (labKvs i ts) (lab (i + j)) = some (.ref b) := by
  intro ts
  induction ts generalizing j with
  | nil => intro i h; simp at h
  | cons a r ih =>
    intro i h hl
    cases j with
    | zero =>
      simp only [List.getElem?_cons_zero, Option.some.injEq] at h
      subst h
      simp [valueAt, labKvs]
    | succ j =>
      simp only [List.getElem?_cons_succ] at h
      have hj : j < r.length := (List.getElem?_eq_some_iff.mp h).1
      simp only [List.length_cons] at hl
      have ne : lab i ≠ lab (i + (j + 1)) := fun e => by have := lab_inj_le (by omega) (by omega) e; omega
      have := ih (i := i + 1) h (by omega)
      rw [show i + 1 + j = i + (j + 1) by omega] at this
      simpa [valueAt, labKvs, List.find?_cons, ne] using this
theorem valueAt_lab_none {x : Str} (hx : x.cps[0]? ≠ some 108) : ∀ {ts : List Addr} {i : Nat}, valueAt (labKvs i ts) x = none := by
  intro ts
  induction ts with
  | nil => intro i; rfl
  | cons a r ih =>
    intro i
    have := ih (i := i + 1)
    simpa [valueAt, labKvs, List.find?_cons, lab_ne hx] using this
inductive FlAt (nm : String) (j : Int) (tl : Led) (a : Addr) : Prop
  | mk (t1 t2 t3 n : Nat) (h : (a, tupObj #[.str (Str.ofString nm) t1, .int j t2, .int 0 t3] n) ∈ tl)
theorem hbt_of {news : Led} {p : PA} {rows : List Row} {w : World} (hP : ProgAt w news p rows) (hn : rows.length ≤ 10) {j : Nat} (hj : j ≤ rows.length) : ∃ b, valueAt (labKvs 0 p.ts) (lab j) = some (.ref b) ∧ ∃ t1 t2 n, (b, tupObj #[.int j t1, .int 0 t2] n) ∈ news := by
  have hjt : j < p.ts.length := by have := hP.hts; omega
  have hb := List.getElem?_eq_getElem hjt
  refine ⟨_, ?_, hP.hlab j _ hb⟩
  have := valueAt_lab (i := 0) hb (by have := hP.hts; omega)
  rwa [Nat.zero_add] at this
theorem find_label_ct {w : World} {news : Led} {p : PA} {rows : List Row} (hP : ProgAt w news p rows) (hn : rows.length ≤ 10) {j : Nat} {t : Tok} (hj : j ≤ rows.length) :
    Ct w 3 60 243 [.ref p.P, .str (lab j) t] news (RefP (FlAt ".text" j)) False := by
  obtain ⟨b, hval, _, _, _, hbt⟩ := hbt_of hP hn hj
  have hdP := hP.hdP
  have hnm := hP.hnm
  have hdT := hP.hdT
  have hdD := hP.hdD
  have h1 := hP.hP
  have h2 := hP.hsec
  have h3 := hP.hS
  have h4 := hP.hT
  have h5 := hP.hTL
  have h6 := hP.hL
  have h7 := hP.lTL
  refine ct_open2 (by k_is) (by k_is) (by kernel_rfl) rfl rfl rfl ?_; k_extra "ct_in"
  k_steps
  exact hr _ [_] _ _ _ (by assumption) (news_sub (by assumption) (by k_extra "subz")) (lt_consS (by assumption) (by k_extra "subz") lt_nilL) ⟨_, rfl, .mk _ _ _ _ (.head _)⟩
-- R3
theorem words9 : True := by
  k_with "call ref!" => ((k_here; (with_reducible show wpAny _ _ (call (Value.ref 178) _) _ _ _); k_dflt (first | refine use_ref c (by assumption) (by assumption) hd9 hu9 (aff3_ct (by first | assumption | decide)) rfl rfl nofun ?_ | refine use_ref c (by assumption) (by assumption) hd9 hu9 aff3e_ct rfl rfl nofun ?_); rintro c9 tl9 h9 tk9 F9 N9 hl9 ⟨d9, tA1, tA2, tA3, kA1, kA2, kA3, hAg1, hAg2⟩))
  k_with "call ref!" => ((k_here; (with_reducible show wpAny _ _ (call (Value.ref 168) _) _ _ _); k_dflt (first | refine use_ref c (by assumption) (by assumption) hd9 hu9 (add0_ct (.mk _ _ _ _ _ _ _ (by k_mem) (by k_mem)) (.mk _ _ _ _ _ _ _ (by k_mem) (by k_mem))) rfl rfl nofun ?_ | refine use_ref c (by assumption) (by assumption) hd9 hu9 (add_ct (.mk _ _ _ _ _ _ _ (by k_mem) (by k_mem)) (.mk _ _ _ _ _ _ _ (by k_mem) (by k_mem)) (by decide)) rfl rfl nofun ?_); intro c8 tl8 h8 tk8 F8 N8 hl8 hAh))
  k_with "call ref!" => ((k_here; (with_reducible show wpAny _ _ (call (Value.ref 83) _) _ _ _); refine use_ref c (by assumption) (by assumption) hd9 hu9 le_ct rfl rfl nofun ?_; rintro c7 tl7 h7 tk7 F7 N7 hl7 ⟨t7, d7, n7, vs7, hE1, hE2⟩))
  k_with "exec Raise some none!" => ((k_here; k_dflt (refine raise_stmt (by rfl) ?_)))
  trivial
theorem len_d4 {prog : Program} {w : World} {A : Around} {E : Value → Shared → Prop} {s : Shared} {h₀ : Heap} {L d : Addr} {o : Obj} {news : Led} {kvs : List (Str × Value)} {Q : Value → Shared → Prop} (N : News h₀ L s.heap news) (hp : (d, o) ∈ news) (hd : o.IsDictOf (PySem.strKind prog w) kvs)
    (lo : (d == sysModules) = false) (h4 : kvs.length = 4) (h : Q (.int 4 (s.toks + 1)) { s with toks := s.toks + 1 + 1 }) : wpAny (model prog w) A (call (.builtin "len") [.ref d]) Q E s :=
  kda_len N hp hd lo (by omega) (by rw [h4]; exact h)
theorem words10 : True := by
  k_with "call builtin:len!" => ((k_here; k_dflt (refine len_d4 (by k_asm) (by k_mem) (by assumption) (by assumption) (by exact rfl) ?_)))
  trivial
noncomputable def Word.plain (i : Nat) (k : Int) : Word → Option (Int × Str)
  | .emp => some (k, Str.ofString "")
  | .cur => some (k, lab i)
  | .equ => some (k + 5, Str.ofString "l1")
  | .equ2 => some (k + 3, Str.ofString "l1")
  | .l0 => some (k, Str.ofString "l0")
  | .pln => some (k + 200, Str.ofString "")
  | .ring => none
  | .nowh => some (k, Str.ofString "nowhere")
  | .nxt => some (k, lab (i + 1))
inductive Reach (i : Nat) (k : Int) : Word → Nat → Int → Str → Prop
  | start (wd : Word) : Reach i k wd 0 k (wd.text i)
  | equ : Reach i k .equ 1 (k + 5) (Str.ofString "l1")
  | equ2 : Reach i k .equ2 1 (k + (-2)) (Str.ofString "EQU")
  | equ2' : Reach i k .equ2 2 (k + (-2) + 5) (Str.ofString "l1")
  | pln : Reach i k .pln 1 (k + 200) (Str.ofString "")
  | ring (j : Nat) : Reach i k .ring j (k + j) (Str.ofString "RING")
theorem reach_cases {i : Nat} {k : Int} {wd : Word} {j : Nat} {k' : Int} {p' : Str} (h : Reach i k wd j k' p') :
    ((∀ a b c d : Value, valueAt [(Str.ofString "EQU", a), (Str.ofString "EQU2", b), (Str.ofString "PLAIN", c), (Str.ofString "RING", d)] p' = none) ∧ wd.plain i k = some (k', p')) ∨
    (p' = Str.ofString "EQU" ∧ Reach i k wd (j + 1) (k' + 5) (Str.ofString "l1")) ∨ (p' = Str.ofString "EQU2" ∧ Reach i k wd (j + 1) (k' + (-2)) (Str.ofString "EQU")) ∨
    (p' = Str.ofString "PLAIN" ∧ Reach i k wd (j + 1) (k' + 200) (Str.ofString "")) ∨ (p' = Str.ofString "RING" ∧ Reach i k wd (j + 1) (k' + 1) (Str.ofString "RING")) := by
  have nl : ∀ n : Nat, ∀ a b c d : Value, valueAt [(Str.ofString "EQU", a), (Str.ofString "EQU2", b), (Str.ofString "PLAIN", c), (Str.ofString "RING", d)] (lab n) = none := by
    intro n a b c d
    have h1 : ¬ Str.ofString "EQU" = lab n := fun e => lab_ne (n := n) (x := Str.ofString "EQU") (by decide +kernel) e.symm
    have h2 : ¬ Str.ofString "EQU2" = lab n := fun e => lab_ne (n := n) (x := Str.ofString "EQU2") (by decide +kernel) e.symm
    have h3 : ¬ Str.ofString "PLAIN" = lab n := fun e => lab_ne (n := n) (x := Str.ofString "PLAIN") (by decide +kernel) e.symm
    have h4 : ¬ Str.ofString "RING" = lab n := fun e => lab_ne (n := n) (x := Str.ofString "RING") (by decide +kernel) e.symm
    simp [valueAt, h1, h2, h3, h4]
  have l0 : ∀ a b c d : Value, valueAt [(Str.ofString "EQU", a), (Str.ofString "EQU2", b), (Str.ofString "PLAIN", c), (Str.ofString "RING", d)] (Str.ofString "l0") = none := fun _ _ _ _ => rfl
  have l1 : ∀ a b c d : Value, valueAt [(Str.ofString "EQU", a), (Str.ofString "EQU2", b), (Str.ofString "PLAIN", c), (Str.ofString "RING", d)] (Str.ofString "l1") = none := fun _ _ _ _ => rfl
  have le : ∀ a b c d : Value, valueAt [(Str.ofString "EQU", a), (Str.ofString "EQU2", b), (Str.ofString "PLAIN", c), (Str.ofString "RING", d)] (Str.ofString "") = none := fun _ _ _ _ => rfl
  have ln : ∀ a b c d : Value, valueAt [(Str.ofString "EQU", a), (Str.ofString "EQU2", b), (Str.ofString "PLAIN", c), (Str.ofString "RING", d)] (Str.ofString "nowhere") = none := fun _ _ _ _ => rfl
  cases h with
  | start wd =>
    cases wd with
    | emp => exact .inl ⟨le, rfl⟩
    | cur => exact .inl ⟨nl _, rfl⟩
    | equ => exact .inr (.inl ⟨rfl, .equ⟩)
    | equ2 => exact .inr (.inr (.inl ⟨rfl, .equ2⟩))
    | l0 => exact .inl ⟨l0, rfl⟩
    | pln => exact .inr (.inr (.inr (.inl ⟨rfl, .pln⟩)))
    | ring => exact .inr (.inr (.inr (.inr ⟨rfl, .ring 1⟩)))
    | nowh => exact .inl ⟨ln, rfl⟩
    | nxt => exact .inl ⟨nl _, rfl⟩
  | equ => exact .inl ⟨l1, rfl⟩
  | equ2 => exact .inr (.inl ⟨rfl, .equ2'⟩)
  | equ2' => exact .inl ⟨l1, by show some (k + 3, _) = some (k + (-2) + 5, _); rw [show k + (-2) + 5 = k + 3 by omega]⟩
  | pln => exact .inl ⟨le, rfl⟩
  | ring j =>
    refine .inr (.inr (.inr (.inr ⟨rfl, ?_⟩)))
    have := Reach.ring (i := i) (k := k) (j + 1)
    rwa [show k + ((j + 1 : Nat) : Int) = k + (j : Int) + 1 by omega] at this
theorem reach_ten {i : Nat} {k : Int} {wd : Word} {k' : Int} {p' : Str} (h : Reach i k wd 10 k' p') : wd.plain i k = none := by
  cases h; rfl
inductive PlainJ (w : World) (p : PA) (news : Led) (i : Nat) (k : Int) (wd : Word) (j : Nat) (m : SMap) (n : Led) : Prop
  | mk (f' : Addr) (k' : Int) (p' : Str) (tl : Led) (hR : Reach i k wd j k' p') (hA : AffAt w n f' k' p' (Str.ofString "")) (en : n = tl ++ news) (hlt : Lt news tl) (e1 : m (Str.ofString "program") = some (.ref p.P)) (e2 : m (Str.ofString "found") = some (.ref f'))
noncomputable def PlnP (w : World) (news : Led) (x : Option (Int × Str)) : Led → Value → Prop := fun tl r => ∃ c k' p', x = some (k', p') ∧ r = .ref c ∧ AffAt w (tl ++ news) c k' p' (Str.ofString "")
theorem use_pln {w : World} {nd nu : Nat} {f : Addr} {args : List Value} {news : Led} {exc : Prop} {A A₀ : Around} {env : Env} {outer : List Env} {base g : Heap} {L : Addr} {mg mb : SMap} {mean : ExcName → Option Value} {m : SMap} {h : Heap} {G : Array GenState} {D : Drawn} {tk : Nat} {O : OsState} {Q E : Value → Shared → Prop} {nd' nu' : Nat} {x : Option (Int × Str)} (c : Amb w A A₀ env outer base g L mg mb mean) (F : Fr g L h m) (N : News g L h news) (hd9 : A.depth + nd' < recursionLimit) (hu9 : A.units + nu' < cLine) (C : Ct w nd nu f args news (PlnP w news x) exc) (h1 : Nat.ble nd nd' = true) (h2 : Nat.ble nu nu' = true)
    (hx : exc → ∀ e t vs h' tk' g', Fr g L g' m → RaisedS base g' (env :: outer) e (.ref 83) t vs news h' → g'.UpToSlots h' → E (.ref e) ⟨h', G, D, tk', O⟩)
    (ret : ∀ c k p tl h' tk', x = some (k, p) → Fr g L h' m → News g L h' (tl ++ news) → Lt news tl → AffAt w (tl ++ news) c k p (Str.ofString "") → Q (.ref c) ⟨h', G, D, tk', O⟩) : wpAny (model PG w) A (call (.ref f) args) Q E ⟨h, G, D, tk, O⟩ :=
  ct_use c F N hd9 hu9 C h1 h2 hx fun _ tl h' tk' F N l ⟨_, _, _, hz, e, a⟩ => e ▸ ret _ _ _ tl h' tk' hz F N l a
theorem reach_next {w : World} {news : Led} {p : PA} {rows : List Row} (hP : ProgAt w news p rows) {i : Nat} {k : Int} {wd : Word} {j : Nat} {k' : Int} {p' : Str} (h : Reach i k wd j k' p') :
    ((∀ a b c d : Value, valueAt [(Str.ofString "EQU", a), (Str.ofString "EQU2", b), (Str.ofString "PLAIN", c), (Str.ofString "RING", d)] p' = none) ∧ wd.plain i k = some (k', p')) ∨
    ∃ e ke pe, ¬ p' = Str.ofString "" ∧ valueAt [(Str.ofString "EQU", .ref p.e1), (Str.ofString "EQU2", .ref p.e2), (Str.ofString "PLAIN", .ref p.e3), (Str.ofString "RING", .ref p.e4)] p' = some (.ref e) ∧ AffAt w news e ke pe (Str.ofString "") ∧ Reach i k wd (j + 1) (k' + ke) pe := by
  rcases reach_cases h with h | ⟨rfl, hR⟩ | ⟨rfl, hR⟩ | ⟨rfl, hR⟩ | ⟨rfl, hR⟩
  · exact .inl h
  · exact .inr ⟨_, _, _, by decide +kernel, rfl, hP.h1, hR⟩
  · exact .inr ⟨_, _, _, by decide +kernel, rfl, hP.h2, hR⟩
  · exact .inr ⟨_, _, _, by decide +kernel, rfl, hP.h3, hR⟩
  · exact .inr ⟨_, _, _, by decide +kernel, rfl, hP.h4, hR⟩
theorem words11 : True := by
  k_with "call ref!" => ((k_here; (with_reducible show wpAny _ _ (call (Value.ref 168) _) _ _ _); k_dflt (refine use_ref c (by assumption) (by assumption) hd9 hu9 (add_any (.mk _ _ _ _ _ _ _ (by k_mem) (by k_mem)) (hAe.mono (by show Sub news _; k_extra "subz"))) rfl rfl nofun ?_); intro c8 tl8 h8 tk8 F8 N8 hl8 hAh))
  trivial
theorem plain_ct {w : World} {news : Led} {p : PA} {rows : List Row} (hP : ProgAt w news p rows) {i : Nat} {wd : Word} {k : Int} {f : Addr} (hf : AffAt w news f k (wd.text i) (Str.ofString "")) :
    Ct w 12 160 250 [.ref p.P, .ref f] news (PlnP w news (wd.plain i k)) (wd.plain i k = none) := by
  have hdP := hP.hdP
  have h1 := hP.hP
  have h2 := hP.heq
  have h3 := hP.hE
  have h4 := hP.leq
  refine ct_open2 (by k_is) (by k_is) (by kernel_rfl) rfl rfl rfl ?_; k_extra "ct_in"
  k_steps
  refine lp_range (n := 10) (G := G) (D := D) (O := O) (PlainJ w p news i k wd) rfl rfl (by assumption) (by decide) (by decide) (by assumption) (by assumption) (.mk f k _ [] (.start wd) hf rfl lt_nilL rfl rfl) ?_ ?_
  · rintro I oI j t m₁ n₁ h₁ tk₁ q7 hj ⟨f', k', p', tl, hR, hA, rfl, hlt, e1, e2⟩ F₁ N₁ off hr7 hn7
    replace F₁ := fr_eta2 F₁ e1 e2
    clear e1 e2
    have hA' := hA
    obtain ⟨d1, _, _, _, _, _, _, ha1, ha2⟩ := hA
    rcases reach_next hP hR with ⟨hv, hp⟩ | ⟨e, ke, pe, hne, hve, hAe, hR'⟩
    · have hv' := hv (.ref p.e1) (.ref p.e2) (.ref p.e3) (.ref p.e4)
      k_steps
      refine hr7 _ _ ?_
      first | refine hr8 _ _ ?_ | refine nx_ret ?_
      exact hr _ tl _ _ _ (by assumption) (news_sub (by assumption) (by k_extra "subz")) hlt ⟨f', k', p', hp, rfl, hA'⟩
    · k_steps
      all_goals first
        | (exact hn7 _ _ _ (tl8 ++ (tl ++ news)) (by assumption) (news_sub (by assumption) (by k_extra "subz")) (off_app (off_lt hl8 (by k_mem)) off) (.mk c8 _ _ (tl8 ++ tl) hR' (hAh.mono fun _ h => List.mem_append_left _ h) (List.append_assoc ..).symm (lt_app (lt_sub hl8 (by k_extra "subz")) hlt) rfl rfl))
        | (exfalso; simp_all; done)
  · rintro m₁ n₁ h₁ tk₁ ⟨f', k', p', tl, hR, hA, rfl, hlt, e1, e2⟩ F₁ N₁
    k_steps
    exact RaisE.mk ((c.X.keeps F7.keep) _ _ (by k_dflt k_is)) rfl (N7 _ (List.mem_append_left _ hE1)).1 (hy (reach_ten hR) _ _ _ _ _ _ _ _ _ _ (by k_extra "subz") F7 N7 hE1 hE2 hl7)
-- R4
theorem words12 : True := by
  k_with "execs cons If nil" => (k_here; ((with_reducible refine wp_last (G := G) (D := D) (O := O) (by assumption) ?_); intro tk8; (try dsimp only)))
  k_with "execs cons If cons" => (k_here; ((with_reducible refine wp_cons (G := G) (D := D) (O := O) (by assumption) ?_); intro q8 tk8 hq8 hr8; (try dsimp only)))
  k_with "execs cons For nil" => (k_here; ((with_reducible refine wp_last (G := G) (D := D) (O := O) (by assumption) ?_); intro tk8; (try dsimp only)))
  k_with "execs cons For cons" => (k_here; ((with_reducible refine wp_cons (G := G) (D := D) (O := O) (by assumption) ?_); intro q8 tk8 hq8 hr8; (try dsimp only)))
  k_with "execs cons While nil" => (k_here; ((with_reducible refine wp_last (G := G) (D := D) (O := O) (by assumption) ?_); intro tk8; (try dsimp only)))
  k_with "execs cons While cons" => (k_here; ((with_reducible refine wp_cons (G := G) (D := D) (O := O) (by assumption) ?_); intro q8 tk8 hq8 hr8; (try dsimp only)))
  k_with "execs cons Try nil" => (k_here; ((with_reducible refine wp_last (G := G) (D := D) (O := O) (by assumption) ?_); intro tk8; (try dsimp only)))
  k_with "execs cons Try cons" => (k_here; ((with_reducible refine wp_cons (G := G) (D := D) (O := O) (by assumption) ?_); intro q8 tk8 hq8 hr8; (try dsimp only)))
  trivial
inductive IntsAt (news : Led) (a : Addr) (os : List Int) : Prop
  | mk (its : Array Value) (n : Nat) (h1 : (a, W.listOf its n) ∈ news) (h2 : its.size = os.length) (h3 : ∀ (j : Nat) v, os[j]? = some v → ∃ t, its[j]? = some (Value.int v t))
theorem IntsAt.mono {n n' : Led} (s : ∀ p ∈ n, p ∈ n') {a : Addr} {os : List Int} (h : IntsAt n a os) : IntsAt n' a os := by
  obtain ⟨its, k, x, y, z⟩ := h
  exact ⟨its, k, s _ x, y, z⟩
section
variable {prog : Program} {w : World} {A : Around} {E : Value → Shared → Prop} {s : Shared} {h₀ : Heap} {L a b : Addr} {its : Array Value} {n : Nat} {news : List (Addr × Obj)} {Q : Value → Shared → Prop}
theorem l_itemN {value slice : Expr} {j : Nat} {u : Tok} {v : Value} (N : News h₀ L s.heap news) (hm : (a, W.listOf its n) ∈ news) (hx : its[j]? = some v) (hhi : j ≤ 10000) (h : Q v s)
    (hs : subscripted slice false (.ref a) (.int j u) = operate [.ref a, .int j u] (getItem (.ref a) (.int j u))) :
    wpAny (model prog w) A (subscriptTail value slice (.ref a) (.int j u)) Q E s :=
  l_item N hm (by omega) (by omega) (by simpa using hx) h hs
end
theorem words13 : True := by
  k_with "subscriptTail Name Name ref int!" => ((k_here; k_dflt (refine l_itemN (by k_asm) (by k_mem) (by first | assumption | exact rfl) (by omega) ?_ (by with_unfolding_all rfl))))
  k_with "subscriptTail Attribute Name ref int" => (walk_at "subscriptTail Name Name ref int")
  k_with "subscriptTail Name Subscript ref int" => (walk_at "subscriptTail Name Name ref int")
  trivial
theorem org_e_ct {w : World} {news : Led} {p : PA} {rows : List Row} (hP : ProgAt w news p rows) {f o : Addr} {k : Int} {v : Value} (hf : AffAt w news f k (Str.ofString "") (Str.ofString "")) :
    Ct w 3 60 264 [.ref p.T, .ref f, .ref o, v] news (IntP k) False := by
  obtain ⟨_, _, _, _, _, _, _, hf1, hf2⟩ := hf
  refine ct_open4 (by k_is) (by k_is) (by kernel_rfl) rfl rfl rfl ?_; k_extra "ct_in"
  k_steps
  refine hr _ [] _ _ _ (by assumption) (news_sub (by assumption) (by k_extra "subz")) lt_nilL ?_
  exact ⟨_, rfl⟩
theorem org_l_ct {w : World} {news : Led} {p : PA} {rows : List Row} (hP : ProgAt w news p rows) (hlen : rows.length ≤ 10) {f o : Addr} {k g : Int} {i j : Nat} {t : Tok} {os : List Int} (hj : j ≤ i) (hi : i < rows.length) (hf : AffAt w news f k (lab j) (Str.ofString "")) (ho : IntsAt news o os) (hg : os[j]? = some g) :
    Ct w 3 60 264 [.ref p.T, .ref f, .ref o, .int i t] news (IntP (k + g)) False := by
  obtain ⟨_, _, _, _, _, _, _, hf1, hf2⟩ := hf
  obtain ⟨its, n, ho1, ho2, ho3⟩ := ho
  obtain ⟨tg, hg1⟩ := ho3 j g hg
  obtain ⟨b, hval, _, _, _, hbt⟩ := hbt_of hP hlen (j := j) (by omega)
  have hdT := hP.hdT
  have h4 := hP.hT
  have h5 := hP.hTL
  have h6 := hP.hL
  have h7 := hP.lTL
  have hne : lab j ≠ Str.ofString "" := lab_ne (by decide)
  refine ct_open4 (by k_is) (by k_is) (by kernel_rfl) rfl rfl rfl ?_; k_extra "ct_in"
  k_steps
  all_goals first | exact absurd (bne_eq_false_iff_eq.mp (by assumption)) hne | skip
  refine hr _ [] _ _ _ (by assumption) (news_sub (by assumption) (by k_extra "subz")) lt_nilL ?_
  exact ⟨_, by rw [show k + 1 * (g + 0) = k + g by omega]⟩
theorem org_n_ct {w : World} {news : Led} {p : PA} {rows : List Row} (hP : ProgAt w news p rows) (hlen : rows.length ≤ 10) {f o : Addr} {k : Int} {i j : Nat} {t : Tok} (hj : i < j) (hi : j ≤ rows.length) (hf : AffAt w news f k (lab j) (Str.ofString "")) :
    Ct w 6 100 264 [.ref p.T, .ref f, .ref o, .int i t] news (fun _ _ => False) True := by
  obtain ⟨_, _, _, _, _, _, _, hf1, hf2⟩ := hf
  obtain ⟨b, hval, _, _, _, hbt⟩ := hbt_of hP hlen (j := j) (by omega)
  have hdT := hP.hdT
  have h4 := hP.hT
  have h5 := hP.hTL
  have h6 := hP.hL
  have h7 := hP.lTL
  have hne : lab j ≠ Str.ofString "" := lab_ne (by decide)
  have hcond := trivial
  refine ct_open4 (by k_is) (by k_is) (by kernel_rfl) rfl rfl rfl ?_; k_extra "ct_in"
  k_steps
  all_goals first | exact absurd (bne_eq_false_iff_eq.mp (by assumption)) hne | skip
  exact RaisE.mk ((c.X.keeps F7.keep) _ _ (by k_dflt k_is)) rfl (N7 _ (List.mem_append_left _ hE1)).1 (hy hcond _ _ _ _ _ _ _ _ _ _ (by k_extra "subz") F7 N7 hE1 hE2 hl7)
theorem org_x_ct {w : World} {news : Led} {p : PA} {rows : List Row} (hP : ProgAt w news p rows) (hlen : rows.length ≤ 10) {f o : Addr} {k : Int} {v : Value} (hf : AffAt w news f k (Str.ofString "nowhere") (Str.ofString "")) :
    Ct w 6 100 264 [.ref p.T, .ref f, .ref o, v] news (fun _ _ => False) True := by
  obtain ⟨_, _, _, _, _, _, _, hf1, hf2⟩ := hf
  have hdT := hP.hdT
  have h4 := hP.hT
  have h5 := hP.hTL
  have h6 := hP.hL
  have h7 := hP.lTL
  have hval : valueAt (labKvs 0 p.ts) (Str.ofString "nowhere") = none := valueAt_lab_none (by decide)
  have hcond := trivial
  refine ct_open4 (by k_is) (by k_is) (by kernel_rfl) rfl rfl rfl ?_; k_extra "ct_in"
  k_steps
  exact RaisE.mk ((c.X.keeps F7.keep) _ _ (by k_dflt k_is)) rfl (N7 _ (List.mem_append_left _ hE1)).1 (hy hcond _ _ _ _ _ _ _ _ _ _ (by k_extra "subz") F7 N7 hE1 hE2 hl7)
-- S1
noncomputable def goalOf (wd : Word) (k : Int) (i : Nat) (p1 here : Int) : Option Int :=
  match wd with
  | .emp => some k
  | .cur => some (k + here)
  | .equ => if i = 0 then none else some (k + 5 + p1)
  | .equ2 => if i = 0 then none else some (k + 3 + p1)
  | .l0 => some (k + 0)
  | .pln => some (k + 200)
  | .ring => none
  | .nowh => none
  | .nxt => none
noncomputable def rawN (r : Row) (i : Nat) (p1 here W : Int) : Option Int :=
  match r with
  | .gap k => some (here + k)
  | .ali s => some (here + Int.fmod (-here) s)
  | .leb _ _ _ => some (here + W)
  | .org wd k => goalOf wd k i p1 here
noncomputable def stepN (here : Int) : Option Int → Int
  | none => here
  | some g => max here g
noncomputable def first (rows : List Row) (W : Int) : Int :=
  match rows[0]? with
  | none => 0
  | some r => stepN 0 (rawN r 0 0 0 W)
noncomputable def posn (rows : List Row) (W : Int) : Nat → Int
  | 0 => 0
  | i + 1 => match rows[i]? with
    | none => posn rows W i
    | some r => stepN (posn rows W i) (rawN r i (first rows W) (posn rows W i) W)
theorem posn_one {rows : List Row} {W : Int} : posn rows W 1 = first rows W := by
  show (match rows[0]? with | none => posn rows W 0 | some r => stepN (posn rows W 0) (rawN r 0 (first rows W) (posn rows W 0) W)) = first rows W
  unfold first
  cases h : rows[0]? with
  | none => rfl
  | some r => cases r with
    | org wd k => cases wd <;> rfl
    | _ => rfl
noncomputable def LebIs (rows : List Row) (lb : Option Nat) : Prop := ∀ i : Nat, (∃ sg x y, rows[i]? = some (.leb sg x y)) ↔ lb = some i
noncomputable def widKvs (lb : Option Nat) (v : Value) : List (Int × Value) :=
  match lb with
  | none => []
  | some i => [((i : Int), v)]
inductive WidAt (w : World) (news : Led) (a : Addr) (lb : Option Nat) (W : Int) : Prop
  | mk (o : Obj) (t : Tok) (h1 : (a, o) ∈ news) (h2 : (a == sysModules) = false) (h3 : Obj.IsDictOf (PySem.intKind PG w) o (widKvs lb (.int W t)))
theorem WidAt.mono {w : World} {n n' : Led} (s : ∀ p ∈ n, p ∈ n') {a : Addr} {lb : Option Nat} {W : Int} (h : WidAt w n a lb W) : WidAt w n' a lb W := by
  obtain ⟨o, t, x, y, z⟩ := h
  exact ⟨o, t, s _ x, y, z⟩
noncomputable def offs (rows : List Row) (W : Int) (n : Nat) : List Int := (List.range n).map (posn rows W)
theorem offs_get {rows : List Row} {W : Int} {n j : Nat} (h : j < n) : (offs rows W n)[j]? = some (posn rows W j) := by
  simp [offs, h]
theorem offs_posn {rows : List Row} {W : Int} {n j : Nat} {v : Int} (h : (offs rows W n)[j]? = some v) : v = posn rows W j := by
  have hj : j < n := by have := (List.getElem?_eq_some_iff.mp h).1; simpa [offs] using this
  rw [offs_get hj] at h
  exact (Option.some.inj h).symm
theorem org_all_ct {w : World} {news : Led} {p : PA} {rows : List Row} (hP : ProgAt w news p rows) (hn : rows.length ≤ 10) {wd : Word} {k k' W : Int} {p' : Str} {f o : Addr} {i : Nat} {t : Tok} (hi : i < rows.length) (hp : wd.plain i k = some (k', p')) (hf : AffAt w news f k' p' (Str.ofString "")) (ho : IntsAt news o (offs rows W (i + 1))) :
    Ct w 6 100 264 [.ref p.T, .ref f, .ref o, .int i t] news (OptI (goalOf wd k i (posn rows W 1) (posn rows W i))) (goalOf wd k i (posn rows W 1) (posn rows W i) = none) := by
  have e1 : Str.ofString "l1" = lab 1 := by decide +kernel
  have e0 : Str.ofString "l0" = lab 0 := by decide +kernel
  cases wd <;> simp only [Word.plain, Option.some.injEq, Prod.mk.injEq, reduceCtorEq] at hp
  case emp => obtain ⟨rfl, rfl⟩ := hp; exact ct_mono (org_e_ct hP hf) (by decide) (by decide) (fun tl r ⟨t, h⟩ => ⟨_, t, rfl, h⟩) (fun h => h.elim)
  case pln => obtain ⟨rfl, rfl⟩ := hp; exact ct_mono (org_e_ct hP hf) (by decide) (by decide) (fun tl r ⟨t, h⟩ => ⟨_, t, rfl, h⟩) (fun h => h.elim)
  case cur => obtain ⟨rfl, rfl⟩ := hp; exact ct_mono (org_l_ct hP hn (Nat.le_refl i) hi hf ho (offs_get (Nat.lt_succ_self i))) (by decide) (by decide) (fun tl r ⟨t, h⟩ => ⟨_, t, rfl, h⟩) (fun h => h.elim)
  case l0 => obtain ⟨rfl, rfl⟩ := hp; exact ct_mono (org_l_ct hP hn (Nat.zero_le i) hi (e0 ▸ hf) ho (offs_get (Nat.succ_pos i))) (by decide) (by decide) (fun tl r ⟨t, h⟩ => ⟨_, t, rfl, h⟩) (fun h => h.elim)
  case nowh => obtain ⟨rfl, rfl⟩ := hp; exact ct_mono (org_x_ct hP hn hf) (by decide) (by decide) (fun tl r h => h.elim) (fun _ => rfl)
  case nxt => obtain ⟨rfl, rfl⟩ := hp; exact ct_mono (org_n_ct hP hn (Nat.lt_succ_self i) (by omega) hf) (by decide) (by decide) (fun tl r h => h.elim) (fun _ => rfl)
  case equ =>
    obtain ⟨rfl, rfl⟩ := hp
    by_cases hz : i = 0
    · exact ct_mono (org_n_ct hP hn (j := 1) (by omega) (by omega) (e1 ▸ hf)) (by decide) (by decide) (fun tl r h => h.elim) (fun _ => by simp [goalOf, hz])
    · exact ct_mono (org_l_ct hP hn (j := 1) (by omega) hi (e1 ▸ hf) ho (offs_get (by omega))) (by decide) (by decide) (fun tl r ⟨t, h⟩ => ⟨_, t, by simp [goalOf, hz], h⟩) (fun h => h.elim)
  case equ2 =>
    obtain ⟨rfl, rfl⟩ := hp
    by_cases hz : i = 0
    · exact ct_mono (org_n_ct hP hn (j := 1) (by omega) (by omega) (e1 ▸ hf)) (by decide) (by decide) (fun tl r h => h.elim) (fun _ => by simp [goalOf, hz])
    · exact ct_mono (org_l_ct hP hn (j := 1) (by omega) hi (e1 ▸ hf) ho (offs_get (by omega))) (by decide) (by decide) (fun tl r ⟨t, h⟩ => ⟨_, t, by simp [goalOf, hz], h⟩) (fun h => h.elim)
-- S2
theorem words14 : True := by
  k_with "execs cons If nil" => (k_here; (with_reducible refine nx_last (G := G) (D := D) (O := O) ?_))
  k_with "execs cons If cons" => (k_here; (with_reducible refine nx_cons (G := G) (D := D) (O := O) ?_))
  k_with "execs cons For nil" => (k_here; (with_reducible refine nx_last (G := G) (D := D) (O := O) ?_))
  k_with "execs cons For cons" => (k_here; (with_reducible refine nx_cons (G := G) (D := D) (O := O) ?_))
  k_with "execs cons While nil" => (k_here; (with_reducible refine nx_last (G := G) (D := D) (O := O) ?_))
  k_with "execs cons While cons" => (k_here; (with_reducible refine nx_cons (G := G) (D := D) (O := O) ?_))
  k_with "execs cons Try nil" => (k_here; (with_reducible refine nx_last (G := G) (D := D) (O := O) ?_))
  k_with "execs cons Try cons" => (k_here; (with_reducible refine nx_cons (G := G) (D := D) (O := O) ?_))
  k_with "mono" => (first | assumption | (refine ProgAt.mono ?_ (by assumption); show Sub _ _; k_extra "subz") | (refine IntsAt.mono ?_ (by assumption); show Sub _ _; k_extra "subz") | (refine WidAt.mono ?_ (by assumption); show Sub _ _; k_extra "subz") | (refine AffAt.mono ?_ (by assumption); show Sub _ _; k_extra "subz"))
  k_with "call ref!" => ((k_here; (with_reducible show wpAny _ _ (call (Value.ref 118) _) _ _ _); k_dflt (refine use_int c (by assumption) (by assumption) hd9 hu9 (align_ct (by first | assumption | omega)) rfl rfl nofun ?_; intro t8 h8 tk8 F8 N8)))
  k_with "call ref!" => ((k_here; (with_reducible show wpAny _ _ (call (Value.ref 250) _) _ _ _); k_dflt (refine use_pln c (by assumption) (by assumption) hd9 hu9 (plain_ct (rows := rows) (wd := wd) (i := i) (k := k) (by k_extra "mono") (by k_extra "mono")) rfl rfl (fun hz e t vs h' tk' g' F R U => hx (hxa hz) e t vs _ h' tk' g' _ (by k_extra "subz") F R U) ?_; intro c6 kk6 pp6 tl6 h6 tk6 hpl F6 N6 hl6 hA6)))
  k_with "call ref!" => ((k_here; (with_reducible show wpAny _ _ (call (Value.ref 264) _) _ _ _); k_dflt (refine use_optI c (by assumption) (by assumption) hd9 hu9 (org_all_ct (rows := rows) (by k_extra "mono") hlen (by assumption) hpl hA6 (by k_extra "mono")) rfl rfl (fun hz e t vs h' tk' g' F R U => hx (hxb hz) e t vs _ h' tk' g' _ (by k_extra "subz") F R U) ?_; intro g7 t7 h7 tk7 hg7 F7 N7)))
  k_with "subscriptTail Name Name ref int!" => ((k_here; k_dflt (refine kda_item (knd := PySem.intKind _ _) (by k_asm) (by k_mem) (by assumption) (decide_eq_true rfl) (by first | assumption | rfl) ?_)))
  trivial
theorem piece_gap_ct {w : World} {news : Led} {p : PA} {rows : List Row} (hP : ProgAt w news p rows) (hlen : rows.length ≤ 10) {i : Nat} {k W : Int} {o wa : Addr} {t : Tok} (hri : rows[i]? = some (.gap k)) (ho : IntsAt news o (offs rows W (i + 1))) :
    Ct w 20 300 271 [.ref p.P, .ref p.T, .ref o, .int i t, .ref wa] news (IntP k) False := by
  have hdT := hP.hdT
  have h4 := hP.hT
  have h5 := hP.hTP
  obtain ⟨_, h6, h7⟩ := hP.hpc i _ hri
  obtain ⟨_, _, ho1, ho2, ho3⟩ := ho
  obtain ⟨tg, hg1⟩ := ho3 i _ (offs_get (Nat.lt_succ_self i))
  have hi : i < rows.length := (List.getElem?_eq_some_iff.mp hri).1
  cases h7
  refine ct_open5 (by k_is) (by k_is) (by kernel_rfl) rfl rfl rfl ?_; k_extra "ct_in"
  k_steps
  refine hr _ [] _ _ _ (by assumption) (news_sub (by assumption) (by k_extra "subz")) lt_nilL ?_
  exact ⟨_, rfl⟩
theorem piece_ali_ct {w : World} {news : Led} {p : PA} {rows : List Row} (hP : ProgAt w news p rows) (hlen : rows.length ≤ 10) {i : Nat} {k W : Int} {o wa : Addr} {t : Tok} (hk0 : 0 < k) (hri : rows[i]? = some (.ali k)) (ho : IntsAt news o (offs rows W (i + 1))) :
    Ct w 20 300 271 [.ref p.P, .ref p.T, .ref o, .int i t, .ref wa] news (IntP (posn rows W i + Int.fmod (-(posn rows W i)) k - posn rows W i)) False := by
  have hdT := hP.hdT
  have h4 := hP.hT
  have h5 := hP.hTP
  obtain ⟨_, h6, h7⟩ := hP.hpc i _ hri
  obtain ⟨_, _, ho1, ho2, ho3⟩ := ho
  obtain ⟨tg, hg1⟩ := ho3 i _ (offs_get (Nat.lt_succ_self i))
  have hi : i < rows.length := (List.getElem?_eq_some_iff.mp hri).1
  cases h7
  refine ct_open5 (by k_is) (by k_is) (by kernel_rfl) rfl rfl rfl ?_; k_extra "ct_in"
  k_steps
  refine hr _ [] _ _ _ (by assumption) (news_sub (by assumption) (by k_extra "subz")) lt_nilL ?_
  exact ⟨_, rfl⟩
theorem piece_leb_ct {w : World} {news : Led} {p : PA} {rows : List Row} (hP : ProgAt w news p rows) (hlen : rows.length ≤ 10) {i : Nat} {sg : Bool} {x y : Nat} {W W' : Int} {o wa : Addr} {t : Tok} (hri : rows[i]? = some (.leb sg x y)) (ho : IntsAt news o (offs rows W (i + 1))) (hw : WidAt w news wa (some i) W') :
    Ct w 20 300 271 [.ref p.P, .ref p.T, .ref o, .int i t, .ref wa] news (IntP W') False := by
  have hdT := hP.hdT
  have h4 := hP.hT
  have h5 := hP.hTP
  obtain ⟨_, h6, h7⟩ := hP.hpc i _ hri
  obtain ⟨_, _, ho1, ho2, ho3⟩ := ho
  obtain ⟨tg, hg1⟩ := ho3 i _ (offs_get (Nat.lt_succ_self i))
  have hi : i < rows.length := (List.getElem?_eq_some_iff.mp hri).1
  obtain ⟨_, tw, hw1, hw2, hw3⟩ := hw
  have hval : valueAt (widKvs (some i) (.int W' tw)) (i : Int) = some (.int W' tw) := by simp [widKvs, valueAt]
  cases h7
  refine ct_open5 (by k_is) (by k_is) (by kernel_rfl) rfl rfl rfl ?_; k_extra "ct_in"
  k_steps
  refine hr _ [] _ _ _ (by assumption) (news_sub (by assumption) (by k_extra "subz")) lt_nilL ?_
  exact ⟨_, rfl⟩
theorem plain_none {wd : Word} {k : Int} {i : Nat} {p1 here : Int} (h : wd.plain i k = none) : goalOf wd k i p1 here = none := by
  cases wd <;> simp_all [Word.plain, goalOf]
theorem piece_org_ct {w : World} {news : Led} {p : PA} {rows : List Row} (hP : ProgAt w news p rows) (hlen : rows.length ≤ 10) {i : Nat} {wd : Word} {k W : Int} {o wa : Addr} {t : Tok} (hri : rows[i]? = some (.org wd k)) (ho : IntsAt news o (offs rows W (i + 1))) :
    Ct w 20 300 271 [.ref p.P, .ref p.T, .ref o, .int i t, .ref wa] news (OptD (goalOf wd k i (posn rows W 1) (posn rows W i)) (posn rows W i)) (goalOf wd k i (posn rows W 1) (posn rows W i) = none) := by
  have hdT := hP.hdT
  have h4 := hP.hT
  have h5 := hP.hTP
  obtain ⟨_, h6, h7⟩ := hP.hpc i _ hri
  have ho' := ho
  obtain ⟨_, _, ho1, ho2, ho3⟩ := ho'
  obtain ⟨tg, hg1⟩ := ho3 i _ (offs_get (Nat.lt_succ_self i))
  have hi : i < rows.length := (List.getElem?_eq_some_iff.mp hri).1
  have hxa : wd.plain i k = none → goalOf wd k i (posn rows W 1) (posn rows W i) = none := plain_none
  have hxb : goalOf wd k i (posn rows W 1) (posn rows W i) = none → goalOf wd k i (posn rows W 1) (posn rows W i) = none := id
  cases h7
  refine ct_open5 (by k_is) (by k_is) (by kernel_rfl) rfl rfl rfl ?_; k_extra "ct_in"
  k_steps
  refine hr _ [] _ _ _ (by assumption) (news_sub (by assumption) (by k_extra "subz")) lt_nilL ?_
  exact ⟨_, _, hg7, rfl⟩
noncomputable def Row.Ok : Row → Prop
  | .gap k => 0 ≤ k ∧ k ≤ 300
  | .ali k => 0 < k ∧ k ≤ 16
  | .leb _ x y => x ≤ 10 ∧ y ≤ 10
  | .org _ k => -3 ≤ k ∧ k ≤ 500
theorem piece_ct {w : World} {news : Led} {p : PA} {rows : List Row} (hP : ProgAt w news p rows) (hlen : rows.length ≤ 10) (hok : ∀ r ∈ rows, r.Ok) {lb : Option Nat} (hlb : LebIs rows lb) {i : Nat} {r : Row} {W : Int} {o wa : Addr} {t : Tok} (hri : rows[i]? = some r) (ho : IntsAt news o (offs rows W (i + 1))) (hw : WidAt w news wa lb W) :
    Ct w 20 300 271 [.ref p.P, .ref p.T, .ref o, .int i t, .ref wa] news (OptD (rawN r i (first rows W) (posn rows W i) W) (posn rows W i)) (rawN r i (first rows W) (posn rows W i) W = none) := by
  rw [← posn_one]
  have ok := hok r (List.mem_of_getElem? hri)
  cases r with
  | gap k => exact ct_mono (piece_gap_ct hP hlen hri ho) (Nat.le_refl _) (Nat.le_refl _) (fun tl v h => h.elim fun t h => ⟨_, t, rfl, by rw [h, show posn rows W i + k - posn rows W i = k by omega]⟩) (fun h => h.elim)
  | ali k => exact ct_mono (piece_ali_ct hP hlen ok.1 hri ho) (Nat.le_refl _) (Nat.le_refl _) (fun tl v h => h.elim fun t h => ⟨_, t, rfl, h⟩) (fun h => h.elim)
  | leb sg x y =>
    have e : lb = some i := (hlb i).mp ⟨sg, x, y, hri⟩
    subst e
    exact ct_mono (piece_leb_ct hP hlen hri ho hw) (Nat.le_refl _) (Nat.le_refl _) (fun tl v h => h.elim fun t h => ⟨_, t, rfl, by rw [h, show posn rows W i + W - posn rows W i = W by omega]⟩) (fun h => h.elim)
  | org wd k => exact piece_org_ct hP hlen hri ho
-- S3
theorem words15 : True := by
  k_with "call ref!" => ((k_here; (with_reducible show wpAny _ _ (call (Value.ref 271) _) _ _ _); k_dflt (refine use_optD c (by assumption) (by assumption) hd9 hu9 (hpc _ _ _ _ _ (by assumption) (by k_extra "subz") ⟨_, _, by k_mem, hsz2, hit2⟩) rfl rfl (fun hz e t vs h' tk' g' F R U => hx (hxa hz) e t vs _ h' tk' g' _ (by k_extra "subz") F R U) ?_; intro g7 t7 h7 tk7 hg7 F7 N7)))
  k_with "call builtin:list.append!" => ((k_here; k_dflt (refine append_K (by k_asm) (by k_asm) (Upd.tail hIl (.head hoff)) ?_ (by assumption); intro h4 F4 N4)))
  k_with "laid_st" => ((intro hstzq; first | omega | (exfalso; have := hstzq.symm.trans (by assumption : _ = false); cases this)))
  trivial
theorem fr_eta6 {h₀ h : Heap} {L : Addr} {m : Str → Option Value} (F : Fr h₀ L h m) {x x2 x3 x4 x5 x6 : Str} {v v2 v3 v4 v5 v6 : Value} (e : m x = some v) (e2 : m x2 = some v2) (e3 : m x3 = some v3) (e4 : m x4 = some v4) (e5 : m x5 = some v5) (e6 : m x6 = some v6) : Fr h₀ L h (setF x v (setF x2 v2 (setF x3 v3 (setF x4 v4 (setF x5 v5 (setF x6 v6 m)))))) := by
  have := fr_eta5 F e e2 e3 e4 e5
  rw [← map_eta e6] at this; exact this
noncomputable def Fine (rows : List Row) (W : Int) (st : Bool) (n : Nat) : Prop := ∀ i r, i < n → rows[i]? = some r → ∃ g, rawN r i (first rows W) (posn rows W i) W = some g ∧ (st = true → posn rows W i ≤ g)
theorem posn_step {rows : List Row} {W g : Int} {j : Nat} {r : Row} (hri : rows[j]? = some r) (hg : rawN r j (first rows W) (posn rows W j) W = some g) : posn rows W (j + 1) = max (posn rows W j) g := by
  show (match rows[j]? with | none => _ | some r => stepN (posn rows W j) (rawN r j (first rows W) (posn rows W j) W)) = _
  rw [hri]
  show stepN _ (rawN _ _ _ _ _) = _
  rw [hg]
  rfl
theorem fine_step {rows : List Row} {W g : Int} {st : Bool} {j : Nat} {r : Row} (h : Fine rows W st j) (hri : rows[j]? = some r) (hg : rawN r j (first rows W) (posn rows W j) W = some g) (hs : st = true → posn rows W j ≤ g) : Fine rows W st (j + 1) := by
  intro i r' hi hr'
  rcases Nat.lt_or_ge i j with h' | h'
  · exact h i r' h' hr'
  · obtain rfl : i = j := by omega
    rw [hri] at hr'
    obtain rfl := Option.some.inj hr'
    exact ⟨g, hg, hs⟩
theorem range_small {n : Nat} (h : n ≤ 10) : Builtin.Range.small 0 (n : Int) 1 = true := by
  have key : ∀ a : Fin 11, Builtin.Range.small 0 ((a.1 : Nat) : Int) 1 = true := by decide
  exact key ⟨n, by omega⟩
theorem range_size {n : Nat} (h : n ≤ 10) : Builtin.Range.rangeSize 0 (n : Int) 1 = (n : Int) := by
  have key : ∀ a : Fin 11, Builtin.Range.rangeSize 0 ((a.1 : Nat) : Int) 1 = ((a.1 : Nat) : Int) := by decide
  exact key ⟨n, by omega⟩
theorem here_ok {v v' : Int} {t : Tok} (h : v = v') : some (Value.int v t) = some (Value.int v' t) := by rw [h]
inductive LaidJ (w : World) (p : PA) (sT wa : Addr) (st : Bool) (news : Led) (rows : List Row) (W : Int) (j : Nat) (m : SMap) (n : Led) : Prop
  | mk (lo : Addr) (its : Array Value) (k : Nat) (th : Tok) (tl : Led) (e1 : m (Str.ofString "program") = some (.ref p.P)) (e2 : m (Str.ofString "section") = some (.ref sT)) (e3 : m (Str.ofString "offsets") = some (.ref lo)) (e4 : m (Str.ofString "here") = some (.int (posn rows W j) th)) (e5 : m (Str.ofString "widths") = some (.ref wa)) (e6 : m (Str.ofString "is_strict") = some (.bool st)) (en : n = (lo, PySem.W.listOf its k) :: (tl ++ news)) (hsz : its.size = j) (hit : ∀ (i : Nat) v, (offs rows W j)[i]? = some v → ∃ t, its[i]? = some (Value.int v t)) (hoff : ∀ p ∈ tl ++ news, p.1 ≠ lo) (hlt : Lt news ((lo, PySem.W.listOf its k) :: tl)) (hfine : Fine rows W st j)
noncomputable def LaidP (x : Prop) (len : Int) (os : List Int) : Led → Value → Prop := fun tl r => x ∧ ∃ c o t k, r = .ref c ∧ (c, tupObj #[.ref o, .int len t] k) ∈ tl ∧ IntsAt tl o os
theorem use_lai {w : World} {nd nu : Nat} {f : Addr} {args : List Value} {news : Led} {exc : Prop} {A A₀ : Around} {env : Env} {outer : List Env} {base g : Heap} {L : Addr} {mg mb : SMap} {mean : ExcName → Option Value} {m : SMap} {h : Heap} {G : Array GenState} {D : Drawn} {tk : Nat} {O : OsState} {Q E : Value → Shared → Prop} {nd' nu' : Nat} {x : Prop} {len : Int} {os : List Int} (c : Amb w A A₀ env outer base g L mg mb mean) (F : Fr g L h m) (N : News g L h news) (hd9 : A.depth + nd' < recursionLimit) (hu9 : A.units + nu' < cLine) (C : Ct w nd nu f args news (LaidP x len os) exc) (h1 : Nat.ble nd nd' = true) (h2 : Nat.ble nu nu' = true)
    (hx : exc → ∀ e t vs h' tk' g', Fr g L g' m → RaisedS base g' (env :: outer) e (.ref 83) t vs news h' → g'.UpToSlots h' → E (.ref e) ⟨h', G, D, tk', O⟩)
    (ret : ∀ c o t k tl h' tk', x → (c, tupObj #[.ref o, .int len t] k) ∈ tl → IntsAt tl o os → Fr g L h' m → News g L h' (tl ++ news) → Lt news tl → Q (.ref c) ⟨h', G, D, tk', O⟩) : wpAny (model PG w) A (call (.ref f) args) Q E ⟨h, G, D, tk, O⟩ :=
  ct_use c F N hd9 hu9 C h1 h2 hx fun _ tl h' tk' F N l ⟨hz, _, _, _, _, e, a, b⟩ => e ▸ ret _ _ _ _ tl h' tk' hz a b F N l
theorem its_push {rows : List Row} {W : Int} {its : Array Value} {j : Nat} {th : Tok} (hsz : its.size = j) (hit : ∀ (i : Nat) v, (offs rows W j)[i]? = some v → ∃ t, its[i]? = some (Value.int v t)) (i : Nat) (v : Int) (hv : (offs rows W (j + 1))[i]? = some v) : ∃ t, (its.push (Value.int (posn rows W j) th))[i]? = some (Value.int v t) := by
  have e := offs_posn hv
  have hi : i < j + 1 := by have := (List.getElem?_eq_some_iff.mp hv).1; simpa [offs] using this
  rcases Nat.lt_or_ge i j with h | h
  · obtain ⟨t, ht⟩ := hit i v (by rw [offs_get h, e])
    exact ⟨t, by rw [Array.getElem?_push_lt (by omega)]; rw [Array.getElem?_eq_getElem (by omega)] at ht; exact ht⟩
  · have : i = its.size := by omega
    subst this
    exact ⟨th, by rw [Array.getElem?_push_size, e, hsz]⟩
theorem laid_bad {rows : List Row} {W g : Int} {st : Bool} {j : Nat} {r : Row} (hj : j < rows.length) (hri : rows[j]? = some r) (hg7 : rawN r j (first rows W) (posn rows W j) W = some g) (hlo : g - posn rows W j < 0) (hst : st = true) : ¬ Fine rows W st rows.length := fun hf => by
  obtain ⟨g', hg, hb⟩ := hf j r hj hri
  rw [hg7] at hg
  obtain rfl := Option.some.inj hg
  have := hb hst
  omega
theorem laid_next {rows : List Row} {W g : Int} {j : Nat} {r : Row} (hri : rows[j]? = some r) (hg7 : rawN r j (first rows W) (posn rows W j) W = some g) : posn rows W j + (if g - posn rows W j > 0 then g - posn rows W j else 0) = posn rows W (j + 1) := by
  rw [posn_step hri hg7, Int.max_def]; split <;> split <;> omega
theorem laid_gen {w : World} {news : Led} {p : PA} {rows0 rows : List Row} (hP : ProgAt w news p rows0) (hlen : rows.length ≤ 10) {W : Int} {wa sT sd sP tn : Addr} {t : Tok} {st : Bool} {nmS : Str} {its0 : Array Value} {k1 k2 k3 kn : Nat} {lbs : Value}
    (h3v : valueAt [(Str.ofString ".text", Value.ref p.T), (Str.ofString ".data", Value.ref p.D)] nmS = some (.ref sT))
    (h4 : (sT, instObj 548 sd) ∈ news) (hdT : (sd, dictOf [ent w "name" k1 (.str nmS tn), ent w "pieces" k2 (.ref sP), ent w "labels" k3 lbs] 3) ∈ news) (h5 : (sP, PySem.W.listOf its0 kn) ∈ news) (htn : its0.size = rows.length)
    (hpc : ∀ (i : Nat) (r : Row) (o : Addr) (t : Tok) (news' : Led), rows[i]? = some r → Sub news news' → IntsAt news' o (offs rows W (i + 1)) →
      Ct w 20 300 271 [.ref p.P, .ref sT, .ref o, .int i t, .ref wa] news' (OptD (rawN r i (first rows W) (posn rows W i) W) (posn rows W i)) (rawN r i (first rows W) (posn rows W i) W = none)) :
    Ct w 30 400 278 [.ref p.P, .str nmS t, .ref wa, .bool st] news (LaidP (Fine rows W st rows.length) (posn rows W rows.length) (offs rows W rows.length)) (¬ Fine rows W st rows.length) := by
  have hdP := hP.hdP
  have h1 := hP.hP
  have h2 := hP.hsec
  have h3 := hP.hS
  have hxa : ∀ i r, rows[i]? = some r → rawN r i (first rows W) (posn rows W i) W = none → ¬ Fine rows W st rows.length := fun i r hri hz hf => by
    obtain ⟨g, hg, _⟩ := hf i r (List.getElem?_eq_some_iff.mp hri).1 hri
    rw [hz] at hg; cases hg
  refine ct_open4 (by k_is) (by k_is) (by kernel_rfl) rfl rfl rfl ?_; k_extra "ct_in"
  k_steps
  refine lp_range (n := rows.length) (G := G) (D := D) (O := O) (news := (_, PySem.W.listOf #[] 0) :: news) (LaidJ w p sT wa st news rows W) rfl rfl (by assumption) (range_small hlen) (range_size hlen) (by assumption) (news_sub (by assumption) (by k_extra "subz")) (.mk _ _ _ _ [] rfl rfl rfl rfl rfl rfl rfl rfl (fun i v hv => by simp [offs] at hv) (by k_all) (lt_consS (by assumption) (by k_extra "subz") lt_nilL) (fun i r hi => absurd hi (Nat.not_lt_zero _))) ?_ ?_
  · rintro I oI j t m₁ n₁ h₁ tk₁ q7 hj ⟨lo, its, k, th, tl, e1, e2, e3, e4, e5, e6, rfl, hsz, hit, hoff, hlt, hfine⟩ F₁ N₁ off hr7 hn7
    replace F₁ := fr_eta6 F₁ e1 e2 e3 e4 e5 e6
    clear e1 e2 e3 e4 e5 e6
    obtain ⟨r, hri⟩ : ∃ r, rows[j]? = some r := ⟨_, List.getElem?_eq_getElem hj⟩
    have hxa := hxa j r hri
    have hIl : I ≠ lo := fun e => off _ (.head _) e.symm
    have hsz2 : (its.push (Value.int (posn rows W j) th)).size = (offs rows W (j + 1)).length := by simp [offs, hsz]
    have hit2 := its_push (th := th) hsz hit
    have hsl : its.size ≤ sizeLine := by rw [hsz]; exact Nat.le_trans (Nat.le_trans (Nat.le_of_lt hj) hlen) (by decide)
    k_steps
    · have hcond := laid_bad hj hri hg7 (by assumption) (by assumption)
      exact RaisE.mk ((c.X.keeps F7.keep) _ _ (by k_dflt k_is)) rfl (N7 _ (List.mem_append_left _ hE1)).1 (hy hcond _ _ _ _ _ _ _ _ _ _ (by k_extra "subz") F7 N7 hE1 hE2 hl7)
    all_goals exact hn7 _ _ _ ((lo, PySem.W.listOf (its.push (Value.int (posn rows W j) th)) (k + 1)) :: (tl ++ news)) (by assumption) (news_sub (by assumption) (by k_extra "subz")) (List.forall_mem_cons.mpr ⟨hIl.symm, fun p hp => off p (.tail _ hp)⟩) (.mk lo _ _ _ tl rfl rfl rfl (here_ok (laid_next hri hg7)) rfl rfl rfl (by rw [Array.size_push, hsz]) hit2 hoff (fun q hq => List.forall_mem_cons.mpr ⟨hlt q hq (lo, PySem.W.listOf its k) (.head _), fun p hp => hlt q hq p (.tail _ hp)⟩) (fine_step hfine hri hg7 (by k_extra "laid_st")))
  · rintro m₁ n₁ h₁ tk₁ ⟨lo, its, k, th, tl, e1, e2, e3, e4, e5, e6, rfl, hsz, hit, hoff, hlt, hfine⟩ F₁ N₁
    replace F₁ := fr_eta6 F₁ e1 e2 e3 e4 e5 e6
    clear e1 e2 e3 e4 e5 e6
    k_steps
    exact hr _ ((_, _) :: (lo, PySem.W.listOf its k) :: tl) _ _ _ (by assumption) (by assumption) (lt_consS (by assumption) (by k_extra "subz") hlt) ⟨hfine, _, lo, _, _, rfl, .head _, its, k, .tail _ (.head _), by simp [offs, hsz], hit⟩
theorem laid_ct {w : World} {news : Led} {p : PA} {rows : List Row} (hP : ProgAt w news p rows) (hlen : rows.length ≤ 10) (hok : ∀ r ∈ rows, r.Ok) {lb : Option Nat} (hlb : LebIs rows lb) {W : Int} {wa : Addr} {t : Tok} {st : Bool} (hw : WidAt w news wa lb W) :
    Ct w 30 400 278 [.ref p.P, .str (Str.ofString ".text") t, .ref wa, .bool st] news (LaidP (Fine rows W st rows.length) (posn rows W rows.length) (offs rows W rows.length)) (¬ Fine rows W st rows.length) :=
  laid_gen hP hlen rfl hP.hT hP.hdT hP.hTP hP.htn fun i r o t news' hri hs ho => piece_ct (hP.mono hs) hlen hok hlb hri ho (hw.mono hs)
theorem piece_dat_ct {w : World} {news : Led} {p : PA} {rows : List Row} (hP : ProgAt w news p rows) {i : Nat} {o wa : Addr} {t : Tok} {r : Row} {W : Int} (hri : [Row.gap 2][i]? = some r) (ho : IntsAt news o (offs [.gap 2] W (i + 1))) :
    Ct w 20 300 271 [.ref p.P, .ref p.D, .ref o, .int i t, .ref wa] news (OptD (rawN r i (first [.gap 2] W) (posn [.gap 2] W i) W) (posn [.gap 2] W i)) (rawN r i (first [.gap 2] W) (posn [.gap 2] W i) W = none) := by
  have hi : i = 0 := by
    have := (List.getElem?_eq_some_iff.mp hri).1
    simpa using this
  subst hi
  obtain rfl : Row.gap 2 = r := Option.some.inj hri
  have hdT := hP.hdD
  have h4 := hP.hD
  have h5 := hP.hDP
  have h7 := hP.hdp
  obtain ⟨_, _, ho1, ho2, ho3⟩ := ho
  obtain ⟨tg, hg1⟩ := ho3 0 _ (offs_get (Nat.lt_succ_self 0))
  cases h7
  refine ct_open5 (by k_is) (by k_is) (by kernel_rfl) rfl rfl rfl ?_; k_extra "ct_in"
  k_steps
  refine hr _ [] _ _ _ (by assumption) (news_sub (by assumption) (by k_extra "subz")) lt_nilL ?_
  exact ⟨2, _, rfl, rfl⟩
theorem laid_dat_ct {w : World} {news : Led} {p : PA} {rows : List Row} (hP : ProgAt w news p rows) {W : Int} {wa : Addr} {t : Tok} {st : Bool} :
    Ct w 30 400 278 [.ref p.P, .str (Str.ofString ".data") t, .ref wa, .bool st] news (LaidP True 2 [0]) False := by
  refine ct_mono (laid_gen hP (rows := [.gap 2]) (W := W) (by decide) rfl hP.hD hP.hdD hP.hDP rfl fun i r o t news' hri hs ho => piece_dat_ct (hP.mono hs) hri ho) (Nat.le_refl _) (Nat.le_refl _) (fun tl v h => ⟨trivial, h.2⟩) (fun h => h ?_)
  intro i r hi hri
  obtain rfl : i = 0 := by simpa using hi
  obtain rfl : Row.gap 2 = r := Option.some.inj hri
  exact ⟨2, rfl, fun _ => (by decide : (0 : Int) ≤ 2)⟩
-- S4
noncomputable def widJ (lb : Option Nat) (j : Nat) (v : Value) : List (Int × Value) :=
  match lb with
  | none => []
  | some i => if i < j then [((i : Int), v)] else []
theorem widJ_full {rows : List Row} {lb : Option Nat} (hlb : LebIs rows lb) {v : Value} : widJ lb rows.length v = widKvs lb v := by
  cases lb with
  | none => rfl
  | some i =>
    obtain ⟨sg, x, y, h⟩ := (hlb i).mpr rfl
    have := (List.getElem?_eq_some_iff.mp h).1
    simp [widJ, widKvs, this]
theorem widJ_other {rows : List Row} {lb : Option Nat} (hlb : LebIs rows lb) {v : Value} {j : Nat} {r : Row} (hri : rows[j]? = some r) (hne : ∀ sg x y, r ≠ .leb sg x y) : widJ lb (j + 1) v = widJ lb j v := by
  cases lb with
  | none => rfl
  | some i =>
    have : i ≠ j := by
      rintro rfl
      obtain ⟨sg, x, y, h⟩ := (hlb i).mpr rfl
      rw [hri] at h
      exact hne _ _ _ (Option.some.inj h)
    have e : i < j + 1 ↔ i < j := ⟨fun h => Nat.lt_of_le_of_ne (Nat.le_of_lt_succ h) this, Nat.lt_succ_of_lt⟩
    simp [widJ, e]
theorem widJ_leb {rows : List Row} {lb : Option Nat} (hlb : LebIs rows lb) {v v' : Value} {j : Nat} {sg : Bool} {x y : Nat} (hri : rows[j]? = some (.leb sg x y)) : stored (widJ lb j v') (j : Int) v = widJ lb (j + 1) v := by
  have := (hlb j).mp ⟨sg, x, y, hri⟩
  subst this
  simp [widJ, stored, valueAt]
theorem chgO {P : Addr → Prop} {a : Addr} {o o' : Obj} {l : Led} (h : ∀ p ∈ (a, o) :: l, P p.1) : ∀ p ∈ (a, o') :: l, P p.1 := fun p hp => by
  rcases List.mem_cons.mp hp with rfl | hp
  · exact h (a, o) (.head _)
  · exact h p (.tail _ hp)
theorem words16 : True := by
  k_with "setItem ref int!" => ((k_here; k_dflt (refine kda_set (knd := PySem.intKind _ _) (by k_asm) (by k_asm) (.tail hI2 (.tail hI1 (.head hoff))) (by k_asm) (decide_eq_true rfl) (by assumption) ?_); intro h4 o4 F4 N4 hd4; (try dsimp only at N4)))
  trivial
inductive FwJ (w : World) (sT : Addr) (news : Led) (lb : Option Nat) (j : Nat) (m : SMap) (n : Led) : Prop
  | mk (fo : Addr) (o : Obj) (t : Tok) (tl : Led) (e1 : m (Str.ofString "section") = some (.ref sT)) (e2 : m (Str.ofString "found") = some (.ref fo)) (en : n = (fo, o) :: (tl ++ news)) (hlo : (fo == sysModules) = false) (hd : Obj.IsDictOf (PySem.intKind PG w) o (widJ lb j (.int 1 t))) (hoff : ∀ p ∈ tl ++ news, p.1 ≠ fo) (hlt : Lt news ((fo, o) :: tl))
theorem widJ_len {lb : Option Nat} {j : Nat} {v : Value} : (widJ lb j v).length ≤ sizeLine := by
  have : (widJ lb j v).length ≤ 1 := by unfold widJ; split <;> (try split) <;> simp
  exact Nat.le_trans this (by decide)
theorem fw_gen {w : World} {news : Led} {rows : List Row} {lb : Option Nat} (hlb : LebIs rows lb) {sT sd sP : Addr} {its0 : Array Value} {k1 k2 k3 kn : Nat} {nmv lbs : Value}
    (h4 : (sT, instObj 548 sd) ∈ news) (hdT : (sd, dictOf [ent w "name" k1 nmv, ent w "pieces" k2 (.ref sP), ent w "labels" k3 lbs] 3) ∈ news) (h5 : (sP, PySem.W.listOf its0 kn) ∈ news) (htn : its0.size = rows.length)
    (hpc : ∀ (i : Nat) r, rows[i]? = some r → ∃ a, its0[i]? = some (.ref a) ∧ PieceAt w news i a r) :
    Ct w 30 400 285 [.ref sT] news (RefP (fun tl a => WidAt w tl a lb 1)) False := by
  have h5' : (sP, PySem.W.listOf its0.toList.toArray kn) ∈ news := by rw [Array.toArray_toList]; exact h5
  refine ct_open1 (by k_is) (by k_is) (by kernel_rfl) rfl rfl rfl ?_; k_extra "ct_in"
  k_steps
  refine lp_enum (G := G) (D := D) (O := O) (FwJ w sT news lb) rfl rfl (by assumption) (by assumption) (List.mem_cons_of_mem _ h5') (.mk _ _ 0 [] rfl rfl rfl (by assumption) (by cases lb <;> exact (by assumption)) (by k_all) (lt_consS (by assumption) (by k_extra "subz") lt_nilL)) ?_ ?_
  · rintro I oI oJ j v sT tT m₁ n₁ h₁ tk₁ q7 hv hTup hTP ⟨fo, o, t, tl, e1, e2, rfl, hlo, hd, hoff, hlt⟩ F₁ N₁ off hr7 hn7
    replace F₁ := fr_eta2 F₁ e1 e2
    clear e1 e2
    have hj : j < rows.length := by have := (List.getElem?_eq_some_iff.mp hv).1; rw [Array.length_toList, htn] at this; exact this
    obtain ⟨r, hri⟩ : ∃ r, rows[j]? = some r := ⟨_, List.getElem?_eq_getElem hj⟩
    obtain ⟨pa, hpa, hpp⟩ := hpc j r hri
    obtain rfl : v = .ref pa := by rw [Array.getElem?_toList, hpa] at hv; exact (Option.some.inj hv).symm
    have hI1 : I ≠ fo := fun e => (off _ (.head _)).1 e.symm
    have hI2 : I + 1 ≠ fo := fun e => (off _ (.head _)).2 e.symm
    have hz : (widJ lb j (.int 1 t)).length ≤ sizeLine := widJ_len
    cases hpp
    case leb =>
      k_steps
      rw [widJ_leb hlb hri] at hd4
      exact hn7 _ _ _ ((fo, o4) :: (tl ++ news)) (by assumption) (news_sub (by assumption) (by k_extra "subz")) (chgO (P := fun x => x ≠ I ∧ x ≠ I + 1) off) (.tail _ (List.mem_append_right _ h5')) (.mk fo o4 _ tl rfl rfl rfl hlo hd4 hoff fun q hq => chgO (P := fun x => q.1 < x) (hlt q hq))
    all_goals
      k_steps
      exact hn7 _ _ _ ((fo, o) :: (tl ++ news)) (by assumption) (news_sub (by assumption) (by k_extra "subz")) off hTP (.mk fo o t tl rfl rfl rfl hlo (by rw [widJ_other hlb hri (by intro _ _ _ h; cases h)]; exact hd) hoff hlt)
  · rintro m₁ n₁ h₁ tk₁ ⟨fo, o, t, tl, e1, e2, rfl, hlo, hd, hoff, hlt⟩ hTP F₁ N₁
    replace F₁ := fr_eta2 F₁ e1 e2
    clear e1 e2
    k_steps
    refine hr _ ((fo, o) :: tl) _ _ _ (by assumption) (by assumption) hlt ⟨fo, rfl, o, t, .head _, hlo, ?_⟩
    have e := widJ_full hlb (v := .int 1 t)
    rw [← e, ← htn, ← Array.length_toList]
    exact hd
theorem fw_ct {w : World} {news : Led} {p : PA} {rows : List Row} (hP : ProgAt w news p rows) {lb : Option Nat} (hlb : LebIs rows lb) :
    Ct w 30 400 285 [.ref p.T] news (RefP (fun tl a => WidAt w tl a lb 1)) False :=
  fw_gen hlb hP.hT hP.hdT hP.hTP hP.htn hP.hpc
theorem leb_dat : LebIs [.gap 2] none := by
  intro i
  constructor
  · rintro ⟨sg, x, y, h⟩
    have : i = 0 := by have := (List.getElem?_eq_some_iff.mp h).1; simpa using this
    subst this
    cases h
  · intro h; cases h
theorem fw_dat_ct {w : World} {news : Led} {p : PA} {rows : List Row} (hP : ProgAt w news p rows) :
    Ct w 30 400 285 [.ref p.D] news (RefP (fun tl a => WidAt w tl a none 1)) False := by
  refine fw_gen leb_dat hP.hD hP.hdD hP.hDP rfl fun i r hri => ?_
  have : i = 0 := by have := (List.getElem?_eq_some_iff.mp hri).1; simpa using this
  subst this
  obtain rfl : Row.gap 2 = r := Option.some.inj hri
  exact ⟨_, rfl, hP.hdp⟩
-- R5
theorem words17 : True := by
  k_with "execs cons If nil" => (k_here; ((with_reducible refine wp_last (G := G) (D := D) (O := O) (by assumption) ?_); intro tk8; (try dsimp only)))
  k_with "execs cons If cons" => (k_here; ((with_reducible refine wp_cons (G := G) (D := D) (O := O) (by assumption) ?_); intro q8 tk8 hq8 hr8; (try dsimp only)))
  k_with "execs cons For nil" => (k_here; ((with_reducible refine wp_last (G := G) (D := D) (O := O) (by assumption) ?_); intro tk8; (try dsimp only)))
  k_with "execs cons For cons" => (k_here; ((with_reducible refine wp_cons (G := G) (D := D) (O := O) (by assumption) ?_); intro q8 tk8 hq8 hr8; (try dsimp only)))
  k_with "execs cons While nil" => (k_here; ((with_reducible refine wp_last (G := G) (D := D) (O := O) (by assumption) ?_); intro tk8; (try dsimp only)))
  k_with "execs cons While cons" => (k_here; ((with_reducible refine wp_cons (G := G) (D := D) (O := O) (by assumption) ?_); intro q8 tk8 hq8 hr8; (try dsimp only)))
  k_with "execs cons Try nil" => (k_here; ((with_reducible refine wp_last (G := G) (D := D) (O := O) (by assumption) ?_); intro tk8; (try dsimp only)))
  k_with "execs cons Try cons" => (k_here; ((with_reducible refine wp_cons (G := G) (D := D) (O := O) (by assumption) ?_); intro q8 tk8 hq8 hr8; (try dsimp only)))
  trivial
theorem lab_ne_nil {x : Nat} : ¬ lab x = Str.ofString "" := lab_ne (by decide)
theorem eq_none_lab {x : Nat} {a b c d : Value} : valueAt [(Str.ofString "EQU", a), (Str.ofString "EQU2", b), (Str.ofString "PLAIN", c), (Str.ofString "RING", d)] (lab x) = none := by
  have h1 : ¬ Str.ofString "EQU" = lab x := fun e => lab_ne (n := x) (x := Str.ofString "EQU") (by decide +kernel) e.symm
  have h2 : ¬ Str.ofString "EQU2" = lab x := fun e => lab_ne (n := x) (x := Str.ofString "EQU2") (by decide +kernel) e.symm
  have h3 : ¬ Str.ofString "PLAIN" = lab x := fun e => lab_ne (n := x) (x := Str.ofString "PLAIN") (by decide +kernel) e.symm
  have h4 : ¬ Str.ofString "RING" = lab x := fun e => lab_ne (n := x) (x := Str.ofString "RING") (by decide +kernel) e.symm
  simp [valueAt, h1, h2, h3, h4]
theorem eq_none_nil {a b c d : Value} : valueAt [(Str.ofString "EQU", a), (Str.ofString "EQU2", b), (Str.ofString "PLAIN", c), (Str.ofString "RING", d)] (Str.ofString "") = none := rfl
noncomputable def SameP (f : Addr) : Led → Value → Prop := fun _ r => r = .ref f
theorem use_same {w : World} {nd nu : Nat} {f : Addr} {args : List Value} {news : Led} {exc : Prop} {A A₀ : Around} {env : Env} {outer : List Env} {base g : Heap} {L : Addr} {mg mb : SMap} {mean : ExcName → Option Value} {m : SMap} {h : Heap} {G : Array GenState} {D : Drawn} {tk : Nat} {O : OsState} {Q E : Value → Shared → Prop} {nd' nu' : Nat} {x : Addr} (c : Amb w A A₀ env outer base g L mg mb mean) (F : Fr g L h m) (N : News g L h news) (hd9 : A.depth + nd' < recursionLimit) (hu9 : A.units + nu' < cLine) (C : Ct w nd nu f args news (SameP x) exc) (h1 : Nat.ble nd nd' = true) (h2 : Nat.ble nu nu' = true)
    (hx : exc → ∀ e t vs h' tk' g', Fr g L g' m → RaisedS base g' (env :: outer) e (.ref 83) t vs news h' → g'.UpToSlots h' → E (.ref e) ⟨h', G, D, tk', O⟩)
    (ret : ∀ h' tk', Fr g L h' m → News g L h' news → Q (.ref x) ⟨h', G, D, tk', O⟩) : wpAny (model PG w) A (call (.ref f) args) Q E ⟨h, G, D, tk, O⟩ :=
  ct_use c F N hd9 hu9 C h1 h2 hx fun _ _ h' tk' F N _ e => (show _ = _ from e) ▸ ret h' tk' F (news_sub N fun _ x => List.mem_append_right _ x)
inductive EndJ (p : PA) (f : Addr) (news : Led) (j : Nat) (m : SMap) (n : Led) : Prop
  | mk (en : n = news) (e1 : m (Str.ofString "program") = some (.ref p.P)) (e2 : m (Str.ofString "found") = some (.ref f)) (ej : j = 0)
theorem words18 : True := by
  k_with "call builtin:len!" => ((k_here; k_dflt (refine len_d4 (by k_asm) (by k_mem) (by assumption) (by assumption) rfl ?_)))
  trivial
theorem plain_end_ct {w : World} {news : Led} {p : PA} {rows : List Row} (hP : ProgAt w news p rows) {f : Addr} {k : Int} {x y : Str} (hf : AffAt w news f k x y)
    (hv1 : valueAt [(Str.ofString "EQU", .ref p.e1), (Str.ofString "EQU2", .ref p.e2), (Str.ofString "PLAIN", .ref p.e3), (Str.ofString "RING", .ref p.e4)] x = none)
    (hv2 : valueAt [(Str.ofString "EQU", .ref p.e1), (Str.ofString "EQU2", .ref p.e2), (Str.ofString "PLAIN", .ref p.e3), (Str.ofString "RING", .ref p.e4)] y = none) :
    Ct w 12 160 250 [.ref p.P, .ref f] news (SameP f) False := by
  have hdP := hP.hdP
  have h1 := hP.hP
  have h2 := hP.heq
  have h3 := hP.hE
  have h4 := hP.leq
  obtain ⟨_, _, _, _, _, _, _, hf1, hf2⟩ := hf
  refine ct_open2 (by k_is) (by k_is) (by kernel_rfl) rfl rfl rfl ?_; k_extra "ct_in"
  k_steps
  refine lp_range (n := 10) (G := G) (D := D) (O := O) (EndJ p f news) rfl rfl (by assumption) (by decide) (by decide) (by assumption) (by assumption) (.mk rfl rfl rfl rfl) ?_ ?_
  · rintro I oI j t m₁ n₁ h₁ tk₁ q7 hj ⟨rfl, e1, e2, rfl⟩ F₁ N₁ off hr7 hn7
    replace F₁ := fr_eta2 F₁ e1 e2
    clear e1 e2
    k_steps
    all_goals
      refine hr7 _ _ ?_
      first | refine hr8 _ _ ?_ | refine nx_ret ?_
      refine hr _ [] _ _ _ (by assumption) (news_sub (by assumption) (by k_extra "subz")) lt_nilL ?_
      exact rfl
  · rintro m₁ n₁ h₁ tk₁ ⟨_, _, _, e⟩
    cases e
theorem plain_leb_ct {w : World} {news : Led} {p : PA} {rows : List Row} (hP : ProgAt w news p rows) {f : Addr} {k : Int} {x y : Nat} (hf : AffAt w news f k (lab x) (lab y)) :
    Ct w 12 160 250 [.ref p.P, .ref f] news (SameP f) False := plain_end_ct hP hf eq_none_lab eq_none_lab
theorem plain_emp_ct {w : World} {news : Led} {p : PA} {rows : List Row} (hP : ProgAt w news p rows) {f : Addr} {k : Int} (hf : AffAt w news f k (Str.ofString "") (Str.ofString "")) :
    Ct w 12 160 250 [.ref p.P, .ref f] news (SameP f) False := plain_end_ct hP hf eq_none_nil eq_none_nil
-- V1
noncomputable abbrev SI := Sum Str Int
noncomputable def siIs : SI → Value → Bool
  | .inl x, v => Value.isStrOf x v
  | .inr i, v => Value.isInt i v
theorem siIs_shape {k : SI} {v : Value} (h : siIs k v = true) : (∃ x t, k = .inl x ∧ v = .str x t) ∨ ∃ i t, k = .inr i ∧ v = .int i t := by
  cases k with
  | inl x => obtain ⟨t, rfl⟩ := Value.isStrOf_shape h; exact .inl ⟨x, t, rfl, rfl⟩
  | inr i => obtain ⟨t, rfl⟩ := Value.isInt_shape h; exact .inr ⟨i, t, rfl, rfl⟩
theorem siIs_inj (v : Value) (a b : SI) (ha : siIs a v = true) (hb : siIs b v = true) : a = b := by
  rcases siIs_shape ha with ⟨x, t, rfl, rfl⟩ | ⟨i, t, rfl, rfl⟩ <;> rcases siIs_shape hb with ⟨y, u, rfl, e⟩ | ⟨j, u, rfl, e⟩
  · injection e with e; rw [e]
  · cases e
  · cases e
  · injection e with e; rw [e]
theorem siIs_strs (k : SI) (x : Str) (t : Tok) (v : Value) (h : siIs k (.str x t) = true) : siIs k v = v.isStr x := by
  rcases siIs_shape h with ⟨y, u, rfl, e⟩ | ⟨i, u, rfl, e⟩
  · injection e with e; subst e; cases v <;> rfl
  · cases e
noncomputable def siHash (w : World) : SI → Int
  | .inl x => hashStr w x
  | .inr i => hashInt i
noncomputable def siKind (prog : Program) (w : World) : KeyKind prog w SI where
  is := siIs
  hash := siHash w
  inj := siIs_inj
  byValue := fun k v h => by rcases siIs_shape h with ⟨x, t, rfl, rfl⟩ | ⟨i, t, rfl, rfl⟩ <;> rfl
  pyHash := fun hv h => by
    rcases siIs_shape hv with ⟨x, t, rfl, rfl⟩ | ⟨i, t, rfl, rfl⟩
    · exact wpAny_pyHash_str h
    · exact wpAny_pyHash_int h
  eqBool := fun {A E s a b u v Q} hu hv h => by
    rcases siIs_shape hu with ⟨x, t, rfl, rfl⟩ | ⟨i, t, rfl, rfl⟩ <;> rcases siIs_shape hv with ⟨y, u, rfl, rfl⟩ | ⟨j, u, rfl, rfl⟩
    · exact wpAny_eqBool_str (by simpa using h)
    · exact SeqAt.EqAt.str_int x t j u _ _ _ _ (by simpa using h)
    · exact SeqAt.EqAt.int_str i t y u _ _ _ _ (by simpa using h)
    · exact wpAny_eqBool_int (by simp only [Sum.inr.injEq] at h; exact h)
  «strs» := siIs_strs
-- V2
noncomputable abbrev KY := Sum Str (List SI)
noncomputable def kyIs (w : World) (h : Heap) : KY → Value → Prop
  | .inl x, v => ∃ t, v = .str x t
  | .inr ks, v => ∃ a, v = .ref a ∧ IsTupleKey (siKind PG w) h ks a
noncomputable def kyHash (w : World) : KY → Int
  | .inl x => hashStr w x
  | .inr ks => tupleKeyHash (siKind PG w) ks
noncomputable def kyDraws : KY → Nat
  | .inl _ => 1
  | .inr ks => ks.length + 1
theorem tupKey_tup {w : World} {h : Heap} {ks : List SI} {a : Addr} (x : IsTupleKey (siKind PG w) h ks a) : ∃ items, h.IsTuple a items := by
  obtain ⟨o, items, n, ho, hc, hd, _⟩ := x
  exact ⟨items, o, ho, hc, n, hd⟩
section
variable {w : World} {A : Around} {E : Value → Shared → Prop} {s : Shared}
theorem eqBool_ky {x y : KY} {u v : Value} {Q : Bool → Shared → Prop} (hu : A.units < cLine) (hx : kyIs w s.heap x u) (hy : kyIs w s.heap y v) (h : Q (decide (x = y)) s) : wpAny (model PG w) A (eqBool u v) Q E s := by
  cases x with
  | inl x =>
    obtain ⟨t, rfl⟩ := hx
    cases y with
    | inl y => obtain ⟨t', rfl⟩ := hy; exact wpAny_eqBool_str (by simpa using h)
    | inr y =>
      obtain ⟨a, rfl, hy⟩ := hy
      obtain ⟨items, hi⟩ := tupKey_tup hy
      exact SeqAt.EqAt.str_tuple x t hi hu _ _ _ _ (by simpa using h)
  | inr x =>
    obtain ⟨a, rfl, hx⟩ := hx
    cases y with
    | inl y =>
      obtain ⟨t', rfl⟩ := hy
      obtain ⟨items, hi⟩ := tupKey_tup hx
      exact SeqAt.EqAt.tuple_str y t' hi hu _ _ _ _ (by simpa using h)
    | inr y =>
      obtain ⟨b, rfl, hy⟩ := hy
      exact wpAny_eqBool_tuple hu hx hy (by simpa [Sum.inr.injEq] using h)
theorem quiet_ky {x : KY} {u : Value} {Q : Bool → Shared → Prop} (hx : kyIs w s.heap x u) (h : Q true s) : wpAny (model PG w) A (eqIsQuiet 8 u) Q E s := by
  cases x with
  | inl x => obtain ⟨t, rfl⟩ := hx; rw [eqIsQuiet_byValue 8 rfl]; exact wpAny_pure h
  | inr x => obtain ⟨a, rfl, hx⟩ := hx; exact wpAny_eqIsQuiet_tuple hx h
theorem pyHash_ky {x : KY} {u : Value} {Q : Int → Shared → Prop} (hu : A.units < cLine) (hx : kyIs w s.heap x u) (h : Q (kyHash w x) { s with toks := s.toks + kyDraws x }) : wpAny (model PG w) A (pyHash u) Q E s := by
  cases x with
  | inl x => obtain ⟨t, rfl⟩ := hx; exact wpAny_pyHash_str h
  | inr x => obtain ⟨a, rfl, hx⟩ := hx; exact wpAny_pyHash_tuple hu hx h
theorem kyIs_inj {h : Heap} {x y : KY} {v : Value} (hx : kyIs w h x v) (hy : kyIs w h y v) : x = y := by
  cases x with
  | inl x =>
    obtain ⟨t, rfl⟩ := hx
    cases y with
    | inl y => obtain ⟨t', e⟩ := hy; injection e with e; rw [e]
    | inr y => obtain ⟨a, e, _⟩ := hy; cases e
  | inr x =>
    obtain ⟨a, rfl, hx⟩ := hx
    cases y with
    | inl y => obtain ⟨t', e⟩ := hy; cases e
    | inr y => obtain ⟨b, e, hy⟩ := hy; injection e with e; subst e; rw [hx.inj hy]
end
-- V3
noncomputable abbrev KL := List (KY × Value × Value)
noncomputable def kyEnt (w : World) (x : KY × Value × Value) : DictEntry := ⟨kyHash w x.1, x.2.1, x.2.2⟩
section
variable {w : World} {A : Around} {E : Value → Shared → Prop} {s : Shared}
theorem mayTell_ky {k : KY} {key : Value} {stored : List Value} {Q : Bool → Shared → Prop} (hkey : kyIs w s.heap k key) (hst : ∀ v ∈ stored, ∃ k', kyIs w s.heap k' v) (h : Q false s) : wpAny (model PG w) A (tableMayTell key stored) Q E s := by
  unfold tableMayTell
  split
  · exact wpAny_pure h
  · refine wpAny_bind (quiet_ky hkey ?_)
    simp only [Bool.not_true, Bool.false_eq_true, if_false]
    refine wpAny_bind ?_
    refine wpAny_forIn_list _ (fun rest r s' => s' = s ∧ r = (none, ()) ∧ ∀ v ∈ rest, ∃ k', kyIs w s.heap k' v) _ ?_ ?_ _ _ ⟨rfl, rfl, hst⟩
    · rintro x rest r s' ⟨rfl, rfl, hr⟩
      obtain ⟨k', hb⟩ := hr x List.mem_cons_self
      refine wpAny_bind (quiet_ky hb ?_)
      simp only [Bool.not_true, Bool.false_eq_true, if_false]
      exact wpAny_pure ⟨rfl, rfl, fun v hv => hr v (List.mem_cons_of_mem _ hv)⟩
    · rintro r s' ⟨rfl, rfl, _⟩
      exact wpAny_pure h
theorem two_ways {α : Type} {c : Prop} [Decidable c] {a : Sem Bool} {f : Bool → Sem α} {Q : α → Shared → Prop} (ha : ∀ {R : Bool → Shared → Prop}, R false s → wpAny (model PG w) A a R E s) (h : wpAny (model PG w) A (f false) Q E s) : wpAny (model PG w) A (if c then pure false >>= f else a >>= f) Q E s := by
  split
  · exact wpAny_bind (wpAny_pure h)
  · exact wpAny_bind (ha h)
theorem hit_ky {α : Type} {d : Addr} {o : Obj} {es : Array DictEntry} {ep : Nat} {k k' : KY} {key u' : Value} {U f : Nat → Bool → Nat → Sem α} {kp : Option Value} {Q : α → Shared → Prop} (hu : A.units < cLine) (hib : kyIs w s.heap k' u') (hkey : kyIs w s.heap k key) (ho : s.heap.get? d = some o) (hd : o.data = .dict es ep)
    (h : wpAny (model PG w) A (f ep (decide (k' = k)) ep) Q E s) : wpAny (model PG w) A (dictEpoch d kp >>= fun a => eqBool u' key >>= fun b => dictEpoch d kp >>= fun c => if (c != a) = true then U a b c else f a b c) Q E s := by
  refine wpAny_bind (wpAny_dictEpoch ho hd (wpAny_bind (eqBool_ky hu hib hkey (wpAny_bind (wpAny_dictEpoch ho hd ?_)))))
  show wpAny _ _ (if (ep != ep) = true then _ else _) _ E _
  rw [if_neg (by simp)]
  exact h
end
inductive PlI (xs : KL) (k : KY) (places : List Nat) (s : Shared) (rest : List Nat) (b : Option (Option Nat) × Unit) (s' : Shared) : Prop
  | mk (pre : List Nat) (e1 : s' = s) (e2 : b = (none, ())) (e3 : places = pre ++ rest) (e4 : ∀ j ∈ pre, ∀ p, xs[j]? ≠ some (k, p))
inductive SlH (xs : KL) (k : KY) (pre : List Nat) : Option Nat → Prop
  | no (h : ∀ j ∈ pre, ∀ p, xs[j]? ≠ some (k, p)) : SlH xs k pre none
  | yes (j : Nat) (p : Value × Value) (h1 : j ∈ pre) (h2 : xs[j]? = some (k, p)) : SlH xs k pre (some j)
inductive SlI (xs : KL) (k : KY) (places : List Nat) (s : Shared) (rest : List Nat) (b : Option (Option Nat) × Option Nat) (s' : Shared) : Prop
  | mk (pre : List Nat) (hit : Option Nat) (e1 : s' = s) (e3 : places = pre ++ rest) (e2 : b = (none, hit)) (e4 : SlH xs k pre hit)
theorem SlH.stay {xs : KL} {k k' : KY} {pre : List Nat} {hit : Option Nat} {x : Nat} {u v : Value} (h : SlH xs k pre hit) (hkv : xs[x]? = some (k', u, v)) (hne : ¬ k' = k) : SlH xs k (pre ++ [x]) hit := by
  cases h with
  | no hno =>
    refine .no fun j hj p hjp => ?_
    rcases List.mem_append.mp hj with hj | hj
    · exact hno j hj p hjp
    · rw [List.mem_singleton.mp hj, hkv] at hjp
      injection hjp with hjp; injection hjp with hjp; exact hne hjp
  | yes j p hj h2 => exact .yes j p (List.mem_append_left _ hj) h2
section
variable {w : World} {A : Around} {E : Value → Shared → Prop} {s : Shared}
theorem find_ky {d : Addr} {o : Obj} {es : Array DictEntry} {ep : Nat} {xs : KL} {k : KY} {key : Value} {Q : Option Nat → Shared → Prop} (hu : A.units < cLine) (hkey : kyIs w s.heap k key)
    (ho : s.heap.get? d = some o) (hd : o.data = .dict es ep) (he : es.toList = xs.map (kyEnt w)) (his : ∀ x ∈ xs, kyIs w s.heap x.1 x.2.1) (hn : (xs.map (·.1)).Nodup)
    (hnone : (∀ (j : Nat) (p : Value × Value), xs[j]? ≠ some (k, p)) → Q none s) (hsome : ∀ (j : Nat) (p : Value × Value), xs[j]? = some (k, p) → Q (some j) s) :
    wpAny (model PG w) A (dictFind d key (kyHash w k)) Q E s := by
  have ent : ∀ j : Nat, es[j]? = (xs[j]?).map (kyEnt w) := fun j => by rw [← Array.getElem?_toList, he, List.getElem?_map]
  have hsz : es.size = xs.length := by rw [← Array.length_toList, he, List.length_map]
  generalize hpl : placesWithHash es.size (fun i => es[i]?.map (·.hash)) (kyHash w k) = places
  have hin : ∀ (j : Nat) (p : Value × Value), xs[j]? = some (k, p) → j ∈ places := by
    intro j p hj
    rw [← hpl, placesWithHash, List.mem_filter]
    refine ⟨List.mem_range.mpr ?_, ?_⟩
    · rw [hsz]; exact (List.getElem?_eq_some_iff.mp hj).1
    · rw [ent j, hj]; simp [kyEnt]
  have hnd : places.Nodup := by rw [← hpl, placesWithHash]; exact List.nodup_range.filter _
  have hlt : ∀ j ∈ places, ∃ y, xs[j]? = some y := by
    intro j hj
    rw [← hpl, placesWithHash, List.mem_filter] at hj
    have := List.mem_range.mp hj.1
    exact ⟨_, List.getElem?_eq_getElem (by omega)⟩
  have huniq : ∀ {i j : Nat} {p q : Value × Value}, xs[i]? = some (k, p) → xs[j]? = some (k, q) → i = j := by
    intro i j p q hi hj
    have hi' : (xs.map (·.1))[i]? = some k := by rw [List.getElem?_map, hi]; rfl
    have hj' : (xs.map (·.1))[j]? = some k := by rw [List.getElem?_map, hj]; rfl
    exact (List.getElem?_inj (List.getElem?_eq_some_iff.mp hi').1 hn).mp (hi'.trans hj'.symm)
  have hst : ∀ v ∈ places.filterMap (fun i => es[i]?.map (·.key)), ∃ k', kyIs w s.heap k' v := by
    intro v hv
    obtain ⟨i, hi, hv⟩ := List.mem_filterMap.mp hv
    obtain ⟨y, hy⟩ := hlt i hi
    rw [ent i, hy] at hv
    simp only [Option.map_some, Option.some.injEq] at hv
    exact ⟨y.1, hv ▸ his y (List.mem_of_getElem? hy)⟩
  have plain : wpAny (model PG w) A (dictWalkPlain d key (kyHash w k) es places) Q E s := by
    refine wpAny_bind ?_
    refine wpAny_forIn_list _ (PlI xs k places s) _ ?_ ?_ _ _ ⟨[], rfl, rfl, rfl, nofun⟩
    · rintro x rest b s' ⟨pre, rfl, rfl, hp, hno⟩
      obtain ⟨⟨k', u', v'⟩, hkv⟩ := hlt x (by rw [hp]; simp)
      have hib : kyIs w s'.heap k' u' := his _ (List.mem_of_getElem? hkv)
      have hex : es[x]? = some ⟨kyHash w k', u', v'⟩ := by rw [ent x, hkv]; rfl
      have hnext : ¬ k' = k → PlI xs k places s' rest (none, ()) s' := fun hne =>
        ⟨pre ++ [x], rfl, rfl, by rw [hp, List.append_assoc]; rfl, fun j hj p hjp => by
          rcases List.mem_append.mp hj with hj | hj
          · exact hno j hj p hjp
          · rw [List.mem_singleton.mp hj, hkv] at hjp
            injection hjp with hjp; injection hjp with hjp; exact hne hjp⟩
      rw [hex]
      dsimp only
      by_cases hh : (kyHash w k' == kyHash w k) = true
      · rw [if_pos hh]
        refine hit_ky hu hib hkey ho hd ?_
        by_cases hkk : k' = k
        · rw [decide_eq_true hkk]
          subst hkk
          exact wpAny_bind (wpAny_rule (wpAny_pure (wpAny_pure (hsome x _ hkv))))
        · rw [decide_eq_false hkk]
          exact wpAny_bind (wpAny_rule (wpAny_pure (hnext hkk)))
      · rw [if_neg hh]
        refine wpAny_pure (hnext ?_)
        intro hkk
        rw [hkk] at hh; simp at hh
    · rintro b s' ⟨pre, rfl, rfl, hp, hno⟩
      rw [List.append_nil] at hp
      exact wpAny_pure (hnone fun j p hj => hno j (hp ▸ hin j p hj) p hj)
  have hany : ¬ (es.any fun e => e.key == key && e.hash != kyHash w k) = true := by
    rw [← Array.any_toList, List.any_eq_true]
    rintro ⟨e, hin', hc⟩
    rw [he] at hin'
    obtain ⟨x, hx, rfl⟩ := List.mem_map.mp hin'
    simp only [kyEnt, Bool.and_eq_true, beq_iff_eq, bne_iff_ne, ne_eq] at hc
    have h1 := his x hx
    rw [hc.1] at h1
    exact hc.2 (by rw [kyIs_inj h1 hkey])
  unfold dictFind
  try with_reducible refine wpAny_holding ?_
  refine wpAny_bind (wpAny_dictEntries ho hd ?_)
  dsimp only
  rw [hpl]
  have hkey' := hkey
  cases k with
  | inl x =>
    obtain ⟨t, rfl⟩ := hkey
    dsimp only
    by_cases hs : (es.all fun e => isExactStrKey e.key) = true
    · rw [if_pos hs]
      unfold foundByValue
      cases hf : es.findIdx? (fun e => e.key.isStr x) with
      | none =>
        refine wpAny_pure (hnone fun j p hj => ?_)
        have := Array.findIdx?_eq_none_iff.mp hf (kyEnt w (.inl x, p)) (Array.mem_toList_iff.mp (by rw [he]; exact List.mem_map_of_mem (List.mem_of_getElem? hj)))
        obtain ⟨t', ht'⟩ := his _ (List.mem_of_getElem? hj)
        simp only at ht'
        simp [kyEnt, ht', Value.isStr] at this
      | some i =>
        obtain ⟨hl, hi, _⟩ := Array.findIdx?_eq_some_iff_getElem.mp hf
        obtain ⟨⟨k', u', v'⟩, hkv⟩ : ∃ y, xs[i]? = some y := ⟨_, List.getElem?_eq_getElem (by omega)⟩
        have hex : es[i]? = some ⟨kyHash w k', u', v'⟩ := by rw [ent i, hkv]; rfl
        have hib : kyIs w s.heap k' u' := his _ (List.mem_of_getElem? hkv)
        have hkk : k' = .inl x := by
          rw [Array.getElem?_eq_getElem hl] at hex
          rw [Option.some.inj hex] at hi
          cases u' with
          | str y tt =>
            simp only [Value.isStr, beq_iff_eq] at hi
            subst hi
            exact kyIs_inj hib (⟨tt, rfl⟩ : kyIs w s.heap (.inl y) (.str y tt))
          | _ => simp [Value.isStr] at hi
        subst hkk
        simp only [hex]
        refine hit_ky hu hib hkey' ho hd ?_
        rw [decide_eq_true rfl]
        exact wpAny_bind (wpAny_rule (wpAny_pure (hsome i _ hkv)))
    · rw [if_neg hs]
      by_cases hc : ((Value.str x t :: places.filterMap (fun i => es[i]?.map (·.key))).all carriedByValue) = true
      · rw [if_pos hc]; exact plain
      · rw [if_neg hc]
        refine two_ways (fun h => mayTell_ky hkey' hst h) ?_
        (
        rw [if_neg (by simp)]
        refine wpAny_bind ?_
        refine wpAny_forIn_list _ (SlI xs (Sum.inl x) places s) _ ?_ ?_ _ _ ⟨[], none, rfl, rfl, rfl, .no nofun⟩
        · rintro x' rest b s' ⟨pre, hit, rfl, hp, rfl, hH⟩
          obtain ⟨⟨k', u', v'⟩, hkv⟩ := hlt x' (by rw [hp]; simp)
          have hib : kyIs w s'.heap k' u' := his _ (List.mem_of_getElem? hkv)
          have hex : es[x']? = some ⟨kyHash w k', u', v'⟩ := by rw [ent x', hkv]; rfl
          have hp' : places = (pre ++ [x']) ++ rest := by rw [hp, List.append_assoc]; rfl
          have hstay : ¬ k' = (Sum.inl x) → SlH xs (Sum.inl x) (pre ++ [x']) hit := fun hne => hH.stay hkv hne
          simp only [hex]
          by_cases hh : (kyHash w k' == kyHash w (Sum.inl x)) = true
          · rw [if_pos hh]
            refine hit_ky hu hib hkey' ho hd ?_
            by_cases hkk : k' = (Sum.inl x)
            · rw [decide_eq_true hkk]
              subst hkk
              rcases hH with hno | ⟨j, p, hj, h2⟩
              · first | rw [if_pos rfl] | skip
                simp only [Option.isSome_none, Bool.false_eq_true, if_false]
                first | refine wpAny_bind (wpAny_pure ?_) | skip
                refine wpAny_bind (wpAny_rule ?_)
                split
                · exact wpAny_pure (wpAny_pure (hsome x' _ hkv))
                · exact wpAny_pure ⟨pre ++ [x'], some x', rfl, hp', rfl, .yes x' _ (by simp) hkv⟩
              · exfalso
                have : j = x' := huniq h2 hkv
                subst this
                rw [hp] at hnd
                exact (List.nodup_append.mp hnd).2.2 j hj j (.head _) rfl
            · rw [decide_eq_false hkk]
              simp only [Bool.false_eq_true, if_false]
              refine wpAny_bind (wpAny_rule ?_)
              first | rw [if_neg (by simp)] | skip
              first
                | exact wpAny_pure ⟨pre ++ [x'], hit, rfl, hp', rfl, hstay hkk⟩
                | exact wpAny_bind (wpAny_pure (wpAny_pure ⟨pre ++ [x'], hit, rfl, hp', rfl, hstay hkk⟩))
          · rw [if_neg hh]
            refine wpAny_pure ⟨pre ++ [x'], hit, rfl, hp', rfl, hstay ?_⟩
            intro hkk
            rw [hkk] at hh; simp at hh
        · rintro b s' ⟨pre, hit, rfl, hp, rfl, hH⟩
          rw [List.append_nil] at hp
          rcases hH with hno | ⟨j, p, _, hj⟩
          · exact wpAny_pure (hnone fun j p hj => hno j (hp ▸ hin j p hj) p hj)
          · exact wpAny_pure (hsome j p hj))
    | inr ks =>
    obtain ⟨a, rfl, hk⟩ := hkey
    dsimp only
    rw [if_neg (by simp [carriedByValue]), if_neg hany]
    refine two_ways (fun h => mayTell_ky hkey' hst h) ?_
    (
      rw [if_neg (by simp)]
      refine wpAny_bind ?_
      refine wpAny_forIn_list _ (SlI xs (Sum.inr ks) places s) _ ?_ ?_ _ _ ⟨[], none, rfl, rfl, rfl, .no nofun⟩
      · rintro x rest b s' ⟨pre, hit, rfl, hp, rfl, hH⟩
        obtain ⟨⟨k', u', v'⟩, hkv⟩ := hlt x (by rw [hp]; simp)
        have hib : kyIs w s'.heap k' u' := his _ (List.mem_of_getElem? hkv)
        have hex : es[x]? = some ⟨kyHash w k', u', v'⟩ := by rw [ent x, hkv]; rfl
        have hp' : places = (pre ++ [x]) ++ rest := by rw [hp, List.append_assoc]; rfl
        have hstay : ¬ k' = (Sum.inr ks) → SlH xs (Sum.inr ks) (pre ++ [x]) hit := fun hne => hH.stay hkv hne
        simp only [hex]
        by_cases hh : (kyHash w k' == kyHash w (Sum.inr ks)) = true
        · rw [if_pos hh]
          refine hit_ky hu hib hkey' ho hd ?_
          by_cases hkk : k' = (Sum.inr ks)
          · rw [decide_eq_true hkk]
            subst hkk
            rcases hH with hno | ⟨j, p, hj, h2⟩
            · first | rw [if_pos rfl] | skip
              simp only [Option.isSome_none, Bool.false_eq_true, if_false]
              first | refine wpAny_bind (wpAny_pure ?_) | skip
              refine wpAny_bind (wpAny_rule ?_)
              split
              · exact wpAny_pure (wpAny_pure (hsome x _ hkv))
              · exact wpAny_pure ⟨pre ++ [x], some x, rfl, hp', rfl, .yes x _ (by simp) hkv⟩
            · exfalso
              have : j = x := huniq h2 hkv
              subst this
              rw [hp] at hnd
              exact (List.nodup_append.mp hnd).2.2 j hj j (.head _) rfl
          · rw [decide_eq_false hkk]
            simp only [Bool.false_eq_true, if_false]
            refine wpAny_bind (wpAny_rule ?_)
            first | rw [if_neg (by simp)] | skip
            first
              | exact wpAny_pure ⟨pre ++ [x], hit, rfl, hp', rfl, hstay hkk⟩
              | exact wpAny_bind (wpAny_pure (wpAny_pure ⟨pre ++ [x], hit, rfl, hp', rfl, hstay hkk⟩))
        · rw [if_neg hh]
          refine wpAny_pure ⟨pre ++ [x], hit, rfl, hp', rfl, hstay ?_⟩
          intro hkk
          rw [hkk] at hh; simp at hh
      · rintro b s' ⟨pre, hit, rfl, hp, rfl, hH⟩
        rw [List.append_nil] at hp
        rcases hH with hno | ⟨j, p, _, hj⟩
        · exact wpAny_pure (hnone fun j p hj => hno j (hp ▸ hin j p hj) p hj)
        · exact wpAny_pure (hsome j p hj))
end
-- V4
noncomputable def KyObj (w : World) (o : Obj) (xs : KL) : Prop := o.ExactDict ∧ ∃ es ep, o.data = .dict es ep ∧ es.toList = xs.map (kyEnt w) ∧ (xs.map (·.1)).Nodup
noncomputable def KyK (w : World) (news : List (Addr × Obj)) : KY → Value → Prop
  | .inl x, v => ∃ t, v = .str x t
  | .inr ks, v => ∃ a items n, v = .ref a ∧ (a, ({ cls := .type "tuple", data := .seq items n } : Obj)) ∈ news ∧ ItemsAre (siKind PG w) ks items.toList
noncomputable def KyKs (w : World) (news : List (Addr × Obj)) (xs : KL) : Prop := ∀ x ∈ xs, KyK w news x.1 x.2.1
theorem KyK.mono {w : World} {n n' : List (Addr × Obj)} (h : ∀ p ∈ n, p ∈ n') {k : KY} {v : Value} (x : KyK w n k v) : KyK w n' k v := by
  cases k with
  | inl k => exact x
  | inr k => obtain ⟨a, items, m, e, hm, hi⟩ := x; exact ⟨a, items, m, e, h _ hm, hi⟩
theorem KyKs.mono {w : World} {n n' : List (Addr × Obj)} (h : ∀ p ∈ n, p ∈ n') {xs : KL} (x : KyKs w n xs) : KyKs w n' xs := fun y hy => (x y hy).mono h
noncomputable def kyAt (xs : KL) (k : KY) : Option (Value × Value) := (xs.find? fun x => decide (x.1 = k)).map (·.2)
noncomputable def kyPut (k : KY) (v : Value) (x : KY × Value × Value) : KY × Value × Value := if x.1 = k then (x.1, x.2.1, v) else x
noncomputable def kyStored (xs : KL) (k : KY) (key v : Value) : KL := if (kyAt xs k).isSome then xs.map (kyPut k v) else xs ++ [(k, key, v)]
theorem kyAt_get {xs : KL} (hn : (xs.map (·.1)).Nodup) {i : Nat} {k : KY} {p : Value × Value} (hx : xs[i]? = some (k, p)) : kyAt xs k = some p := by
  induction xs generalizing i with
  | nil => simp at hx
  | cons x rest ih =>
    rw [List.map_cons, List.nodup_cons] at hn
    cases i with
    | zero => simp only [List.getElem?_cons_zero, Option.some.injEq] at hx; subst hx; simp [kyAt]
    | succ j =>
      simp only [List.getElem?_cons_succ] at hx
      have hne : ¬ x.1 = k := fun e => hn.1 (e ▸ List.mem_map.mpr ⟨(k, p), List.mem_of_getElem? hx, rfl⟩)
      have := ih hn.2 hx
      simpa [kyAt, List.find?_cons, hne] using this
theorem kyAt_none {xs : KL} {k : KY} (h : ∀ (j : Nat) (p : Value × Value), xs[j]? ≠ some (k, p)) : kyAt xs k = none := by
  have : (xs.find? fun x => decide (x.1 = k)) = none := by
    rw [List.find?_eq_none]
    intro x hx hk
    obtain ⟨j, hj⟩ := List.mem_iff_getElem?.mp hx
    have hk' : x.1 = k := of_decide_eq_true hk
    exact h j x.2 (by rw [hj, ← hk'])
  simp [kyAt, this]
theorem kyPut_keys (xs : KL) (k : KY) (v : Value) : (xs.map (kyPut k v)).map (·.1) = xs.map (·.1) := by
  rw [List.map_map]
  refine List.map_congr_left fun x _ => ?_
  by_cases h : x.1 = k <;> simp [kyPut, h]
theorem kyPut_modify {w : World} {k : KY} {v : Value} : ∀ {xs : KL} {j : Nat} {p : Value × Value}, (xs.map (·.1)).Nodup → xs[j]? = some (k, p) → (xs.map (kyEnt w)).modify j (fun e => { e with val := v }) = (xs.map (kyPut k v)).map (kyEnt w) := by
  intro xs
  induction xs with
  | nil => intro j p _ hj; simp at hj
  | cons x rest ih =>
    intro j p hn hj
    rw [List.map_cons, List.nodup_cons] at hn
    cases j with
    | zero =>
      simp only [List.getElem?_cons_zero, Option.some.injEq] at hj
      subst hj
      have : rest.map (kyPut k v) = rest := by
        refine (List.map_congr_left fun y hy => ?_).trans (List.map_id rest)
        have : ¬ y.1 = k := fun e => hn.1 (List.mem_map.mpr ⟨y, hy, e⟩)
        simp [kyPut, this]
      simp [this, kyPut, kyEnt]
    | succ j =>
      simp only [List.getElem?_cons_succ] at hj
      have hne : ¬ x.1 = k := fun e => hn.1 (e ▸ List.mem_map.mpr ⟨(k, p), List.mem_of_getElem? hj, rfl⟩)
      have := ih hn.2 hj
      simp only [List.map_cons, List.modify_succ_cons, this]
      simp [kyPut, hne]
section
variable {w : World} {A : Around} {E : Value → Shared → Prop} {s : Shared} {h₀ : Heap} {L d : Addr} {m : Str → Option Value} {news : List (Addr × Obj)} {o : Obj} {xs : KL} {k : KY} {key v : Value}
theorem kyIs_of (N : News h₀ L s.heap news) (h : KyK w news k key) : kyIs w s.heap k key := by
  cases k with
  | inl x => exact h
  | inr ks => obtain ⟨a, items, n, rfl, hm, hi⟩ := h; exact ⟨a, rfl, _, items, n, (N _ hm).1, rfl, rfl, hi⟩
theorem get_ky {Q : Option Value → Shared → Prop} (hu : A.units < cLine) (N : News h₀ L s.heap news) (hp : (d, o) ∈ news) (hd : KyObj w o xs) (hks : KyKs w news xs) (hk : KyK w news k key)
    (h : Q ((kyAt xs k).map (·.2)) { s with toks := s.toks + kyDraws k }) : wpAny (model PG w) A (dictGet d key) Q E s := by
  obtain ⟨hc, es, ep, hdt, he, hn⟩ := hd
  have ho := (N _ hp).1
  have ent : ∀ j : Nat, es[j]? = (xs[j]?).map (kyEnt w) := fun j => by rw [← Array.getElem?_toList, he, List.getElem?_map]
  unfold dictGet
  try with_reducible refine wpAny_holding ?_
  refine wpAny_bind (pyHash_ky hu (kyIs_of N hk) (wpAny_bind (find_ky (s := { s with toks := s.toks + kyDraws k }) hu (kyIs_of (s := { s with toks := s.toks + kyDraws k }) N hk) ho hdt he (fun x hx => kyIs_of (s := { s with toks := s.toks + kyDraws k }) N (hks x hx)) hn ?_ ?_)))
  · intro hno
    rw [kyAt_none hno] at h
    exact wpAny_pure h
  · intro j p hj
    rw [kyAt_get hn hj] at h
    refine wpAny_bind (wpAny_dictEntries (s := { s with toks := s.toks + kyDraws k }) ho hdt ?_)
    rw [ent j, hj]
    exact wpAny_pure h
theorem ky_type (N : News h₀ L s.heap news) (hp : (d, o) ∈ news) (hd : KyObj w o xs) : s.TypeIs (.ref d) "dict" := ⟨o, (N _ hp).1, hd.1.1⟩
theorem ky_in {Q : Value → Shared → Prop} (hu : A.in1.units < cLine) (N : News h₀ L s.heap news) (hp : (d, o) ∈ news) (hd : KyObj w o xs) (hks : KyKs w news xs) (hk : KyK w news k key) (lo : (d == sysModules) = false) (b : Bool) (hb : (kyAt xs k).isSome = b)
    (h : Q (.bool b) { s with toks := s.toks + kyDraws k }) : wpAny (model PG w) A (compareOp .In key (.ref d)) Q E s := by
  have hT := ky_type N hp hd
  show wpAny _ _ (do return .bool (← contains (.ref d) key)) Q E s
  refine wpAny_bind ?_
  unfold contains
  try with_reducible refine wpAny_holding ?_
  refine wpAny_bind (wpAny_specialOf hT slot_dict_contains.lookup ?_)
  show wpAny _ _ (if (some (Value.builtin "dict.__contains__") == some Value.none) = true then _ else _) _ E s
  rw [if_neg (by rw [beq_builtin_none]; exact Bool.false_ne_true)]
  refine wpAny_bind (wpAny_callSpecialUnlessNone?_slot (name := Str.ofString "__contains__") hT slot_dict_contains
    (wpAny_call_entry slot_dict_contains hT entry_dict_contains ?_ (args_dict_contains _ _)))
  show wpAny _ _ (dictGet d key >>= _) _ _ s
  refine wpAny_bind (get_ky hu N hp hd hks hk ?_)
  cases hf : kyAt xs k with
  | some p =>
    rw [hf] at hb
    subst hb
    show wpAny _ _ (ret (.bool true)) _ _ _
    exact wpAny_pure ⟨_, rfl, wpAny_truthy_bool (wpAny_pure h)⟩
  | none =>
    rw [hf] at hb
    subst hb
    show wpAny _ _ (Builtin.Dict.pendingKey? d key >>= _) _ _ _
    exact wpAny_bind (wpAny_pendingKey_other lo (wpAny_pure ⟨_, rfl, wpAny_truthy_bool (wpAny_pure h)⟩))
theorem ky_getItem {kv : Value} {Q : Value → Shared → Prop} (hu : A.in1.units < cLine) (N : News h₀ L s.heap news) (hp : (d, o) ∈ news) (hd : KyObj w o xs) (hks : KyKs w news xs) (hk : KyK w news k key) (hv : kyAt xs k = some (kv, v))
    (h : Q v { s with toks := s.toks + kyDraws k }) : wpAny (model PG w) A (getItem (.ref d) key) Q E s := by
  have hT := ky_type N hp hd
  unfold getItem
  try with_reducible refine wpAny_holding ?_
  refine wpAny_bind (wpAny_sequenceKey hT (by decide) ?_)
  refine wpAny_bind (wpAny_callSpecial?_slot (name := Str.ofString "__getitem__") hT slot_dict_getitem
    (wpAny_call_entry slot_dict_getitem hT entry_dict_getitem ?_ (args_dict_getitem _ _)))
  show wpAny _ _ (dictGet d key >>= _) _ _ s
  refine wpAny_bind (get_ky hu N hp hd hks hk ?_)
  rw [hv]
  exact wpAny_pure ⟨v, rfl, wpAny_pure h⟩
theorem ky_item {value slice : Expr} {kv : Value} {Q : Value → Shared → Prop} (hu : A.in1.units < cLine) (N : News h₀ L s.heap news) (hp : (d, o) ∈ news) (hd : KyObj w o xs) (hks : KyKs w news xs) (hk : KyK w news k key) (hv : kyAt xs k = some (kv, v))
    (h : Q v { s with toks := s.toks + kyDraws k }) (hs : subscripted slice false (.ref d) key = operate [.ref d, key] (getItem (.ref d) key) := by with_unfolding_all rfl) (hg : ∀ r, letTemporaryGo value (.ref d) r = pure () := by intro _; with_unfolding_all rfl) :
    wpAny (model PG w) A (subscriptTail value slice (.ref d) key) Q E s :=
  subscriptTail_builtin (ky_type N hp hd) slot_dict_getitem.lookup (ky_getItem hu N hp hd hks hk hv h) hs hg
end
-- V5
section
variable {w : World} {A : Around} {E : Value → Shared → Prop} {s : Shared} {h₀ : Heap} {L d : Addr} {m : Str → Option Value} {news : List (Addr × Obj)} {g : Obj → List (Addr × Obj)} {o : Obj} {xs : KL} {k : KY} {key v : Value}
theorem dset_ky {Q : Unit → Shared → Prop} (hu : A.units < cLine) (N : News h₀ L s.heap news) (hp : (d, o) ∈ news) (hd : KyObj w o xs) (hks : KyKs w news xs) (hk : KyK w news k key) (hsz : xs.length ≤ sizeLine)
    (h : ∀ h' o', h'.get? d = some o' → Heap.SameBut d s.heap h' → KyObj w o' (kyStored xs k key v) → Q () { s with heap := h', toks := s.toks + kyDraws k }) : wpAny (model PG w) A (dictSet d key v) Q E s := by
  obtain ⟨hc, es, ep, hdt, he, hn⟩ := hd
  have ho := (N _ hp).1
  have hes : es.size = xs.length := by rw [← Array.length_toList, he, List.length_map]
  unfold dictSet
  try with_reducible refine wpAny_holding ?_
  refine wpAny_bind (pyHash_ky hu (kyIs_of N hk) ?_)
  unfold dictSetHashed
  try with_reducible refine wpAny_holding ?_
  refine wpAny_bind (find_ky (s := { s with toks := s.toks + kyDraws k }) hu (kyIs_of (s := { s with toks := s.toks + kyDraws k }) N hk) ho hdt he (fun x hx => kyIs_of (s := { s with toks := s.toks + kyDraws k }) N (hks x hx)) hn ?_ ?_)
  · intro hno
    have hno' := kyAt_none hno
    refine wpAny_bind (wpAny_rule (wpAny_updateDictKeys (hz := by omega) (s := { s with toks := s.toks + kyDraws k }) ho hdt (h _ _ (Heap.get?_update_self _ ho (Obj.isFreed_of_dict (Obj.data_mapDictKeys hdt _))) (Heap.SameBut.update ..)
      ⟨hc.mapDictKeys _, _, ep + 1, Obj.data_mapDictKeys hdt _, ?_, ?_⟩)))
    · simp [kyStored, hno', he, kyEnt]
    · simp only [kyStored, hno', Option.isSome_none, Bool.false_eq_true, if_false]
      rw [List.map_append, List.nodup_append]
      refine ⟨hn, by simp, ?_⟩
      intro x hx y hy
      simp only [List.map_cons, List.map_nil, List.mem_singleton] at hy
      subst hy
      rintro rfl
      obtain ⟨z, hz, e⟩ := List.mem_map.mp hx
      obtain ⟨j, hj⟩ := List.mem_iff_getElem?.mp hz
      exact hno j z.2 (by rw [hj, ← e])
  · intro j p hj
    have hat := kyAt_get hn hj
    refine wpAny_bind (wpAny_rule (wpAny_bind (wpAny_updateDict (s := { s with toks := s.toks + kyDraws k }) ho hdt (wpAny_point (h _ _ (Heap.get?_update_self _ ho (Obj.isFreed_of_dict (Obj.data_mapDict hdt _))) (Heap.SameBut.update ..)
      ⟨hc.mapDict _, _, ep, Obj.data_mapDict hdt _, ?_, ?_⟩)))))
    · have := kyPut_modify (w := w) (v := v) hn hj
      rw [← he] at this
      simp only [kyStored, hat, Option.isSome_some, if_true]
      obtain ⟨l⟩ := es
      simpa using this
    · simp only [kyStored, hat, Option.isSome_some, if_true]
      rw [kyPut_keys]; exact hn
theorem ky_set {Q : Unit → Shared → Prop} (hu : A.in1.units < cLine) (F : Fr h₀ L s.heap m) (N : News h₀ L s.heap news) (U : UpdF d o news g) (hd : KyObj w o xs) (hks : KyKs w news xs) (hk : KyK w news k key) (hsz : xs.length ≤ sizeLine)
    (h : ∀ h' o', Fr h₀ L h' m → News h₀ L h' (g o') → KyObj w o' (kyStored xs k key v) → Q () { s with heap := h', toks := s.toks + kyDraws k }) : wpAny (model PG w) A (setItem (.ref d) key v) Q E s := by
  obtain ⟨pre, post, rfl, hg, a, b⟩ := U.split
  have hm := N (d, o) (List.mem_append_right _ (.head _))
  have hT := ky_type N (List.mem_append_right _ (.head _)) hd
  unfold setItem
  try with_reducible refine wpAny_holding ?_
  refine wpAny_bind (wpAny_sequenceKey hT (by decide) ?_)
  refine wpAny_bind (wpAny_callSpecial?_slot (name := Str.ofString "__setitem__") hT slot_dict_setitem
    (wpAny_call_entry slot_dict_setitem hT entry_dict_setitem ?_ (args_dict_setitem _ _ _)))
  show wpAny _ _ (Builtin.Dict.notOrdered "__setitem__" ⟨[.ref d, key, v], []⟩ >>= _) _ _ s
  refine wpAny_bind (wpAny_notOrdered_dict hT ?_)
  show wpAny _ _ (dictSet d key v >>= _) _ _ s
  exact wpAny_bind (dset_ky hu N (List.mem_append_right _ (.head _)) hd hks hk hsz fun h' o' ho' hs hd' => wpAny_pure ⟨.none, rfl, wpAny_pure (h h' o' (F.change hs hm.2.1 hm.2.2) (hg o' ▸ N.setIn a b hs ho') hd')⟩)
end
-- S5
inductive WidsAt (w : World) (news : Led) (d : Addr) (lb : Option Nat) (W : Int) : Prop
  | mk (o : Obj) (wa wb : Addr) (h1 : (d, o) ∈ news) (h2 : (d == sysModules) = false) (h3 : Obj.IsDictOf (PySem.strKind PG w) o [(Str.ofString ".text", .ref wa), (Str.ofString ".data", .ref wb)]) (h4 : WidAt w news wa lb W) (h5 : WidAt w news wb none 1)
theorem WidsAt.mono {w : World} {n n' : Led} (s : ∀ p ∈ n, p ∈ n') {a : Addr} {lb : Option Nat} {W : Int} (h : WidsAt w n a lb W) : WidsAt w n' a lb W := by
  obtain ⟨o, x, y, a1, a2, a3, a4, a5⟩ := h
  exact ⟨o, x, y, s _ a1, a2, a3, a4.mono s, a5.mono s⟩
theorem ky_empty {w : World} {o : Obj} (h : Obj.IsDictOf (PySem.strKind PG w) o []) : KyObj w o [] := by
  obtain ⟨es, ep, h1, h2, _, h3, _⟩ := h
  refine ⟨h1, es, ep, h2, ?_, List.nodup_nil⟩
  generalize es.toList = l at h3
  cases h3
  rfl
theorem kyk_s {w : World} {news : Led} {x : Str} {t : Tok} : KyK w news (.inl x) (.str x t) := ⟨t, rfl⟩
theorem kyk_ss {w : World} {news : Led} {x y : Str} {t1 t2 : Tok} {a : Addr} {n : Nat} (h : (a, tupObj #[.str x t1, .str y t2] n) ∈ news) : KyK w news (.inr [.inl x, .inl y]) (.ref a) :=
  ⟨a, _, n, rfl, h, .cons (decide_eq_true rfl) (.cons (decide_eq_true rfl) .nil)⟩
theorem kyk_si {w : World} {news : Led} {x : Str} {i : Int} {t1 t2 : Tok} {a : Addr} {n : Nat} (h : (a, tupObj #[.str x t1, .int i t2] n) ∈ news) : KyK w news (.inr [.inl x, .inr i]) (.ref a) :=
  ⟨a, _, n, rfl, h, .cons (decide_eq_true rfl) (.cons (decide_eq_true rfl) .nil)⟩
noncomputable def tabKs (a1 oT k1 e1 a2 oD k2 e2 : Value) : KL :=
  [(.inl (Str.ofString ".text"), a1, oT), (.inr [.inl (Str.ofString ".text"), .inl (Str.ofString "end")], k1, e1), (.inl (Str.ofString ".data"), a2, oD), (.inr [.inl (Str.ofString ".data"), .inl (Str.ofString "end")], k2, e2)]
inductive TabAt (w : World) (news : Led) (d : Addr) (rows : List Row) (W : Int) : Prop
  | mk (o : Obj) (t1 t2 t3 t4 : Tok) (oT oD k1 k2 : Addr) (h1 : (d, o) ∈ news) (h2 : (d == sysModules) = false) (h3 : KyObj w o (tabKs (.str (Str.ofString ".text") t1) (.ref oT) (.ref k1) (.int (posn rows W rows.length) t3) (.str (Str.ofString ".data") t2) (.ref oD) (.ref k2) (.int 2 t4)))
    (h4 : KyKs w news (tabKs (.str (Str.ofString ".text") t1) (.ref oT) (.ref k1) (.int (posn rows W rows.length) t3) (.str (Str.ofString ".data") t2) (.ref oD) (.ref k2) (.int 2 t4)))
    (h5 : IntsAt news oT (offs rows W rows.length)) (h6 : IntsAt news oD [0])
theorem updF_app {d : Addr} {o : Obj} {a r : Led} {g : Obj → Led} (h : ∀ p ∈ a, p.1 ≠ d) (u : UpdF d o r g) : UpdF d o (a ++ r) (fun o' => a ++ g o') := by
  induction a with
  | nil => exact u
  | cons x a ih => exact .tail (h x (.head _)) (ih fun p hp => h p (.tail _ hp))
theorem ky_new {xs : KL} {k : KY} {key v : Value} (h : kyAt xs k = none) : kyStored xs k key v = xs ++ [(k, key, v)] := by
  unfold kyStored; rw [h]; rfl
theorem ky_put {w : World} {A : Around} {E : Value → Shared → Prop} {s : Shared} {h₀ : Heap} {L d : Addr} {m : Str → Option Value} {news : List (Addr × Obj)} {g : Obj → List (Addr × Obj)} {o : Obj} {xs : KL} {k : KY} {key v : Value} {Q : Unit → Shared → Prop} (hu : A.in1.units < cLine) (F : Fr h₀ L s.heap m) (N : News h₀ L s.heap news) (U : UpdF d o news g) (hd : KyObj w o xs) (hks : KyKs w news xs) (hk : KyK w news k key) (hsz : xs.length ≤ sizeLine) (hno : kyAt xs k = none)
    (h : ∀ h' o', Fr h₀ L h' m → News h₀ L h' (g o') → KyObj w o' (xs ++ [(k, key, v)]) → Q () { s with heap := h', toks := s.toks + kyDraws k }) : wpAny (model PG w) A (setItem (.ref d) key v) Q E s :=
  ky_set hu F N U hd hks hk hsz fun h' o' a b c => h h' o' a b (by rw [ky_new hno] at c; exact c)
theorem lt_head {D a : Addr} {o : Obj} {l : List (Addr × Obj)} (h : ∀ p ∈ (a, o) :: l, p.1 < D) : @LT.lt Nat _ a D := h _ (.head _)
-- S5b
theorem val1 {K : Type} [DecidableEq K] {k : K} {v : Value} : valueAt [(k, v)] k = some v := by simp [valueAt]
theorem stored1 {K : Type} [DecidableEq K] {k : K} {v : Value} : stored [] k v = [(k, v)] := by simp [stored]
theorem val_td_t {a b : Value} : valueAt [(Str.ofString ".text", a), (Str.ofString ".data", b)] (Str.ofString ".text") = some a := rfl
theorem val_td_d {a b : Value} : valueAt [(Str.ofString ".text", a), (Str.ofString ".data", b)] (Str.ofString ".data") = some b := rfl
theorem stored_td {a b : Value} : stored [(Str.ofString ".text", a)] (Str.ofString ".data") b = [(Str.ofString ".text", a), (Str.ofString ".data", b)] := rfl
section
variable {w : World} {A : Around} {E : Value → Shared → Prop} {s : Shared} {env : Env} {h₀ : Heap} {x : Str} {px : Pos} {body : List Stmt} {Q : Flow → Shared → Prop}
theorem int_key : ∀ (k : Int) (v : Value), (PySem.intKind PG w).is k v = true → ∃ t, v = kyVal (PyData.int k) t := fun _ _ h => Value.isInt_shape h
theorem iterK1 {d : Addr} {od : Obj} {k : Int} {v : Value} {m₀ : Str → Option Value} {news : List (Addr × Obj)}
    (hh : A.handled = none) (F : Fr h₀ env.locals s.heap m₀) (N : News h₀ env.locals s.heap news) (hm : (d, od) ∈ news) (hd : od.IsDictOf (PySem.intKind PG w) [(k, v)]) (lo : (d == sysModules) = false)
    (rest₀ : ∀ I : Addr, (∀ p ∈ news, p.1 < I) → ItemsRest PG w A E h₀ env (.Name x px) body Q s [(I, "dict_keyiterator")] [(d, od)] [.tok fun t => .int k t] m₀ news) :
    wpAny (model PG w) A (pyIter (.ref d)) (fun it s₂ => TurnsAt PG w A h₀ env (.Name x px) body Q E it s₂) E s :=
  kta_keys (enc := PyData.int) hh F N hm hd lo int_key rfl rest₀
theorem iterK0 {d : Addr} {od : Obj} {m₀ : Str → Option Value} {news : List (Addr × Obj)}
    (hh : A.handled = none) (F : Fr h₀ env.locals s.heap m₀) (N : News h₀ env.locals s.heap news) (hm : (d, od) ∈ news) (hd : od.IsDictOf (PySem.intKind PG w) []) (lo : (d == sysModules) = false)
    (rest₀ : ∀ I : Addr, (∀ p ∈ news, p.1 < I) → ItemsRest PG w A E h₀ env (.Name x px) body Q s [(I, "dict_keyiterator")] [(d, od)] [] m₀ news) :
    wpAny (model PG w) A (pyIter (.ref d)) (fun it s₂ => TurnsAt PG w A h₀ env (.Name x px) body Q E it s₂) E s :=
  kta_keys (enc := PyData.int) hh F N hm hd lo int_key rfl rest₀
end
theorem kd_sub {prog : Program} {w : World} {K : Type} [DecidableEq K] {knd : KeyKind prog w K} {A : Around} {E : Value → Shared → Prop} {s : Shared} {h₀ : Heap} {L d : Addr} {news : List (Addr × Obj)} {o : Obj} {kvs : List (K × Value)} {k : K} {key v : Value} {Q : Value → Shared → Prop} {value slice : PySem.Expr} (N : News h₀ L s.heap news) (hp : (d, o) ∈ news) (hd : o.IsDictOf knd kvs) (hkey : knd.is k key = true) (hl : valueAt kvs k = some v) (h : Q v { s with toks := s.toks + 1 })
    (hs : subscripted slice false (.ref d) key = operate [.ref d, key] (getItem (.ref d) key) := by with_unfolding_all rfl) : wpAny (model prog w) A (subscriptTail value slice (.ref d) key) Q E s :=
  kdt_tail N hp hd (kdt_getItem N hp hd hkey hl h) hs
-- S6
theorem words19 : True := by
  k_with "mono" => (first | assumption | (refine ProgAt.mono ?_ (by assumption); show Sub _ _; k_extra "subz") | (refine IntsAt.mono ?_ (by assumption); show Sub _ _; k_extra "subz") | (refine WidAt.mono ?_ (by assumption); show Sub _ _; k_extra "subz") | (refine AffAt.mono ?_ (by assumption); show Sub _ _; k_extra "subz"))
  k_with "call ref!" => ((k_here; (with_reducible show wpAny _ _ (call (Value.ref 278) _) _ _ _); k_dflt (first | (refine use_lai c (by assumption) (by assumption) hd9 hu9 (laid_ct (rows := rows) (by k_extra "mono") hlen hok hlb (by k_extra "mono")) rfl rfl (fun hz e t vs h' tk' g' F R U => hx (hxa hz) e t vs _ h' tk' g' _ (by k_extra "subz") F R U) ?_; intro c7 o7 tt7 kk7 tl7 h7 tk7 hfine7 hc7 ho7 F7 N7 hl7) | (refine use_lai c (by assumption) (by assumption) hd9 hu9 (laid_dat_ct (rows := rows) (W := 1) (by k_extra "mono")) rfl rfl nofun ?_; intro c8 o8 tt8 kk8 tl8 h8 tk8 _ hc8 ho8 F8 N8 hl8))))
  k_with "k_updF" => ((apply updF_app; (focus (k_all)); (focus (k_updF))))
  k_with "kyks" => (first | exact List.forall_mem_nil _ | (refine List.forall_mem_cons.mpr ⟨?_, ?_⟩; (first | exact kyk_s | exact kyk_ss (by k_mem)); k_extra "kyks"))
  k_with "kyd" => (first | assumption | exact ky_empty (by assumption))
  k_with "setItem ref str!" => ((k_here; k_dflt (refine ky_put (w := w) (k := .inl _) (by k_extra "ct_room") (by k_asm) (by k_asm) (by k_updF) (by k_extra "kyd") (by k_extra "kyks") kyk_s (by first | assumption | exact Nat.le_of_ble_eq_true (by kernel_rfl)) (by first | assumption | kernel_rfl) ?_; intro h4 o4 F4 N4 hd4; (try dsimp only at N4); (try simp only [List.cons_append, List.nil_append] at hd4))))
  k_with "setItem ref ref!" => ((k_here; k_dflt (refine ky_put (w := w) (k := .inr [.inl _, .inl _]) (by k_extra "ct_room") (by k_asm) (by k_asm) (by k_updF) (by k_extra "kyd") (by k_extra "kyks") (kyk_ss (by k_mem)) (by first | assumption | exact Nat.le_of_ble_eq_true (by kernel_rfl)) (by first | assumption | kernel_rfl) ?_; intro h4 o4 F4 N4 hd4; (try dsimp only at N4); (try simp only [List.cons_append, List.nil_append] at hd4))))
  k_with "newTuple!" => ((k_here; (with_reducible refine nt_L (G := G) (D := D) (O := O) (by k_asm) (by k_asm) (by k_dflt (exact Eq.refl true)) ?_); (intro D' h' tk' F' N' l1q)))
  trivial
inductive Del (x : Addr × Obj) : Led → Led → Prop
  | head {r : Led} : Del x (x :: r) r
  | tail {p : Addr × Obj} {r r' : Led} : Del x r r' → Del x (p :: r) (p :: r')
theorem del_app {x : Addr × Obj} {a r r' : Led} (h : Del x r r') : Del x (a ++ r) (a ++ r') := by
  induction a with
  | nil => exact h
  | cons p a ih => exact .tail ih
theorem Del.sub {x : Addr × Obj} {r r' : Led} (d : Del x r r') : ∀ p ∈ x :: r', p ∈ r := by
  induction d with
  | head => exact fun _ h => h
  | tail _ ih =>
    intro p hp
    rcases List.mem_cons.mp hp with rfl | hp
    · exact .tail _ (ih _ (.head _))
    · rcases List.mem_cons.mp hp with rfl | hp
      · exact .head _
      · exact .tail _ (ih _ (.tail _ hp))
theorem unrEnd1D {h₀ h' : Heap} {L I : Addr} {s₁ : Shared} {tk : Nat} {m' : Str → Option Value} {oI : Obj} {n' all : List (Addr × Obj)} {R : (Str → Option Value) → List (Addr × Obj) → Prop} (F : Fr h₀ L h' m') (N : News h₀ L h' all) (D : Del (I, oI) all n') (off : ∀ p ∈ n', p.1 ≠ I) (r : R m' n') : UnrEndW h₀ L s₁ [(I, oI)] R { s₁ with heap := h', toks := tk } := unrEnd1 F N D.sub off r
inductive Spl (news : Led) : Led → Led → Prop
  | here : Spl news news []
  | cons {p : Addr × Obj} {r tl : Led} : Spl news r tl → Spl news (p :: r) (p :: tl)
theorem spl_app {news a r tl : Led} (h : Spl news r tl) : Spl news (a ++ r) (a ++ tl) := by
  induction a with
  | nil => exact h
  | cons p a ih => exact .cons ih
theorem Spl.eq {news all tl : Led} (S : Spl news all tl) : all = tl ++ news := by
  induction S with
  | here => rfl
  | cons _ ih => rw [List.cons_append, ← ih]
theorem ret_spl {h₀ h' : Heap} {L : Addr} {all tl news : Led} (N : News h₀ L h' all) (S : Spl news all tl) : News h₀ L h' (tl ++ news) := S.eq ▸ N
theorem words20 : True := by
  k_with "k_spl" => (first | exact Spl.here | (apply spl_app; (focus (k_extra "k_spl"))) | (apply Spl.cons; (focus (k_extra "k_spl"))))
  k_with "ltz" => (first | exact lt_nilL | (refine lt_app ?_ ?_ <;> k_extra "ltz") | (refine lt_consS (by assumption) (by k_extra "subz") ?_; k_extra "ltz") | exact lt_sub (by assumption) (by k_extra "subz"))
  k_with "k_del" => (first | apply Del.head | (apply del_app; (focus (k_extra "k_del"))) | (apply Del.tail; (focus (k_extra "k_del"))))
  k_with "UnrEndW!" => ((k_dflt (refine unrEnd1D (by assumption) (by assumption) (by k_extra "k_del") (by k_all) ?_); (try refine ⟨subL_one (by k_mem), ?_⟩)))
  trivial
noncomputable def TabP (x : Prop) (w : World) (rows : List Row) (W : Int) : Led → Value → Prop := fun tl r => x ∧ ∃ d, r = .ref d ∧ TabAt w tl d rows W
theorem tables_ct {w : World} {news : Led} {p : PA} {rows : List Row} (hP : ProgAt w news p rows) (hlen : rows.length ≤ 10) (hok : ∀ r ∈ rows, r.Ok) {lb : Option Nat} (hlb : LebIs rows lb) {W : Int} {wd : Addr} {st : Bool} (hw : WidsAt w news wd lb W) :
    Ct w 40 600 320 [.ref p.P, .ref wd, .bool st] news (TabP (Fine rows W st rows.length) w rows W) (¬ Fine rows W st rows.length) := by
  have hdP := hP.hdP
  have hnm := hP.hnm
  have h1 := hP.hP
  obtain ⟨oW, wa, wb, hw1, hw2, hw3, hw4, hw5⟩ := hw
  have hxa : ¬ Fine rows W st rows.length → ¬ Fine rows W st rows.length := id
  refine ct_open3 (by k_is) (by k_is) (by kernel_rfl) rfl rfl rfl ?_; k_extra "ct_in"
  k_steps
  refine' hr _ _ _ _ _ (by assumption) (ret_spl (by assumption) (by k_extra "k_spl")) ?_ ?_
  · k_extra "ltz"
  · refine ⟨by assumption, _, rfl, _, _, _, _, _, _, _, _, _, by k_mem, by assumption, hd4, by k_extra "kyks", ?_, ?_⟩
    · k_extra "mono"
    · k_extra "mono"
-- Q1
noncomputable def LebV (rows : List Row) (W : Int) (x y : Nat) : Int := posn rows W x - posn rows W y
noncomputable def needOf (sg : Bool) (v : Int) : Int := if sg then (if -64 ≤ v ∧ v < 64 then 1 else 2) else if v < 128 then 1 else 2
theorem posn_succ_none {rows : List Row} {W : Int} {i : Nat} (h : rows[i]? = none) : posn rows W (i + 1) = posn rows W i := by
  show (match rows[i]? with | none => posn rows W i | some r => stepN (posn rows W i) (rawN r i (first rows W) (posn rows W i) W)) = _
  rw [h]
theorem posn_succ_some {rows : List Row} {W : Int} {i : Nat} {r : Row} (h : rows[i]? = some r) : posn rows W (i + 1) = stepN (posn rows W i) (rawN r i (first rows W) (posn rows W i) W) := by
  show (match rows[i]? with | none => posn rows W i | some r => stepN (posn rows W i) (rawN r i (first rows W) (posn rows W i) W)) = _
  rw [h]
theorem stepN_ge (h : Int) (g : Option Int) : h ≤ stepN h g := by
  cases g with
  | none => exact Int.le_refl _
  | some g => exact Int.le_max_left _ _
theorem posn_step_le {rows : List Row} {W : Int} (i : Nat) : posn rows W i ≤ posn rows W (i + 1) := by
  cases h : rows[i]? with
  | none => rw [posn_succ_none h]; exact Int.le_refl _
  | some r => rw [posn_succ_some h]; exact stepN_ge _ _
theorem posn_mono {rows : List Row} {W : Int} {i j : Nat} (h : i ≤ j) : posn rows W i ≤ posn rows W j := by
  induction j with
  | zero => obtain rfl : i = 0 := by omega
            exact Int.le_refl _
  | succ j ih =>
    rcases Nat.lt_or_ge i (j + 1) with h' | h'
    · exact Int.le_trans (ih (by omega)) (posn_step_le j)
    · obtain rfl : i = j + 1 := by omega
      exact Int.le_refl _
theorem posn_nonneg {rows : List Row} {W : Int} (i : Nat) : 0 ≤ posn rows W i := posn_mono (i := 0) (Nat.zero_le i)
theorem mx700 {a b : Int} (h : b ≤ a + 700) : max a b ≤ a + 700 := Int.max_le.mpr ⟨Int.le_add_of_nonneg_right (by decide), h⟩
theorem posn_step_ub {rows : List Row} {W : Int} (hok : ∀ r ∈ rows, r.Ok) (hW : W ≤ 2) (i : Nat) : posn rows W (i + 1) ≤ posn rows W i + 700 := by
  cases h : rows[i]? with
  | none => rw [posn_succ_none h]; omega
  | some r =>
    rw [posn_succ_some h]
    have ok := hok r (List.mem_of_getElem? h)
    have h0 := posn_nonneg (rows := rows) (W := W) i
    cases r with
    | gap k => have := ok.2; simp only [rawN, stepN]; first | (refine mx700 ?_; omega) | omega
    | ali k =>
      have h1 := ok.1
      have h2 := ok.2
      have := Int.fmod_lt_of_pos (-(posn rows W i)) h1
      simp only [rawN, stepN]; first | (refine mx700 ?_; omega) | omega
    | leb sg x y => simp only [rawN, stepN]; first | (refine mx700 ?_; omega) | omega
    | org wd k =>
      have h2 := ok.2
      rw [← posn_one]
      have h1 : i ≠ 0 → posn rows W 1 ≤ posn rows W i := fun hi => posn_mono (by omega)
      cases wd <;> simp only [rawN, goalOf] <;> (try split) <;> simp only [stepN] <;> (try have h1 := h1 (by assumption)) <;> first | (refine mx700 ?_; omega) | omega
theorem posn_ub {rows : List Row} {W : Int} (hok : ∀ r ∈ rows, r.Ok) (hW : W ≤ 2) (i : Nat) : posn rows W i ≤ 700 * i := by
  induction i with
  | zero => exact Int.le_refl _
  | succ i ih => have := posn_step_ub hok hW i; omega
theorem lebV_bound {rows : List Row} {W : Int} (hok : ∀ r ∈ rows, r.Ok) (hW : W ≤ 2) {x y : Nat} (hx : x ≤ 10) (hy : y ≤ 10) : -8192 ≤ LebV rows W x y ∧ LebV rows W x y < 8192 := by
  have a := posn_ub hok hW x
  have b := posn_ub hok hW y
  have c := posn_nonneg (rows := rows) (W := W) x
  have d := posn_nonneg (rows := rows) (W := W) y
  unfold LebV
  omega
theorem goal_isSome {wd : Word} {k : Int} {i : Nat} {p1 h p1' h' : Int} : (goalOf wd k i p1 h).isSome = (goalOf wd k i p1' h').isSome := by
  cases wd <;> simp only [goalOf] <;> (try split) <;> rfl
theorem raw_isSome {r : Row} {i : Nat} {p1 h W p1' h' W' : Int} : (rawN r i p1 h W).isSome = (rawN r i p1' h' W').isSome := by
  cases r with
  | org wd k => exact goal_isSome
  | _ => rfl
theorem fine_weak {rows : List Row} {W W' : Int} {n : Nat} (h : Fine rows W true n) : Fine rows W' false n := by
  intro i r hi hr
  obtain ⟨g, hg, _⟩ := h i r hi hr
  have := raw_isSome (r := r) (i := i) (p1 := first rows W) (h := posn rows W i) (W := W) (p1' := first rows W') (h' := posn rows W' i) (W' := W')
  rw [hg] at this
  obtain ⟨g', hg'⟩ := Option.isSome_iff_exists.mp this.symm
  exact ⟨g', hg', fun h => nomatch h⟩
noncomputable def rowB (rows : List Row) (W : Int) (i : Nat) : Row → Bool
  | .org wd k => match goalOf wd k i (posn rows W 1) (posn rows W i) with
    | none => false
    | some g => decide (posn rows W i ≤ g)
  | _ => true
noncomputable def okB (rows : List Row) (W : Int) : Nat → Bool
  | 0 => true
  | i + 1 => okB rows W i && (match rows[i]? with | none => true | some r => rowB rows W i r)
theorem rowB_fine {rows : List Row} {W : Int} (hok : ∀ r ∈ rows, r.Ok) (hW : 0 ≤ W) {i : Nat} {r : Row} (h : rows[i]? = some r) : rowB rows W i r = true ↔ ∃ g, rawN r i (first rows W) (posn rows W i) W = some g ∧ posn rows W i ≤ g := by
  have ok := hok r (List.mem_of_getElem? h)
  rw [← posn_one]
  cases r with
  | gap k => simp only [rowB, rawN, true_iff]; exact ⟨_, rfl, by have := ok.1; omega⟩
  | ali k => simp only [rowB, rawN, true_iff]; exact ⟨_, rfl, by have := Int.fmod_nonneg_of_pos (-(posn rows W i)) ok.1; omega⟩
  | leb sg x y => simp only [rowB, rawN, true_iff]; exact ⟨_, rfl, by omega⟩
  | org wd k =>
    simp only [rowB, rawN]
    cases goalOf wd k i (posn rows W 1) (posn rows W i) with
    | none => simp
    | some g => simp
theorem okB_fine {rows : List Row} {W : Int} (hok : ∀ r ∈ rows, r.Ok) (hW : 0 ≤ W) : ∀ n : Nat, okB rows W n = true ↔ Fine rows W true n
  | 0 => ⟨fun _ i r hi => by omega, fun _ => rfl⟩
  | n + 1 => by
    have ih := okB_fine hok hW n
    simp only [okB, Bool.and_eq_true]
    rw [ih]
    constructor
    · rintro ⟨a, b⟩ i r hi hr
      rcases Nat.lt_or_ge i n with h | h
      · exact a i r h hr
      · obtain rfl : i = n := by omega
        rw [hr] at b
        obtain ⟨g, h1, h2⟩ := (rowB_fine hok hW hr).mp b
        exact ⟨g, h1, fun _ => h2⟩
    · intro a
      refine ⟨fun i r hi hr => a i r (by omega) hr, ?_⟩
      cases hr : rows[n]? with
      | none => rfl
      | some r =>
        obtain ⟨g, h1, h2⟩ := a n r (by omega) hr
        exact (rowB_fine hok hW hr).mpr ⟨g, h1, h2 rfl⟩
-- S7
theorem words21 : True := by
  k_with "execs cons If nil" => (k_here; (with_reducible refine nx_last (G := G) (D := D) (O := O) ?_))
  k_with "execs cons If cons" => (k_here; (with_reducible refine nx_cons (G := G) (D := D) (O := O) ?_))
  k_with "execs cons For nil" => (k_here; (with_reducible refine nx_last (G := G) (D := D) (O := O) ?_))
  k_with "execs cons For cons" => (k_here; (with_reducible refine nx_cons (G := G) (D := D) (O := O) ?_))
  k_with "execs cons While nil" => (k_here; (with_reducible refine nx_last (G := G) (D := D) (O := O) ?_))
  k_with "execs cons While cons" => (k_here; (with_reducible refine nx_cons (G := G) (D := D) (O := O) ?_))
  k_with "execs cons Try nil" => (k_here; (with_reducible refine nx_last (G := G) (D := D) (O := O) ?_))
  k_with "execs cons Try cons" => (k_here; (with_reducible refine nx_cons (G := G) (D := D) (O := O) ?_))
  trivial
theorem tab_text {a1 oT k1 e1 a2 oD k2 e2 : Value} : kyAt (tabKs a1 oT k1 e1 a2 oD k2 e2) (.inl (Str.ofString ".text")) = some (a1, oT) := rfl
theorem tab_tend {a1 oT k1 e1 a2 oD k2 e2 : Value} : kyAt (tabKs a1 oT k1 e1 a2 oD k2 e2) (.inr [.inl (Str.ofString ".text"), .inl (Str.ofString "end")]) = some (k1, e1) := rfl
theorem tab_data {a1 oT k1 e1 a2 oD k2 e2 : Value} : kyAt (tabKs a1 oT k1 e1 a2 oD k2 e2) (.inl (Str.ofString ".data")) = some (a2, oD) := rfl
theorem tab_dend {a1 oT k1 e1 a2 oD k2 e2 : Value} : kyAt (tabKs a1 oT k1 e1 a2 oD k2 e2) (.inr [.inl (Str.ofString ".data"), .inl (Str.ofString "end")]) = some (k2, e2) := rfl
theorem words22 : True := by
  k_with "tabv" => (first | exact tab_text | exact tab_tend | exact tab_data | exact tab_dend)
  k_with "kykm" => (first | assumption | (refine KyKs.mono ?_ (by assumption); show Sub _ _; k_extra "subz"))
  k_with "subscriptTail!" => ((k_here; (with_reducible show wpAny _ _ (subscriptTail _ _ (Value.ref _) (Value.str _ _)) _ _ _); k_dflt (refine ky_item (k := .inl _) (by k_extra "ct_room") (by k_asm) (by k_mem) (by assumption) (by k_extra "kykm") kyk_s (by k_extra "tabv") ?_)))
  k_with "subscriptTail Name Tuple ref ref" => ((k_here; k_dflt (refine ky_item (k := .inr [.inl _, .inl _]) (by k_extra "ct_room") (by k_asm) (by k_mem) (by assumption) (by k_extra "kykm") (kyk_ss (by k_mem)) (by k_extra "tabv") ?_)))
  k_with "call ref!" => ((k_here; (with_reducible show wpAny _ _ (call (Value.ref 243) _) _ _ _); k_dflt (refine use_ref c (by assumption) (by assumption) hd9 hu9 (find_label_ct (rows := rows) (by k_extra "mono") hlen (by assumption)) rfl rfl nofun ?_); rintro c7 tl7 h7 tk7 F7 N7 hl7 ⟨ta7, tb7, tc7, n7, hm7⟩))
  trivial
inductive PairP (v : Int) (tl : Led) (a : Addr) : Prop
  | mk (v' : Int) (t1 t2 : Tok) (n : Nat) (h : (a, tupObj #[.str (Str.ofString ".text") t1, .int v' t2] n) ∈ tl) (hv : v' = v)
theorem lo_ct {w : World} {news : Led} {p : PA} {rows : List Row} (hP : ProgAt w news p rows) (hlen : rows.length ≤ 10) {d : Addr} {W : Int} (hT : TabAt w news d rows W) {j : Nat} {t : Tok} (hj : j ≤ rows.length) :
    Ct w 10 150 292 [.ref p.P, .ref d, .str (lab j) t] news (RefP (PairP (posn rows W j))) False := by
  obtain ⟨oT, _, _, _, _, _, _, _, _, hT1, hT2, hT3, hT4, hT5, hT6⟩ := hT
  obtain ⟨its, _, ho1, ho2, ho3⟩ := hT5
  have ho4 : its.size = rows.length := by simpa [offs] using ho2
  clear ho2
  refine ct_open3 (by k_is) (by k_is) (by kernel_rfl) rfl rfl rfl ?_; k_extra "ct_in"
  k_steps
  · obtain ⟨tg, hg⟩ := ho3 j _ (offs_get (by omega))
    k_steps
    refine' hr _ _ _ _ _ (by assumption) (ret_spl (by assumption) (by k_extra "k_spl")) (by k_extra "ltz") ?_
    exact ⟨_, rfl, _, _, _, _, by k_mem, by omega⟩
  · refine' hr _ _ _ _ _ (by assumption) (ret_spl (by assumption) (by k_extra "k_spl")) (by k_extra "ltz") ?_
    obtain rfl : j = rows.length := by omega
    exact ⟨_, rfl, _, _, _, _, by k_mem, by omega⟩
theorem TabAt.mono {w : World} {n n' : Led} (s : ∀ p ∈ n, p ∈ n') {d : Addr} {rows : List Row} {W : Int} (h : TabAt w n d rows W) : TabAt w n' d rows W := by
  obtain ⟨o, t1, t2, t3, t4, oT, oD, k1, k2, a1, a2, a3, a4, a5, a6⟩ := h
  exact ⟨o, t1, t2, t3, t4, oT, oD, k1, k2, s _ a1, a2, a3, a4.mono s, a5.mono s, a6.mono s⟩
theorem int_eq {v v' : Int} {t : Tok} (h : v = v') : Value.int v t = Value.int v' t := by rw [h]
theorem words23 : True := by
  k_with "mono" => (first | assumption | (refine ProgAt.mono ?_ (by assumption); show Sub _ _; k_extra "subz") | (refine IntsAt.mono ?_ (by assumption); show Sub _ _; k_extra "subz") | (refine WidAt.mono ?_ (by assumption); show Sub _ _; k_extra "subz") | (refine TabAt.mono ?_ (by assumption); show Sub _ _; k_extra "subz") | (refine AffAt.mono ?_ (by assumption); show Sub _ _; k_extra "subz"))
  k_with "call ref!" => ((k_here; (with_reducible show wpAny _ _ (call (Value.ref 250) _) _ _ _); k_dflt ((first | refine use_same c (by assumption) (by assumption) hd9 hu9 (plain_emp_ct (rows := rows) (by k_extra "mono") hAe) rfl rfl nofun ?_ | refine use_same c (by assumption) (by assumption) hd9 hu9 (plain_leb_ct (rows := rows) (by k_extra "mono") hAe) rfl rfl nofun ?_); intro h6 tk6 F6 N6)))
  k_with "call ref!" => ((k_here; (with_reducible show wpAny _ _ (call (Value.ref 292) _) _ _ _); k_dflt (refine use_ref c (by assumption) (by assumption) hd9 hu9 (lo_ct (rows := rows) (W := W) (by k_extra "mono") hlen (by k_extra "mono") (by assumption)) rfl rfl nofun ?_); rintro c8 tl8 h8 tk8 F8 N8 hl8 ⟨v8, ta8, tb8, n8, hm8, hv8⟩))
  trivial
theorem lw_ct {w : World} {news : Led} {p : PA} {rows : List Row} (hP : ProgAt w news p rows) (hlen : rows.length ≤ 10) {d pa : Addr} {W : Int} (hT : TabAt w news d rows W) {i : Nat} {sg : Bool} {x y : Nat} (hpp : PieceAt w news i pa (.leb sg x y)) (hxl : x ≤ rows.length) (hyl : y ≤ rows.length) :
    Ct w 20 300 299 [.ref p.P, .ref d, .ref pa] news (IntP (LebV rows W x y)) False := by
  cases hpp with
  | leb hq1 hq2 hAe =>
  have hx0 : (lab x == Str.ofString "") = false := beq_eq_false_iff_ne.mpr lab_ne_nil
  have hy0 : (lab y == Str.ofString "") = false := beq_eq_false_iff_ne.mpr lab_ne_nil
  by_cases hxy : x = y
  · subst hxy
    simp only [if_true] at hAe
    have hAe' := hAe
    obtain ⟨_, _, _, _, _, _, _, hf1, hf2⟩ := hAe'
    refine ct_open3 (by k_is) (by k_is) (by kernel_rfl) rfl rfl rfl ?_; k_extra "ct_in"
    k_steps
    refine hr _ [] _ _ _ (by assumption) (news_sub (by assumption) (by k_extra "subz")) lt_nilL ?_
    exact ⟨_, int_eq (by unfold LebV; first | (subst_vars; exact congrArg (fun z => z - _) (Int.zero_add _)) | (subst_vars; rfl) | omega)⟩
  · simp only [if_neg hxy] at hAe
    have hAe' := hAe
    obtain ⟨_, _, _, _, _, _, _, hf1, hf2⟩ := hAe'
    refine ct_open3 (by k_is) (by k_is) (by kernel_rfl) rfl rfl rfl ?_; k_extra "ct_in"
    k_steps
    refine hr _ [] _ _ _ (by assumption) (news_sub (by assumption) (by k_extra "subz")) lt_nilL ?_
    exact ⟨_, int_eq (by unfold LebV; first | (subst_vars; exact congrArg (fun z => z - _) (Int.zero_add _)) | (subst_vars; rfl) | omega)⟩
-- S8
theorem words24 : True := by
  k_with "execs cons If nil" => (k_here; ((with_reducible refine wp_last (G := G) (D := D) (O := O) (by assumption) ?_); intro tk8; (try dsimp only)))
  k_with "execs cons If cons" => (k_here; ((with_reducible refine wp_cons (G := G) (D := D) (O := O) (by assumption) ?_); intro q8 tk8 hq8 hr8; (try dsimp only)))
  k_with "execs cons For nil" => (k_here; ((with_reducible refine wp_last (G := G) (D := D) (O := O) (by assumption) ?_); intro tk8; (try dsimp only)))
  k_with "execs cons For cons" => (k_here; ((with_reducible refine wp_cons (G := G) (D := D) (O := O) (by assumption) ?_); intro q8 tk8 hq8 hr8; (try dsimp only)))
  k_with "execs cons While nil" => (k_here; ((with_reducible refine wp_last (G := G) (D := D) (O := O) (by assumption) ?_); intro tk8; (try dsimp only)))
  k_with "execs cons While cons" => (k_here; ((with_reducible refine wp_cons (G := G) (D := D) (O := O) (by assumption) ?_); intro q8 tk8 hq8 hr8; (try dsimp only)))
  k_with "execs cons Try nil" => (k_here; ((with_reducible refine wp_last (G := G) (D := D) (O := O) (by assumption) ?_); intro tk8; (try dsimp only)))
  k_with "execs cons Try cons" => (k_here; ((with_reducible refine wp_cons (G := G) (D := D) (O := O) (by assumption) ?_); intro q8 tk8 hq8 hr8; (try dsimp only)))
  trivial
theorem lw_ct' {w : World} {news : Led} {p : PA} {rows : List Row} {v : Int} (hP : ProgAt w news p rows) (hlen : rows.length ≤ 10) {d pa : Addr} {W : Int} (hT : TabAt w news d rows W) {i : Nat} {sg : Bool} {x y : Nat} (hvv : LebV rows W x y = v) (hpp : PieceAt w news i pa (.leb sg x y)) (hxl : x ≤ rows.length) (hyl : y ≤ rows.length) :
    Ct w 20 300 299 [.ref p.P, .ref d, .ref pa] news (IntP v) False := by
  subst hvv
  exact lw_ct hP hlen hT hpp hxl hyl
theorem leb_size {sg : Bool} {v : Int} (hv : -8192 ≤ v ∧ v < 8192) (hs : sg = false → 0 ≤ v) : ∃ n : Nat, n ≤ 2 ∧ (n : Int) = needOf sg v ∧ (sg = false → ∀ (w : World) t news, Ct w 6 100 104 [.int v t] news (BytP n) False) ∧ (sg = true → ∀ (w : World) t news, Ct w 6 100 111 [.int v t] news (BytP n) False) := by
  cases sg with
  | false =>
    have := hs rfl
    by_cases hb : v < 128
    · exact ⟨1, by omega, by simp [needOf, hb], fun _ w t news => uleb1 this hb, nofun⟩
    · exact ⟨2, by omega, by simp [needOf, hb], fun _ w t news => uleb2 (by omega) (by omega), nofun⟩
  | true =>
    by_cases hb : -64 ≤ v ∧ v < 64
    · exact ⟨1, by omega, by simp [needOf, hb], nofun, fun _ w t news => sleb1 hb.1 hb.2⟩
    · exact ⟨2, by omega, by simp [needOf, hb], nofun, fun _ w t news => sleb2 hv.1 hv.2 hb⟩
theorem len_byt {prog : Program} {w : World} {A : Around} {E : Value → Shared → Prop} {s : Shared} {b : Array UInt8} {t : Tok} {n : Nat} {Q : Value → Shared → Prop} (hz : b.size = n) (hfit : n ≤ 1099511627776) (h : Q (.int n (s.toks + 1)) { s with toks := s.toks + 1 + 1 }) : wpAny (model prog w) A (call (.builtin "len") [.bytes b t]) Q E s := by
  subst hz
  exact len_bytes hfit h
theorem words25 : True := by
  k_with "call builtin:len!" => ((k_here; k_dflt (refine len_byt (by assumption) (by omega) ?_)))
  k_with "call ref!" => ((k_here; (with_reducible show wpAny _ _ (call (Value.ref 299) _) _ _ _); k_dflt (refine use_int c (by assumption) (by assumption) hd9 hu9 (lw_ct' (rows := rows) (W := W) (by k_extra "mono") hlen (by k_extra "mono") hvv h7m hxl hyl) rfl rfl nofun ?_; intro t8 h8 tk8 F8 N8)))
  k_with "call ref!" => ((k_here; (with_reducible show wpAny _ _ (call (Value.ref 104) _) _ _ _); k_dflt (refine use_byt c (by assumption) (by assumption) hd9 hu9 (hU (by assumption) _ _ _) rfl rfl nofun ?_; intro oa ot h9 tk9 oz F9 N9)))
  k_with "call ref!" => ((k_here; (with_reducible show wpAny _ _ (call (Value.ref 111) _) _ _ _); k_dflt (refine use_byt c (by assumption) (by assumption) hd9 hu9 (hV (by assumption) _ _ _) rfl rfl nofun ?_; intro oa ot h9 tk9 oz F9 N9)))
  trivial
theorem wanted_ct {w : World} {news : Led} {p : PA} {rows : List Row} (hP : ProgAt w news p rows) (hlen : rows.length ≤ 10) {d : Addr} {W W0 : Int} (hT : TabAt w news d rows W) {i : Nat} {sg : Bool} {x y : Nat} {t1 t2 t3 : Tok} (hri : rows[i]? = some (.leb sg x y)) (hxl : x ≤ rows.length) (hyl : y ≤ rows.length)
    {v : Int} (hvv : LebV rows W x y = v) (hv : -8192 ≤ v ∧ v < 8192) (hs : sg = false → 0 ≤ v) :
    Ct w 40 700 313 [.ref p.P, .ref d, .str (Str.ofString ".text") t1, .int i t2, .int W0 t3] news (IntP (max W0 (needOf sg v))) False := by
  have hdP := hP.hdP
  have hdT := hP.hdT
  have h1 := hP.hP
  have h2 := hP.hsec
  have h3 := hP.hS
  have h4 := hP.hT
  have h5 := hP.hTP
  obtain ⟨pa, h6, h7⟩ := hP.hpc i _ hri
  have hi : i < rows.length := (List.getElem?_eq_some_iff.mp hri).1
  obtain ⟨bn, hb2, hbn, hU, hV⟩ := leb_size hv hs
  have h7m := h7
  cases h7 with
  | leb hq1 hq2 hAe =>
  refine ct_open5 (by k_is) (by k_is) (by kernel_rfl) rfl rfl rfl ?_; k_extra "ct_in"
  k_steps
  all_goals (refine hr _ [] _ _ _ (by assumption) (news_sub (by assumption) (by k_extra "subz")) lt_nilL ?_; exact ⟨_, int_eq (by rw [← hbn]; first | exact ar_max | omega | (simp only [Int.max_def]; split <;> (try split) <;> omega))⟩)
-- S9
theorem words26 : True := by
  k_with "call ref!" => ((k_here; (with_reducible show wpAny _ _ (call (Value.ref 313) _) _ _ _); k_dflt (refine use_int c (by assumption) (by assumption) hd9 hu9 (wanted_ct (rows := rows) (W := W) (by k_extra "mono") hlen (by k_extra "mono") hri hxl hyl hvv hv hs) rfl rfl nofun ?_; intro t8 h8 tk8 F8 N8)))
  k_with "last pyIter ref!" => ((k_here; (with_reducible show wpAny _ _ _ (fun it s₂ => TurnsAt _ _ _ _ _ _ _ _ _ it s₂) _ _); k_dflt (first | (refine iterK1 rfl (by k_asm) (by k_asm) (by k_mem) (by assumption) (by assumption) ?_; intro Izq l1zq) | (refine iterK0 rfl (by k_asm) (by k_asm) (by k_mem) (by assumption) (by assumption) ?_; intro Izq l1zq))))
  k_with "setItem ref str!" => ((k_here; k_dflt (refine kda_set (knd := PySem.strKind _ _) (by k_asm) (by k_asm) (by k_updF) (by assumption) (strKind_is _ _ _ _) (Nat.le_of_ble_eq_true (by kernel_rfl)) ?_; intro hzq ozq Fzq Nzq hdzq; (try dsimp only at Nzq); (try simp only [stored1, stored_td] at hdzq))))
  k_with "setItem ref int!" => ((k_here; k_dflt (refine kda_set (knd := PySem.intKind _ _) (by k_asm) (by k_asm) (by k_updF) (by assumption) (decide_eq_true rfl) (Nat.le_of_ble_eq_true (by kernel_rfl)) ?_; intro hzq ozq Fzq Nzq hdzq; (try dsimp only at Nzq); (try simp only [stored1] at hdzq))))
  k_with "subscriptTail Subscript Name Name Name ref int!" => ((k_here; k_dflt (refine kd_sub (knd := PySem.intKind _ _) (by k_asm) (by k_mem) (by assumption) (decide_eq_true rfl) (by first | assumption | exact val1) ?_)))
  k_with "k_updF" => ((apply updF_app; (focus (k_all)); (focus (k_updF))))
  k_with "my_sub" => ((k_here; (with_reducible show wpAny _ _ (subscriptTail _ _ (Value.ref _) (Value.str _ _)) _ _ _); k_dflt (refine kd_sub (knd := PySem.strKind _ _) (by k_asm) (by k_mem) (by assumption) (strKind_is _ _ _ _) (by first | assumption | exact val1 | exact val_td_t | exact val_td_d) ?_)))
  k_with "getItem ref str!" => ((k_here; k_dflt (refine kdt_getItem (knd := PySem.strKind _ _) (by k_asm) (by k_mem) (by assumption) (strKind_is _ _ _ _) (by first | assumption | exact val1 | exact val_td_t | exact val_td_d) ?_)))
  k_with "subscriptTail!" => (k_extra "my_sub")
  k_with "subscriptTail Name Name ref str" => (k_extra "my_sub")
  k_with "subscriptTail Attribute Name Name ref str" => (k_extra "my_sub")
  k_with "subscriptTail Name Constant ref str" => (k_extra "my_sub")
  k_with "subscriptTail Attribute Name Constant ref str" => (k_extra "my_sub")
  k_with "subscriptTail Subscript Name Name Name ref str" => (k_extra "my_sub")
  trivial
noncomputable def finN (rows : List Row) (lb : Option Nat) (W : Int) : Int :=
  match lb with
  | none => W
  | some i => match rows[i]? with
    | some (.leb sg x y) => max W (needOf sg (LebV rows W x y))
    | _ => W
noncomputable def LebOk (rows : List Row) (W : Int) : Prop := ∀ (i : Nat) sg x y, rows[i]? = some (.leb sg x y) → x ≤ rows.length ∧ y ≤ rows.length ∧ (-8192 ≤ LebV rows W x y ∧ LebV rows W x y < 8192) ∧ (sg = false → 0 ≤ LebV rows W x y)
inductive LenP (w : World) (ch : Bool) (lb : Option Nat) (W : Int) (tl : Led) (c : Addr) : Prop
  | mk (f : Addr) (n : Nat) (h : (c, tupObj #[.ref f, .bool ch] n) ∈ tl) (hw : WidsAt w tl f lb W)
theorem lengthened_none {w : World} {news : Led} {p : PA} {rows : List Row} (hP : ProgAt w news p rows) {d wd : Addr} {W : Int} (hw : WidsAt w news wd none W) :
    Ct w 50 900 327 [.ref p.P, .ref d, .ref wd] news (RefP (LenP w false none W)) False := by
  have hdP := hP.hdP
  have hnm := hP.hnm
  have h1 := hP.hP
  obtain ⟨oW, wa, wb, hw1, hw2, hw3, hw4, hw5⟩ := hw
  obtain ⟨oA, ta, hA1, hA2, hA3⟩ := hw4
  obtain ⟨oB, tb, hB1, hB2, hB3⟩ := hw5
  simp only [widKvs] at hA3 hB3
  refine ct_open3 (by k_is) (by k_is) (by kernel_rfl) rfl rfl rfl ?_; k_extra "ct_in"
  k_steps
  refine' hr _ _ _ _ _ (by assumption) (ret_spl (by assumption) (by k_extra "k_spl")) (by k_extra "ltz") ?_
  exact ⟨_, rfl, _, _, by k_mem, _, _, _, by k_mem, by assumption, by assumption, ⟨_, 0, by k_mem, by assumption, by assumption⟩, ⟨_, 0, by k_mem, by assumption, by assumption⟩⟩
theorem lengthened_some {w : World} {news : Led} {p : PA} {rows : List Row} (hP : ProgAt w news p rows) (hlen : rows.length ≤ 10) {d wd : Addr} {W : Int} {i : Nat} (hT : TabAt w news d rows W) (hw : WidsAt w news wd (some i) W) {sg : Bool} {x y : Nat} (hri : rows[i]? = some (.leb sg x y)) (hxl : x ≤ rows.length) (hyl : y ≤ rows.length)
    {v : Int} (hvv : LebV rows W x y = v) (hv : -8192 ≤ v ∧ v < 8192) (hs : sg = false → 0 ≤ v) :
    Ct w 50 900 327 [.ref p.P, .ref d, .ref wd] news (RefP (LenP w (max W (needOf sg v) != W) (some i) (max W (needOf sg v)))) False := by
  have hdP := hP.hdP
  have hnm := hP.hnm
  have h1 := hP.hP
  obtain ⟨oW, wa, wb, hw1, hw2, hw3, hw4, hw5⟩ := hw
  obtain ⟨oA, ta, hA1, hA2, hA3⟩ := hw4
  obtain ⟨oB, tb, hB1, hB2, hB3⟩ := hw5
  simp only [widKvs] at hA3 hB3
  refine ct_open3 (by k_is) (by k_is) (by kernel_rfl) rfl rfl rfl ?_; k_extra "ct_in"
  k_steps
  refine' hr _ _ _ _ _ (by assumption) (ret_spl (by assumption) (by k_extra "k_spl")) (by k_extra "ltz") ?_
  exact ⟨_, rfl, _, _, by k_mem, _, _, _, by k_mem, by assumption, by assumption, ⟨_, t8, by k_mem, by assumption, by assumption⟩, ⟨_, 0, by k_mem, by assumption, by assumption⟩⟩
theorem lengthened_ct {w : World} {news : Led} {p : PA} {rows : List Row} (hP : ProgAt w news p rows) (hlen : rows.length ≤ 10) {lb : Option Nat} (hlb : LebIs rows lb) {d wd : Addr} {W : Int} (hT : TabAt w news d rows W) (hL : LebOk rows W) (hw : WidsAt w news wd lb W) :
    Ct w 50 900 327 [.ref p.P, .ref d, .ref wd] news (RefP (LenP w (finN rows lb W != W) lb (finN rows lb W))) False := by
  cases lb with
  | none =>
    have e : (finN rows none W != W) = false := by simp [finN]
    rw [e]
    exact lengthened_none hP hw
  | some i =>
    obtain ⟨sg, x, y, hri⟩ := (hlb i).mpr rfl
    obtain ⟨hxl, hyl, hv, hs⟩ := hL i sg x y hri
    have e : finN rows (some i) W = max W (needOf sg (LebV rows W x y)) := by simp [finN, hri]
    rw [e]
    exact lengthened_some hP hlen hT hw hri hxl hyl rfl hv hs
-- Q2
theorem needOf_cases (sg : Bool) (v : Int) : needOf sg v = 1 ∨ needOf sg v = 2 := by
  unfold needOf
  split <;> split <;> simp
theorem finN_cases {rows : List Row} {lb : Option Nat} : finN rows lb 1 = 1 ∨ finN rows lb 1 = 2 := by
  unfold finN
  split
  · exact .inl rfl
  · split
    · rename_i sg x y _
      rcases needOf_cases sg (LebV rows 1 x y) with h | h <;> rw [h] <;> decide
    · exact .inl rfl
theorem finN_two {rows : List Row} {lb : Option Nat} : finN rows lb 2 = 2 := by
  unfold finN
  split
  · rfl
  · split
    · rename_i sg x y _
      rcases needOf_cases sg (LebV rows 2 x y) with h | h <;> rw [h] <;> decide
    · rfl
theorem finN_fix {rows : List Row} {lb : Option Nat} : finN rows lb (finN rows lb 1) = finN rows lb 1 := by
  rcases finN_cases (rows := rows) (lb := lb) with h | h
  · rw [h]; exact h
  · rw [h]; exact finN_two
noncomputable def WSt (rows : List Row) (lb : Option Nat) (n : Nat) (W : Int) (b : Bool) : Prop :=
  (b = true → (n = 2 ∧ W = 1) ∨ (n = 1 ∧ W = finN rows lb 1)) ∧ (b = false → W = finN rows lb 1 ∧ Fine rows (finN rows lb 1) true rows.length)
theorem wst_0 {rows : List Row} {lb : Option Nat} : WSt rows lb 2 1 true := ⟨fun _ => .inl ⟨rfl, rfl⟩, nofun⟩
theorem wst_W {rows : List Row} {lb : Option Nat} {n : Nat} {W : Int} (h : WSt rows lb n W true) : W = 1 ∨ W = finN rows lb 1 := (h.1 rfl).elim (fun x => .inl x.2) (fun x => .inr x.2)
theorem wst_fin {rows : List Row} {lb : Option Nat} {n : Nat} {W : Int} (h : WSt rows lb n W true) : finN rows lb W = finN rows lb 1 := by
  rcases wst_W h with rfl | rfl
  · rfl
  · exact finN_fix
theorem wst_exc {rows : List Row} {lb : Option Nat} {n : Nat} {W : Int} (h : WSt rows lb n W true) (hf : ¬ Fine rows (finN rows lb W) (!(finN rows lb W != W)) rows.length) : ¬ Fine rows (finN rows lb 1) true rows.length := by
  rw [wst_fin h] at hf
  intro hF
  apply hf
  cases hb : (!(finN rows lb 1 != W))
  · exact fine_weak hF
  · exact hF
theorem wst_next {rows : List Row} {lb : Option Nat} {n : Nat} {W : Int} (h : WSt rows lb n W true) (hf : Fine rows (finN rows lb W) (!(finN rows lb W != W)) rows.length) : ∃ n', n' < n ∧ WSt rows lb n' (finN rows lb W) (finN rows lb W != W) := by
  have e := wst_fin h
  rw [e] at hf ⊢
  rcases h.1 rfl with ⟨rfl, rfl⟩ | ⟨rfl, rfl⟩
  · cases hb : (finN rows lb 1 != 1)
    · rw [hb] at hf
      exact ⟨0, by omega, nofun, fun _ => ⟨rfl, hf⟩⟩
    · exact ⟨1, by omega, fun _ => .inr ⟨rfl, rfl⟩, nofun⟩
  · have hb : (finN rows lb 1 != finN rows lb 1) = false := by simp
    rw [hb] at hf ⊢
    exact ⟨0, by omega, nofun, fun _ => ⟨rfl, hf⟩⟩
inductive OffR : KL → List (Str × Nat × Int) → Prop
  | nil : OffR [] []
  | snoc {xs : KL} {sp : List (Str × Nat × Int)} {nm : Str} {i : Nat} {v : Int} {kv : Value} {t : Tok} : OffR xs sp → OffR (xs ++ [(.inr [.inl nm, .inr (i : Int)], kv, .int v t)]) (sp ++ [(nm, i, v)])
theorem kyAt_app {xs ys : KL} {k : KY} : kyAt (xs ++ ys) k = (kyAt xs k).or (kyAt ys k) := by
  unfold kyAt
  rw [List.find?_append]
  cases List.find? (fun x => decide (x.1 = k)) xs <;> rfl
theorem offR_none {xs : KL} {sp : List (Str × Nat × Int)} (h : OffR xs sp) {nm : Str} {i : Nat} (hno : ∀ v, (nm, i, v) ∉ sp) : kyAt xs (.inr [.inl nm, .inr (i : Int)]) = none := by
  induction h with
  | nil => rfl
  | snoc h ih =>
    rename_i xs' sp' nm' i' v' kv' t'
    rw [kyAt_app, ih (fun v hv => hno v (List.mem_append_left _ hv))]
    have : ¬ (nm' = nm ∧ (i' : Int) = (i : Int)) := by
      rintro ⟨rfl, e⟩
      have : i' = i := by omega
      subst this
      exact hno v' (List.mem_append_right _ (.head _))
    simp [kyAt, List.find?_cons, this]
theorem offR_some {xs : KL} {sp : List (Str × Nat × Int)} (h : OffR xs sp) {nm : Str} {i : Nat} {v : Int} (hm : (nm, i, v) ∈ sp) (hu : ∀ v', (nm, i, v') ∈ sp → v' = v) : ∃ kv t, kyAt xs (.inr [.inl nm, .inr (i : Int)]) = some (kv, .int v t) := by
  induction h with
  | nil => cases hm
  | snoc h ih =>
    rename_i xs' sp' nm' i' v' kv' t'
    by_cases hin : (nm, i, v) ∈ sp'
    · obtain ⟨kv, t, e⟩ := ih hin (fun v'' hv => hu v'' (List.mem_append_left _ hv))
      exact ⟨kv, t, by rw [kyAt_app, e]; rfl⟩
    · have hno : ∀ v'', (nm, i, v'') ∉ sp' := fun v'' hv => hin (by
        have := hu v'' (List.mem_append_left _ hv)
        rwa [this] at hv)
      rcases List.mem_append.mp hm with hm | hm
      · exact absurd hm hin
      · have e := List.mem_singleton.mp hm
        injection e with e1 e2
        injection e2 with e2 e3
        subst e1 e2 e3
        refine ⟨kv', t', ?_⟩
        rw [kyAt_app, offR_none h hno]
        simp [kyAt, List.find?_cons]
theorem offR_len {xs : KL} {sp : List (Str × Nat × Int)} (h : OffR xs sp) : xs.length = sp.length := by
  induction h with
  | nil => rfl
  | snoc h ih => simp [ih]
noncomputable def specT (rows : List Row) (W : Int) (n : Nat) : List (Str × Nat × Int) := (List.range n).map fun i => (Str.ofString ".text", i, posn rows W i)
noncomputable def specO (rows : List Row) (W : Int) : List (Str × Nat × Int) := specT rows W rows.length ++ [(Str.ofString ".data", 0, 0)]
noncomputable def specW (lb : Option Nat) (W : Int) : List (Str × Nat × Int) :=
  match lb with
  | none => []
  | some i => [(Str.ofString ".text", i, W)]
structure LA where
  (y dY dO dW dL : Addr)
  (oO oW oL : Obj)
structure LayAt (w : World) (news : Led) (q : LA) (rows : List Row) (lb : Option Nat) (W : Int) : Prop where
  hy : (q.y, instObj 225 q.dY) ∈ news
  hd : ∃ k1 k2 k3, (q.dY, dictOf [ent w "offsets" k1 (.ref q.dO), ent w "widths" k2 (.ref q.dW), ent w "lengths" k3 (.ref q.dL)] 3) ∈ news
  hO : (q.dO, q.oO) ∈ news
  lO : (q.dO == sysModules) = false
  hW : (q.dW, q.oW) ∈ news
  lW : (q.dW == sysModules) = false
  hL : (q.dL, q.oL) ∈ news
  lL : (q.dL == sysModules) = false
  kO : ∃ xs, KyObj w q.oO xs ∧ KyKs w news xs ∧ OffR xs (specO rows W)
  kW : ∃ xs, KyObj w q.oW xs ∧ KyKs w news xs ∧ OffR xs (specW lb W)
  kL : ∃ t1 t2, Obj.IsDictOf (PySem.strKind PG w) q.oL [(Str.ofString ".text", .int (posn rows W rows.length) t1), (Str.ofString ".data", .int 2 t2)]
theorem LayAt.mono {w : World} {n n' : Led} (s : ∀ p ∈ n, p ∈ n') {q : LA} {rows : List Row} {lb : Option Nat} {W : Int} (h : LayAt w n q rows lb W) : LayAt w n' q rows lb W where
  hy := s _ h.hy
  hd := let ⟨a, b, c, x⟩ := h.hd; ⟨a, b, c, s _ x⟩
  hO := s _ h.hO
  lO := h.lO
  hW := s _ h.hW
  lW := h.lW
  hL := s _ h.hL
  lL := h.lL
  kO := let ⟨xs, a, b, c⟩ := h.kO; ⟨xs, a, b.mono s, c⟩
  kW := let ⟨xs, a, b, c⟩ := h.kW; ⟨xs, a, b.mono s, c⟩
  kL := h.kL
-- Q3
theorem words27 : True := by
  k_with "passes_own" => (assumption)
  trivial
theorem stored_new {K : Type} [DecidableEq K] {kvs : List (K × Value)} {k : K} {v : Value} (h : valueAt kvs k = none) : stored kvs k v = kvs ++ [(k, v)] := by
  have h' : ¬ (kvs.any fun kv => decide (kv.1 = k)) = true := by
    intro ha
    obtain ⟨x, hx, he⟩ := List.any_eq_true.mp ha
    unfold valueAt at h
    rw [Option.map_eq_none_iff, List.find?_eq_none] at h
    exact h x hx he
  unfold stored
  rw [if_neg h']
noncomputable def partO (nm : Str) (os : List Int) (n : Nat) : List (Str × Nat × Int) := (List.range n).map fun i => (nm, i, os.getD i 0)
theorem partO_succ {nm : Str} {os : List Int} {n : Nat} : partO nm os (n + 1) = partO nm os n ++ [(nm, n, os.getD n 0)] := by
  simp [partO, List.range_succ]
theorem partO_no {nm : Str} {os : List Int} {n : Nat} {v : Int} : (nm, n, v) ∉ partO nm os n := by
  intro h
  simp only [partO, List.mem_map, List.mem_range] at h
  obtain ⟨a, ha, e⟩ := h
  injection e with _ e
  injection e with e _
  omega
noncomputable def specOj (rows : List Row) (W : Int) : Nat → List (Str × Nat × Int)
  | 0 => []
  | 1 => specT rows W rows.length
  | _ => specO rows W
noncomputable def specWn (nm : Str) (lb : Option Nat) (W : Int) : List (Str × Nat × Int) :=
  match lb with
  | none => []
  | some i => [(nm, i, W)]
theorem specW_eq {lb : Option Nat} {W : Int} : specW lb W = specWn (Str.ofString ".text") lb W := by cases lb <;> rfl
noncomputable def specWj (lb : Option Nat) (W : Int) : Nat → List (Str × Nat × Int)
  | 0 => []
  | _ => specW lb W
noncomputable def lenKvs (rows : List Row) (W : Int) (t1 t2 : Tok) : Nat → List (Str × Value)
  | 0 => []
  | 1 => [(Str.ofString ".text", .int (posn rows W rows.length) t1)]
  | _ => [(Str.ofString ".text", .int (posn rows W rows.length) t1), (Str.ofString ".data", .int 2 t2)]
structure TD (w : World) (led : Led) (rows : List Row) (lb : Option Nat) (W : Int) (t1 t2 : Tok) (tabs : KL) (wids : List (Str × Value)) (j : Nat) (nm : Str) (oT wx : Addr) (os : List Int) (lb' : Option Nat) (W' e : Int) (te : Tok) (kv kv2 : Value) : Prop where
  h1 : kyAt tabs (.inl nm) = some (kv, .ref oT)
  h2 : kyAt tabs (.inr [.inl nm, .inl (Str.ofString "end")]) = some (kv2, .int e te)
  h3 : IntsAt led oT os
  h4 : valueAt wids nm = some (.ref wx)
  h5 : WidAt w led wx lb' W'
  h6 : ∀ i v, (nm, i, v) ∉ specOj rows W j
  h7 : specOj rows W (j + 1) = specOj rows W j ++ partO nm os os.length
  h8 : ∀ i v, (nm, i, v) ∉ specWj lb W j
  h9 : specWj lb W (j + 1) = specWj lb W j ++ specWn nm lb' W'
  h10 : lenKvs rows W t1 t2 (j + 1) = lenKvs rows W t1 t2 j ++ [(nm, .int e te)]
  h11 : valueAt (lenKvs rows W t1 t2 j) nm = none
  h12 : os.length ≤ 10
  h13 : (specOj rows W j).length ≤ 20
  h14 : (specWj lb W j).length ≤ 2
theorem specT_part {rows : List Row} {W : Int} : specT rows W rows.length = partO (Str.ofString ".text") (offs rows W rows.length) (offs rows W rows.length).length := by
  have e : (offs rows W rows.length).length = rows.length := by simp [offs]
  rw [e]
  unfold specT partO
  refine List.map_congr_left fun i hi => ?_
  have hi' := List.mem_range.mp hi
  rw [List.getD_eq_getElem?_getD, offs_get hi']
  rfl
theorem td_names {a b : Str} (h : a ≠ b) {i : Nat} {v : Int} {os : List Int} {n : Nat} : (a, i, v) ∉ partO b os n := by
  intro hm
  simp only [partO, List.mem_map, List.mem_range] at hm
  obtain ⟨k, _, e⟩ := hm
  injection e with e _
  exact h e.symm
theorem td_all {w : World} {led : Led} {rows : List Row} {lb : Option Nat} {W : Int} (hn : rows.length ≤ 10) {a1 a2 : Value} {oT oD : Addr} {k1 k2 : Value} {t1 t2 u1 u2 : Tok} {wa wb : Addr}
    (hT : IntsAt led oT (offs rows W rows.length)) (hD : IntsAt led oD [0]) (hwa : WidAt w led wa lb W) (hwb : WidAt w led wb none 1) {j : Nat} {v : Value}
    (hv : [Value.str (Str.ofString ".text") u1, .str (Str.ofString ".data") u2][j]? = some v) :
    ∃ nm t oT' wx os lb' W' e te kv kv2, v = .str nm t ∧ TD w led rows lb W t1 t2 (tabKs a1 (.ref oT) k1 (.int (posn rows W rows.length) t1) a2 (.ref oD) k2 (.int 2 t2)) [(Str.ofString ".text", .ref wa), (Str.ofString ".data", .ref wb)] j nm oT' wx os lb' W' e te kv kv2 := by
  match j, hv with
  | 0, hv =>
    obtain rfl := Option.some.inj hv
    refine ⟨_, _, oT, wa, _, lb, W, _, _, _, _, rfl, ⟨tab_text, tab_tend, hT, rfl, hwa, (fun i v h => nomatch h), ?_, (fun i v h => nomatch h), ?_, rfl, rfl, ?_, Nat.zero_le _, Nat.zero_le _⟩⟩
    · show specT rows W rows.length = [] ++ _
      rw [List.nil_append]; exact specT_part
    · show specW lb W = [] ++ _
      rw [List.nil_append]; exact specW_eq
    · simpa [offs] using hn
  | 1, hv =>
    obtain rfl := Option.some.inj hv
    refine ⟨_, _, oD, wb, _, none, 1, _, _, _, _, rfl, ⟨tab_data, tab_dend, hD, rfl, hwb, fun i v h => ?_, rfl, fun i v h => ?_, ?_, rfl, rfl, by decide, ?_, ?_⟩⟩
    · change _ ∈ specT rows W rows.length at h
      rw [specT_part] at h
      exact td_names (by decide) h
    · change _ ∈ specW lb W at h
      cases lb with
      | none => cases h
      | some k =>
        have e := List.mem_singleton.mp h
        injection e with e _
        exact absurd e (by decide)
    · show specW lb W = specW lb W ++ []
      rw [List.append_nil]
    · show (specT rows W rows.length).length ≤ 20
      simp [specT]; omega
    · show (specW lb W).length ≤ 2
      cases lb <;> simp [specW]
theorem off_ge {D d : Addr} {l : List (Addr × Obj)} (h : ∀ p ∈ l, D < p.1) (hd : @LE.le Nat _ d D) : ∀ p ∈ l, p.1 ≠ d := fun p hp => Nat.ne_of_gt (Nat.lt_of_le_of_lt hd (h p hp))
noncomputable abbrev lay3 (dO dW dL : Addr) (oO oW oL : Obj) (base : Led) : Led := (dL, oL) :: (dW, oW) :: (dO, oO) :: base
inductive JO (w : World) (pP wd td y dO dW dL : Addr) (base : Led) (rows : List Row) (lb : Option Nat) (W : Int) (t1 t2 : Tok) (j : Nat) (m : SMap) (l : Led) : Prop
  | mk (oO oW oL : Obj) (tl : Led) (xs ws : KL) (o1 : @LT.lt Nat _ dO dL) (o2 : @LT.lt Nat _ dW dL) (o3 : @LT.lt Nat _ dO dW) (e1 : m (Str.ofString "program") = some (.ref pP)) (e2 : m (Str.ofString "widths") = some (.ref wd)) (e3 : m (Str.ofString "tables") = some (.ref td)) (e4 : m (Str.ofString "layout") = some (.ref y))
    (el : l = tl ++ lay3 dO dW dL oO oW oL base) (g1 : ∀ p ∈ tl, dL < p.1) (g2 : Lt base tl)
    (kO : KyObj w oO xs) (kOk : KyKs w tl xs) (rO : OffR xs (specOj rows W j)) (kW : KyObj w oW ws) (kWk : KyKs w tl ws) (rW : OffR ws (specWj lb W j)) (kL : Obj.IsDictOf (PySem.strKind PG w) oL (lenKvs rows W t1 t2 j))
inductive JI (w : World) (pP wd td y : Addr) (nm : Str) (tn : Tok) (dO dW dL I : Addr) (oW oL oI : Obj) (tl0 base : Led) (sp : List (Str × Nat × Int)) (os : List Int) (i : Nat) (m : SMap) (l : Led) : Prop
  | mk (oO : Obj) (tl : Led) (xs : KL) (e1 : m (Str.ofString "program") = some (.ref pP)) (e2 : m (Str.ofString "widths") = some (.ref wd)) (e3 : m (Str.ofString "tables") = some (.ref td)) (e4 : m (Str.ofString "layout") = some (.ref y)) (e5 : m (Str.ofString "name") = some (.str nm tn))
    (el : l = tl ++ (((I, oI) :: tl0) ++ lay3 dO dW dL oO oW oL base)) (g3 : ∀ p ∈ tl, dL < p.1) (g4 : ∀ p ∈ tl, p.1 ≠ I) (g5 : Lt base tl)
    (kO : KyObj w oO xs) (kOk : KyKs w (tl ++ tl0) xs) (rO : OffR xs (sp ++ partO nm os i))
theorem jo_0 {w : World} {pP wd td y dO dW dL : Addr} {oO oW oL : Obj} {base : Led} {rows : List Row} {lb : Option Nat} {W : Int} {t1 t2 : Tok} {m₀ : Str → Option Value}
    (o1 : @LT.lt Nat _ dO dL) (o2 : @LT.lt Nat _ dW dL) (o3 : @LT.lt Nat _ dO dW) (e1 : m₀ (Str.ofString "program") = some (.ref pP)) (e2 : m₀ (Str.ofString "widths") = some (.ref wd)) (e3 : m₀ (Str.ofString "tables") = some (.ref td)) (e4 : m₀ (Str.ofString "layout") = some (.ref y))
    (hO : Obj.IsDictOf (PySem.strKind PG w) oO []) (hW : Obj.IsDictOf (PySem.strKind PG w) oW []) (hL : Obj.IsDictOf (PySem.strKind PG w) oL []) : JO w pP wd td y dO dW dL base rows lb W t1 t2 0 m₀ (lay3 dO dW dL oO oW oL base) := by
  refine ⟨oO, oW, oL, [], [], [], o1, o2, o3, e1, e2, e3, e4, rfl, List.forall_mem_nil _, fun _ _ => List.forall_mem_nil _, ky_empty hO, List.forall_mem_nil _, .nil, ky_empty hW, List.forall_mem_nil _, .nil, hL⟩
section
variable {w : World} {A : Around} {E : Value → Shared → Prop} {env : Env} {h₀ : Heap} {body : List Stmt} {Q : Flow → Shared → Prop} {hp : Heap} {G : Array GenState} {D : Drawn} {t0 : Nat} {O : OsState} {L : Addr}
theorem lp_while {test : Expr} {pos : Pos} {m : SMap} {news : Led} (J : Nat → SMap → Led → Prop) {n₀ : Nat}
    (F : Fr h₀ L hp m) (N : News h₀ L hp news) (hJ : J n₀ m news)
    (turn : ∀ n m₁ n₁ h₁ tk₁ (q : Flow → Shared → Prop), J n m₁ n₁ → Fr h₀ L h₁ m₁ → News h₀ L h₁ n₁ → (∀ n' h' tk' m' nn, n' < n → Fr h₀ L h' m' → News h₀ L h' nn → J n' m' nn → q .next ⟨h', G, D, tk', O⟩) →
      wpAny (model PG w) A (isTrue test env (eval test env)) (fun b s₂ => if b = true then wpAny (model PG w) A (execs body env) q E s₂ else Q .next s₂) E ⟨h₁, G, D, tk₁, O⟩)
    (hE : PassesOwn (model PG w) A env E := by passes_own) :
    wpAny (model PG w) A (exec (.While test body [] pos) env) Q E ⟨hp, G, D, t0, O⟩ :=
  While_inv (s := ⟨hp, G, D, t0, O⟩) J F N hJ (fun n m₁ n₁ h₁ tk₁ F N j => turn n m₁ n₁ h₁ tk₁ _ j F N fun n' h' tk' m' nn lt F N j => WhileStep.intro F N lt j) hE
theorem fill_inner {elts : List Expr} {ke : Nat} {pe : Pos} {pP wd td y dO dW dL l I : Addr} {oO oW oL oI : Obj} {tl base : Led} {nm : Str} {tn : Tok} {its : Array Value} {os : List Int} {sp : List (Str × Nat × Int)} {xs : KL} {k : Nat} {m₀ : SMap}
    (hL : env.locals = L) (hh : A.handled = none) (F : Fr h₀ L hp m₀) (N : News h₀ L hp ((I, oI) :: (tl ++ lay3 dO dW dL oO oW oL base))) (hm : (l, PySem.W.listOf its k) ∈ base)
    (e1 : m₀ (Str.ofString "program") = some (.ref pP)) (e2 : m₀ (Str.ofString "widths") = some (.ref wd)) (e3 : m₀ (Str.ofString "tables") = some (.ref td)) (e4 : m₀ (Str.ofString "layout") = some (.ref y)) (e5 : m₀ (Str.ofString "name") = some (.str nm tn))
    (kO : KyObj w oO xs) (kOk : KyKs w tl xs) (rO : OffR xs sp) (ho2 : its.size = os.length) (ho3 : ∀ (j : Nat) v, os[j]? = some v → ∃ t, its[j]? = some (Value.int v t))
    (turn : ∀ I2 oI2 oJ2 i t T t2 m₁ n₁ h tk (q : Flow → Shared → Prop), i < os.length → IsTup h T #[.int (i : Nat) t2, .int (os.getD i 0) t] → (l, PySem.W.listOf its.toList.toArray k) ∈ n₁ → JI w pP wd td y nm tn dO dW dL I oW oL oI tl base sp os i m₁ n₁ → Fr h₀ L h m₁ → News h₀ L h ((I2 + 1, oI2) :: (I2, oJ2) :: n₁) → (∀ p ∈ n₁, p.1 ≠ I2 ∧ p.1 ≠ I2 + 1) → (∀ v s', Q (.ret v) s' → q (.ret v) s') →
      (∀ h' tk' m' n', Fr h₀ L h' m' → News h₀ L h' ((I2 + 1, oI2) :: (I2, oJ2) :: n') → (∀ p ∈ n', p.1 ≠ I2 ∧ p.1 ≠ I2 + 1) → (l, PySem.W.listOf its.toList.toArray k) ∈ n' → JI w pP wd td y nm tn dO dW dL I oW oL oI tl base sp os (i + 1) m' n' → q .next ⟨h', G, D, tk', O⟩) →
      wpAny (model PG w) A (assign (.Tuple elts ke pe) env (.ref T)) (fun _ s₂ => wpAny (model PG w) A (execs body env) q E s₂) E ⟨h, G, D, tk, O⟩)
    (done : ∀ m₁ n₁ h tk, JI w pP wd td y nm tn dO dW dL I oW oL oI tl base sp os os.length m₁ n₁ → Fr h₀ L h m₁ → News h₀ L h n₁ → Q .next ⟨h, G, D, tk, O⟩) :
    wpAny (model PG w) A (call (.type "enumerate") [.ref l]) (fun xv s₁ => wpAny (model PG w) A (pyIter xv) (fun it s₂ => TurnsAt PG w A h₀ env (.Tuple elts ke pe) body Q E it s₂) E s₁) E ⟨hp, G, D, t0, O⟩ := by
  have hlen : its.toList.length = os.length := by rw [Array.length_toList]; exact ho2
  refine lp_enum (vs := its.toList) (JI w pP wd td y nm tn dO dW dL I oW oL oI tl base sp os) hL hh F N (k := k) (l := l) ?_ ?_ ?_ ?_
  · rw [Array.toArray_toList]
    exact .tail _ (List.mem_append_right _ (.tail _ (.tail _ (.tail _ hm))))
  · exact ⟨oO, [], xs, e1, e2, e3, e4, e5, rfl, List.forall_mem_nil _, List.forall_mem_nil _, fun _ _ => List.forall_mem_nil _, kO, kOk, by
      have : partO nm os 0 = [] := rfl
      rw [this, List.append_nil]; exact rO⟩
  · intro I2 oI2 oJ2 i v T t2 m₁ n₁ h tk q hv hT hmem hj F₁ N₁ off hr7 hn7
    have hi : i < os.length := by have := (List.getElem?_eq_some_iff.mp hv).1; omega
    obtain ⟨t, ht⟩ := ho3 i (os.getD i 0) (by rw [List.getD_eq_getElem?_getD, List.getElem?_eq_getElem hi]; rfl)
    obtain rfl : v = .int (os.getD i 0) t := by
      rw [Array.getElem?_toList, ht] at hv; exact (Option.some.inj hv).symm
    exact turn I2 oI2 oJ2 i t T t2 m₁ n₁ h tk q hi hT hmem hj F₁ N₁ off hr7 hn7
  · intro m₁ n₁ h tk hj _ F₁ N₁
    rw [hlen] at hj
    exact done m₁ n₁ h tk hj F₁ N₁
end
theorem lay_chg {P : Addr → Prop} {I dO dW dL : Addr} {oI oO oO' oW oW' oL oL' : Obj} {tl' tl base : Led} (h : ∀ p ∈ tl' ++ (((I, oI) :: tl) ++ lay3 dO dW dL oO oW oL base), P p.1) : ∀ p ∈ tl' ++ (((I, oI) :: tl) ++ lay3 dO dW dL oO' oW' oL' base), P p.1 := by
  have h2 : ∀ p ∈ ((I, oI) :: tl) ++ lay3 dO dW dL oO oW oL base, P p.1 := fun p hp => h p (List.mem_append_right _ hp)
  have hb : ∀ p ∈ lay3 dO dW dL oO oW oL base, P p.1 := fun p hp => h2 p (List.mem_append_right _ hp)
  have hb' : ∀ p ∈ lay3 dO dW dL oO' oW' oL' base, P p.1 := List.forall_mem_cons.mpr ⟨hb (dL, oL) (.head _), List.forall_mem_cons.mpr ⟨hb (dW, oW) (.tail _ (.head _)), List.forall_mem_cons.mpr ⟨hb (dO, oO) (.tail _ (.tail _ (.head _))), fun p hp => hb p (.tail _ (.tail _ (.tail _ hp)))⟩⟩⟩
  exact fun p hp => (List.mem_append.mp hp).elim (fun hp => h p (List.mem_append_left _ hp)) fun hp => (List.mem_append.mp hp).elim (fun hp => h2 p (List.mem_append_left _ hp)) (hb' p)
theorem lay_off {I' I dO dW dL : Addr} {oI oO oO' oW oW' oL oL' : Obj} {tl' tl base : Led} (l : ∀ p ∈ tl' ++ (((I, oI) :: tl) ++ lay3 dO dW dL oO oW oL base), p.1 < I') : ∀ p ∈ tl' ++ (((I, oI) :: tl) ++ lay3 dO dW dL oO' oW' oL' base), p.1 ≠ I' := lay_chg (P := fun a => a ≠ I') fun p hp => Nat.ne_of_lt (l p hp)
theorem lay_chg3 {P : Addr → Prop} {dO dW dL : Addr} {oO oO' oW oW' oL oL' : Obj} {tl' tl base : Led} (h' : ∀ p ∈ tl', P p.1) (h : ∀ p ∈ tl ++ lay3 dO dW dL oO oW oL base, P p.1) : ∀ p ∈ tl' ++ (tl ++ lay3 dO dW dL oO' oW' oL' base), P p.1 := by
  have hb : ∀ p ∈ lay3 dO dW dL oO oW oL base, P p.1 := fun p hp => h p (List.mem_append_right _ hp)
  have hb' : ∀ p ∈ lay3 dO dW dL oO' oW' oL' base, P p.1 := List.forall_mem_cons.mpr ⟨hb (dL, oL) (.head _), List.forall_mem_cons.mpr ⟨hb (dW, oW) (.tail _ (.head _)), List.forall_mem_cons.mpr ⟨hb (dO, oO) (.tail _ (.tail _ (.head _))), fun p hp => hb p (.tail _ (.tail _ (.tail _ hp)))⟩⟩⟩
  exact fun p hp => (List.mem_append.mp hp).elim (h' p) fun hp => (List.mem_append.mp hp).elim (fun hp => h p (List.mem_append_left _ hp)) (hb' p)
theorem part_size {sp : List (Str × Nat × Int)} {nm : Str} {os : List Int} {i : Nat} {xs : KL} (h : OffR xs (sp ++ partO nm os i)) (h1 : sp.length ≤ 20) (h2 : i ≤ 10) : xs.length ≤ sizeLine := by
  have e := offR_len h
  rw [e]
  refine Nat.le_trans (m := 40) ?_ (by decide)
  simp [partO]
  omega
theorem kyKs_snoc {w : World} {l : Led} {xs : KL} {k : KY} {kv v : Value} (h : KyKs w l xs) (hk : KyK w l k kv) : KyKs w l (xs ++ [(k, kv, v)]) := fun x hx => by
  rcases List.mem_append.mp hx with hx | hx
  · exact h x hx
  · rw [List.mem_singleton.mp hx]; exact hk
theorem offR_step {xs : KL} {sp : List (Str × Nat × Int)} {nm : Str} {os : List Int} {i : Nat} {kv : Value} {t : Tok} (h : OffR xs (sp ++ partO nm os i)) : OffR (xs ++ [(.inr [.inl nm, .inr (i : Int)], kv, .int (os.getD i 0) t)]) (sp ++ partO nm os (i + 1)) := by
  rw [partO_succ, ← List.append_assoc]
  exact h.snoc
theorem len_kvs_small {rows : List Row} {W : Int} {t1 t2 : Tok} {j : Nat} : (lenKvs rows W t1 t2 j).length ≤ sizeLine := by
  refine Nat.le_trans (m := 2) ?_ (by decide)
  match j with
  | 0 => exact Nat.zero_le _
  | 1 => exact Nat.le_succ _
  | _ + 2 => exact Nat.le_refl _
theorem ws_small {xs : KL} {sp : List (Str × Nat × Int)} (h : OffR xs sp) (h1 : sp.length ≤ 2) : xs.length ≤ sizeLine := by
  rw [offR_len h]; exact Nat.le_trans h1 (by decide)
theorem gtb_nil {base : Led} : ∀ q ∈ base, ∀ p ∈ ([] : Led), q.1 < p.1 := fun _ _ => List.forall_mem_nil _
theorem gtb_cons {base tl : Led} {a : Addr} {o : Obj} (h : ∀ q ∈ base, q.1 < a) (t : ∀ q ∈ base, ∀ p ∈ tl, q.1 < p.1) : ∀ q ∈ base, ∀ p ∈ (a, o) :: tl, q.1 < p.1 := fun q hq => List.forall_mem_cons.mpr ⟨h q hq, t q hq⟩
theorem gtb_app {base a b : Led} (h : ∀ q ∈ base, ∀ p ∈ a, q.1 < p.1) (t : ∀ q ∈ base, ∀ p ∈ b, q.1 < p.1) : ∀ q ∈ base, ∀ p ∈ a ++ b, q.1 < p.1 := fun q hq => all_app (P := fun p => q.1 < p.1) (h q hq) (t q hq)
theorem lt_thruR {news : Led} {a b : Addr} (hb : @LT.lt Nat _ a b) (h : ∀ p ∈ news, p.1 < a) : ∀ p ∈ news, p.1 < b := fun p hp => Nat.lt_trans (h p hp) hb
-- Lay
inductive Lay0 (w : World) (tl : Led) (c : Addr) : Prop
  | mk (dY dO dW dL : Addr) (oO oW oL : Obj) (k1 k2 k3 : Tok) (e : tl = lay3 dO dW dL oO oW oL [(c, instObj 225 dY), (dY, dictOf [ent w "offsets" k1 (.ref dO), ent w "widths" k2 (.ref dW), ent w "lengths" k3 (.ref dL)] 3)])
    (o1 : @LT.lt Nat _ dO dL) (o2 : @LT.lt Nat _ dW dL) (o3 : @LT.lt Nat _ dO dW) (o4 : @LT.lt Nat _ dY dO) (o5 : @LT.lt Nat _ c dO) (s1 : (dO == sysModules) = false) (s2 : (dW == sysModules) = false) (s3 : (dL == sysModules) = false)
    (hO : Obj.IsDictOf (PySem.strKind PG w) oO []) (hW : Obj.IsDictOf (PySem.strKind PG w) oW []) (hL : Obj.IsDictOf (PySem.strKind PG w) oL [])
theorem lt_of_led {led : Led} {a b : Addr} {o : Obj} (h : ∀ p ∈ led, p.1 < a) (hm : (b, o) ∈ led) : @LT.lt Nat _ b a := h _ hm
theorem layout_new_ct {w : World} {news : Led} : Ct w 4 60 225 [] news (RefP (Lay0 w)) False := by
  refine' ct_cls1 (by k_is) (by k_is) (by k_is) (by k_is) (by k_is) (by kernel_rfl) ?hb rfl rfl ?_; (case hb => intro x s X; first | exact BindsTo.of_eq rfl | exact binds_K X rfl (by k_is) rfl rfl rfl); (intro x0 d0 l1 l2; k_extra "ct_in")
  k_steps
  refine hn [_, _, _, _, _] _ _ _ (by assumption) (by assumption) ?lt ?p
  case lt => exact lt_consS (by assumption) (by k_extra "subz") (lt_consS (by assumption) (by k_extra "subz") (lt_consS (by assumption) (by k_extra "subz") (lt_cons (fun p hp => Nat.lt_trans (l1 p hp) l2) (lt_cons l1 lt_nilL))))
  case p => exact ⟨_, rfl, .mk _ _ _ _ _ _ _ _ _ _ rfl (lt_of_led (by assumption) (by k_mem)) (lt_of_led (by assumption) (by k_mem)) (lt_of_led (by assumption) (by k_mem)) (lt_of_led (by assumption) (by k_mem)) (lt_of_led (by assumption) (by k_mem)) (by assumption) (by assumption) (by assumption) (by assumption) (by assumption) (by assumption)⟩
-- S10
theorem use_tab {w : World} {nd nu : Nat} {f : Addr} {args : List Value} {news : Led} {exc : Prop} {A A₀ : Around} {env : Env} {outer : List Env} {base g : Heap} {L : Addr} {mg mb : SMap} {mean : ExcName → Option Value} {m : SMap} {h : Heap} {G : Array GenState} {D : Drawn} {tk : Nat} {O : OsState} {Q E : Value → Shared → Prop} {nd' nu' : Nat} {x : Prop} {rows : List Row} {W : Int} (c : Amb w A A₀ env outer base g L mg mb mean) (F : Fr g L h m) (N : News g L h news) (hd9 : A.depth + nd' < recursionLimit) (hu9 : A.units + nu' < cLine) (C : Ct w nd nu f args news (TabP x w rows W) exc) (h1 : Nat.ble nd nd' = true) (h2 : Nat.ble nu nu' = true)
    (hx : exc → ∀ e t vs h' tk' g', Fr g L g' m → RaisedS base g' (env :: outer) e (.ref 83) t vs news h' → g'.UpToSlots h' → E (.ref e) ⟨h', G, D, tk', O⟩)
    (ret : ∀ d tl h' tk', x → TabAt w tl d rows W → Fr g L h' m → News g L h' (tl ++ news) → Lt news tl → Q (.ref d) ⟨h', G, D, tk', O⟩) : wpAny (model PG w) A (call (.ref f) args) Q E ⟨h, G, D, tk, O⟩ :=
  ct_use c F N hd9 hu9 C h1 h2 hx fun _ tl h' tk' F N l ⟨hz, _, e, a⟩ => e ▸ ret _ tl h' tk' hz a F N l
theorem words28 : True := by
  k_with "call ref!" => ((k_here; (with_reducible show wpAny _ _ (call (Value.ref 285) [Value.ref p.T]) _ _ _); k_dflt (refine use_ref c (by assumption) (by assumption) hd9 hu9 (fw_ct (rows := rows) (by k_extra "mono") hlb) rfl rfl nofun ?_); intro wa tl7 h7 tk7 F7 N7 hl7 hWa))
  k_with "call ref!" => ((k_here; (with_reducible show wpAny _ _ (call (Value.ref 285) [Value.ref p.D]) _ _ _); k_dflt (refine use_ref c (by assumption) (by assumption) hd9 hu9 (fw_dat_ct (rows := rows) (by k_extra "mono")) rfl rfl nofun ?_); intro wb tl8 h8 tk8 F8 N8 hl8 hWb))
  k_with "wids" => (first | assumption | (refine WidsAt.mono ?_ (by assumption); show Sub _ _; k_extra "subz") | exact ⟨_, _, _, by k_mem, by assumption, by assumption, by k_extra "mono", by k_extra "mono"⟩)
  k_with "call ref!" => ((k_here; (with_reducible show wpAny _ _ (call (Value.ref 320) _) _ _ _); k_dflt (refine use_tab c (by assumption) (by assumption) hd9 hu9 (tables_ct (rows := rows) (by k_extra "mono") hlen hok hlb (by k_extra "wids")) rfl rfl (fun hz e t vs h' tk' g' F R U => hx (hxa hz) e t vs _ h' tk' g' _ (by k_extra "subz") F R U) ?_; intro td tl6 h6 tk6 hfine6 hTd F6 N6 hl6)))
  k_with "call ref!" => ((k_here; (with_reducible show wpAny _ _ (call (Value.ref 327) _) _ _ _); k_dflt (refine use_ref c (by assumption) (by assumption) hd9 hu9 (lengthened_ct (rows := rows) (W := W) (by k_extra "mono") hlen hlb (by k_extra "mono") hLW (by k_extra "wids")) rfl rfl nofun ?_); rintro c9 tl9 h9 tk9 F9 N9 hl9 ⟨f9, n9, hc9, hw9⟩))
  k_with "call ref!" => ((k_here; (with_reducible show wpAny _ _ (call (Value.ref 225) _) _ _ _); k_dflt (refine use_ref c (by assumption) (by assumption) hd9 hu9 layout_new_ct rfl rfl nofun ?_); rintro y tl5 h5 tk5 F5 N5 hl5 ⟨dY, dO, dW, dL, oO, oW, oL, k7, k8, k9, rfl, o1, o2, o3, o4, o5, s1, s2, s3, hO, hW, hL⟩; simp only [List.cons_append, List.nil_append] at N5))
  k_with "kykm" => (first | assumption | (refine KyKs.mono ?_ (by assumption); show Sub _ _; k_extra "subz"))
  k_with "setItem ref ref!" => ((k_here; k_dflt (refine ky_put (k := .inr [.inl _, .inr _]) (by k_extra "ct_room") (by k_asm) (by k_asm) (by k_updF) (by assumption) (by k_extra "kykm") (kyk_si (by k_mem)) (by assumption) (by assumption) ?_; intro hzq ozq Fzq Nzq hdzq; (try dsimp only at Nzq))))
  k_with "subscriptTail Name Tuple Name Constant ref ref" => ((k_here; k_dflt (refine ky_item (k := .inr [.inl _, .inl _]) (by k_extra "ct_room") (by k_asm) (by k_mem) (by assumption) (by k_extra "kykm") (kyk_ss (by k_mem)) (by assumption) ?_)))
  k_with "subscriptTail Name Tuple ref ref" => (k_extra "subscriptTail Name Tuple Name Constant ref ref")
  k_with "subscriptTail Name Name ref str" => ((k_here; k_dflt (first | refine kd_sub (knd := PySem.strKind _ _) (by k_asm) (by k_mem) (by assumption) (strKind_is _ _ _ _) (by first | assumption | exact val1 | exact val_td_t | exact val_td_d) ?_ | refine ky_item (k := .inl _) (by k_extra "ct_room") (by k_asm) (by k_mem) (by assumption) (by k_extra "kykm") kyk_s (by assumption) ?_)))
  k_with "setItem ref str!" => ((k_here; k_dflt (refine kda_set (knd := PySem.strKind _ _) (by k_asm) (by k_asm) (by k_updF) (by assumption) (strKind_is _ _ _ _) (by first | assumption | exact Nat.le_of_ble_eq_true (by kernel_rfl)) ?_; intro hzq ozq Fzq Nzq hdzq; (try dsimp only at Nzq); (try simp only [stored1, stored_td] at hdzq))))
  trivial
noncomputable abbrev lay5 (w : World) (y dY dO dW dL : Addr) (k7 k8 k9 : Tok) (r : Led) : Led := (y, instObj 225 dY) :: (dY, dictOf [ent w "offsets" k7 (.ref dO), ent w "widths" k8 (.ref dW), ent w "lengths" k9 (.ref dL)] 3) :: r
noncomputable def RelP (x : Prop) (w : World) (rows : List Row) (lb : Option Nat) (W : Int) : Led → Value → Prop := fun tl r => x ∧ ∃ q, r = .ref q.y ∧ LayAt w tl q rows lb W
theorem news_del2 {h₀ h : Heap} {L : Addr} {all a1 n' : Led} {x1 x2 : Addr × Obj} (N : News h₀ L h all) (D1 : Del x1 all a1) (D2 : Del x2 a1 n') : News h₀ L h (x1 :: x2 :: n') := news_sub N fun p hp => D1.sub p ((List.mem_cons.mp hp).elim (fun e => e ▸ .head _) fun h => .tail _ (D2.sub p h))
theorem news_del1 {h₀ h : Heap} {L : Addr} {all n' : Led} {x1 : Addr × Obj} (N : News h₀ L h all) (D1 : Del x1 all n') : News h₀ L h (x1 :: n') := news_sub N D1.sub
theorem words29 : True := by
  k_with "UnrEndW!" => ((k_dflt (refine unrEnd1D (by assumption) (by assumption) (by k_extra "k_del") (by k_dflt (exact List.forall_mem_cons.mpr ⟨ne_gt (by assumption) (by k_mem), lay_off (by assumption)⟩)) ?_); refine ⟨subL_one (by k_mem), ?_⟩))
  trivial
noncomputable def Stop (P : Prop) : Prop := P
theorem stop_in {P : Prop} (h : Stop P) : P := h
theorem words30 : True := by
  k_with "exec While Name cons nil" => (refine stop_in ?_)
  trivial
noncomputable def StopMark : Prop := True
theorem words31 : True := by
  k_with "last pyIter ref!" => (((rename StopMark => hsm9zq); clear hsm9zq; refine stop_in ?_))
  trivial
inductive JR (w : World) (news : Led) (p : PA) (rows : List Row) (lb : Option Nat) (n : Nat) (m : SMap) (l : Led) : Prop
  | mk (W : Int) (wd td : Addr) (b : Bool) (tl : Led) (e1 : m (Str.ofString "program") = some (.ref p.P)) (e2 : m (Str.ofString "widths") = some (.ref wd)) (e3 : m (Str.ofString "tables") = some (.ref td)) (e4 : m (Str.ofString "is_changed") = some (.bool b))
    (el : l = tl ++ news) (hlt : Lt news tl) (hW : WidsAt w l wd lb W) (hT : TabAt w l td rows W) (hst : WSt rows lb n W b)
theorem relax_ct {w : World} {news : Led} {p : PA} {rows : List Row} (hP : ProgAt w news p rows) (hlen : rows.length ≤ 10) (hok : ∀ r ∈ rows, r.Ok) {lb : Option Nat} (hlb : LebIs rows lb) (hL1 : LebOk rows 1) (hLF : LebOk rows (finN rows lb 1)) :
    Ct w 60 1200 334 [.ref p.P] news (RelP (Fine rows (finN rows lb 1) true rows.length) w rows lb (finN rows lb 1)) (¬ Fine rows (finN rows lb 1) true rows.length) := by
  have hdP := hP.hdP
  have hnm := hP.hnm
  have h1 := hP.hP
  have h2 := hP.hsec
  have h3 := hP.hS
  have hxa : ¬ Fine rows 1 false rows.length → ¬ Fine rows (finN rows lb 1) true rows.length := fun h hf => h (fine_weak hf)
  refine ct_open1 (by k_is) (by k_is) (by kernel_rfl) rfl rfl rfl ?_; k_extra "ct_in"
  k_steps
  unfold Stop
  refine lp_while (G := G) (D := D) (O := O) (JR w news p rows lb) (n₀ := 2) (by assumption) (by assumption) ?_ ?_
  · refine' JR.mk 1 _ _ true _ rfl rfl rfl rfl (Spl.eq ?S) ?lt ?wi ?ta wst_0
    case S => k_extra "k_spl"
    case lt => k_extra "ltz"
    case wi => k_extra "wids"
    case ta => k_extra "mono"
  · rintro n m₁ l₁ h₁ tk₁ q7 ⟨W, wd, td', b, tlw, e1, e2, e3, e4, rfl, hlt, hW, hT, hst⟩ F₁ N₁ hn7
    replace F₁ := fr_eta4 F₁ e1 e2 e3 e4
    clear e1 e2 e3 e4
    cases b
    · obtain ⟨rfl, hF⟩ := hst.2 rfl
      have hsm : StopMark := trivial
      obtain ⟨oW', wa', wb', hw1, hw2, hw3, hw4, hw5⟩ := hW
      obtain ⟨oT', t1, t2, t3, t4, oTx, oDx, k1, k2, hT1, hT2, hT3, hT4, hT5, hT6⟩ := hT
      k_steps
      unfold Stop
      have lL : ∀ p ∈ tlw ++ news, p.1 < dL := fun p hp => hl5 p hp _ (.head _)
      have lW : ∀ p ∈ tlw ++ news, p.1 < dW := fun p hp => hl5 p hp _ (.tail _ (.head _))
      have lO : ∀ p ∈ tlw ++ news, p.1 < dO := fun p hp => hl5 p hp _ (.tail _ (.tail _ (.head _)))
      have lY : ∀ p ∈ tlw ++ news, p.1 < y := fun p hp => hl5 p hp _ (.tail _ (.tail _ (.tail _ (.head _))))
      have lD : ∀ p ∈ tlw ++ news, p.1 < dY := fun p hp => hl5 p hp _ (.tail _ (.tail _ (.tail _ (.tail _ (.head _)))))
      have bO : ∀ p ∈ lay5 w y dY dO dW dL k7 k8 k9 (tlw ++ news), p.1 < dO := List.forall_mem_cons.mpr ⟨o5, List.forall_mem_cons.mpr ⟨o4, lO⟩⟩
      have nO : ∀ p ∈ lay5 w y dY dO dW dL k7 k8 k9 (tlw ++ news), p.1 ≠ dO := fun p hp => Nat.ne_of_lt (bO p hp)
      have nW : ∀ p ∈ lay5 w y dY dO dW dL k7 k8 k9 (tlw ++ news), p.1 ≠ dW := fun p hp => Nat.ne_of_lt (Nat.lt_trans (bO p hp) o3)
      have nL : ∀ p ∈ lay5 w y dY dO dW dL k7 k8 k9 (tlw ++ news), p.1 ≠ dL := fun p hp => Nat.ne_of_lt (Nat.lt_trans (bO p hp) o1)
      refine lp_list (G := G) (D := D) (O := O) (vs := [_, _]) (JO w p.P wd td' _ _ _ _ _ rows lb (finN rows lb 1) t3 t4) rfl rfl (by assumption) (by assumption) (by k_mem) (jo_0 o1 o2 o3 rfl rfl rfl rfl hO hW hL) ?turn ?done
      case turn =>
        rintro I oI j v m₁ l₁ h tk q7 hv hmem ⟨oO, oW, oL, tl, xs, ws, o1, o2, o3, e1, e2, e3, e4, rfl, g1, g2, kO, kOk, rO, kW, kWk, rW, kL⟩ F₁ N₁ off hr7 hn7
        obtain ⟨nm, tn, oT9, wx, os, lb', W', e, te, kv, kv2, rfl, D9⟩ := td_all (W := finN rows lb 1) (a1 := .str (Str.ofString ".text") t1) (a2 := .str (Str.ofString ".data") t2) (k1 := .ref k1) (k2 := .ref k2) (t1 := t3) (t2 := t4) hlen hT5 hT6 hw4 hw5 hv
        replace F₁ := fr_eta4 F₁ e1 e2 e3 e4
        clear e1 e2 e3 e4
        have j1 : @Ne Nat I dO := fun e => off _ (List.mem_append_right _ (.tail _ (.tail _ (.head _)))) e.symm
        have j2 : @Ne Nat I dW := fun e => off _ (List.mem_append_right _ (.tail _ (.head _))) e.symm
        have j3 : @Ne Nat I dL := fun e => off _ (List.mem_append_right _ (.head _)) e.symm
        have D1 := D9.h1
        have D2 := D9.h2
        have D4 := D9.h4
        have D11 := D9.h11
        obtain ⟨its, ki, ho1, ho2, ho3⟩ := D9.h3
        k_steps
        refine fill_inner (G := G) (D := D) (O := O) (os := os) rfl rfl (by assumption) (by assumption) (by k_mem) rfl rfl rfl rfl rfl kO kOk rO ho2 ho3 ?iturn ?idone
        case iturn =>
          rintro I2 oI2 oJ2 i t T t2 m₂ l₂ h2 tk2 q7 hi hTup hmem2 ⟨oO', tl', xs', e1, e2, e3, e4, e5, rfl, g3, g4, g5, kO', kOk', rO'⟩ F₂ N₂ off2 hr7 hn7
          replace F₂ := fr_eta5 F₂ e1 e2 e3 e4 e5
          clear e1 e2 e3 e4 e5
          have hno : kyAt xs' (.inr [.inl nm, .inr (i : Int)]) = none := offR_none rO' (fun v hv => (List.mem_append.mp hv).elim (D9.h6 i v) (fun h => partO_no h))
          have hz : xs'.length ≤ sizeLine := part_size rO' D9.h13 (Nat.le_of_lt (Nat.lt_of_lt_of_le hi D9.h12))
          have i1 : @Ne Nat I2 dO := fun e => (off2 _ (List.mem_append_right _ (List.mem_append_right _ (.tail _ (.tail _ (.head _)))))).1 e.symm
          have i2 : @Ne Nat (I2 + 1) dO := fun e => (off2 _ (List.mem_append_right _ (List.mem_append_right _ (.tail _ (.tail _ (.head _)))))).2 e.symm
          have u1 : ∀ p ∈ tl', p.1 ≠ dO := off_ge g3 (Nat.le_of_lt o1)
          have u2 : ∀ p ∈ tl, p.1 ≠ dO := off_ge g1 (Nat.le_of_lt o1)
          have u3 : @Ne Nat dL dO := Nat.ne_of_gt o1
          have u4 : @Ne Nat dW dO := Nat.ne_of_gt o3
          k_steps
          refine' hn7 _ _ _ _ (by assumption) (news_del2 (by assumption) ?D1 ?D2) ?off ?mem ?ji
          case D1 => k_extra "k_del"
          case D2 => k_extra "k_del"
          case off => exact List.forall_mem_cons.mpr ⟨⟨ne_gt (by assumption) (by k_mem), ne_gt (by assumption) (by k_mem)⟩, lay_chg (P := fun a => a ≠ I2 ∧ a ≠ I2 + 1) off2⟩
          case mem => k_mem
          case ji =>
            refine' ⟨_, _ :: tl', _, rfl, rfl, rfl, rfl, rfl, rfl, List.forall_mem_cons.mpr ⟨lt_of_led (by assumption) (by k_mem), g3⟩, List.forall_mem_cons.mpr ⟨ne_gt (by assumption) (by k_mem), g4⟩, lt_consS (by assumption) (by k_extra "subz") g5, by assumption, kyKs_snoc (kOk'.mono ?sub) (kyk_si (by k_mem)), offR_step rO'⟩
            case sub => show Sub _ _; k_extra "subz"
        case idone =>
          rintro m₂ l₂ h2 tk2 ⟨oO', tl', xs', e1, e2, e3, e4, e5, rfl, g3, g4, g5, kO', kOk', rO'⟩ F₂ N₂
          replace F₂ := fr_eta5 F₂ e1 e2 e3 e4 e5
          clear e1 e2 e3 e4 e5
          simp only [List.cons_append] at N₂
          have hzL := len_kvs_small (rows := rows) (W := finN rows lb 1) (t1 := t3) (t2 := t4) (j := j)
          have hz : ws.length ≤ sizeLine := ws_small rW D9.h14
          obtain ⟨oX, tw, hx1, hx2, hx3⟩ := D9.h5
          rw [← D9.h7] at rO'
          have v1 : ∀ p ∈ tl', p.1 ≠ dW := off_ge g3 (Nat.le_of_lt o2)
          have v2 : ∀ p ∈ tl, p.1 ≠ dW := off_ge g1 (Nat.le_of_lt o2)
          have v3 : @Ne Nat dL dW := Nat.ne_of_gt o2
          have v4 : @Ne Nat dO dW := Nat.ne_of_lt o3
          have v5 : ∀ p ∈ tl', p.1 ≠ dL := off_ge g3 (Nat.le_refl _)
          have v6 : ∀ p ∈ tl, p.1 ≠ dL := off_ge g1 (Nat.le_refl _)
          have v7 : @Ne Nat dW dL := Nat.ne_of_lt o2
          have v8 : @Ne Nat dO dL := Nat.ne_of_lt o1
          cases lb' with
          | none =>
            simp only [widKvs] at hx3
            have h9 : specWj lb (finN rows lb 1) (j + 1) = specWj lb (finN rows lb 1) j := by rw [D9.h9]; exact List.append_nil _
            k_steps
            refine' hn7 _ _ _ _ (by assumption) (news_del1 (by assumption) ?D1) ?off ?mem ?ji
            case D1 => k_extra "k_del"
            case off => exact List.forall_mem_cons.mpr ⟨ne_gt (by assumption) (by k_mem), lay_chg3 (P := fun a => a ≠ I) g4 off⟩
            case mem => k_mem
            case ji =>
              refine' ⟨oO', _, _, _, xs', ws, o1, o2, o3, rfl, rfl, rfl, rfl, Spl.eq ?qS, ?qg, ?ql, kO', ?qc, rO', ?qk, ?qd, ?qe, ?qf⟩
              case qS => k_extra "k_spl"
              case qg => exact List.forall_mem_cons.mpr ⟨lt_of_led (by assumption) (by k_mem), all_app g3 (all_app g1 (List.forall_mem_nil _))⟩
              case ql => exact lt_consS (by assumption) (by k_extra "subz") (lt_app g5 (lt_app g2 lt_nilL))
              case qk => assumption
              case qc => exact kOk'.mono (by show Sub _ _; k_extra "subz")
              case qd => exact kWk.mono (by show Sub _ _; k_extra "subz")
              case qe => rw [h9]; exact rW
              case qf => rw [D9.h10, ← stored_new D11]; assumption
          | some i =>
            simp only [widKvs] at hx3
            have hno : kyAt ws (.inr [.inl nm, .inr (i : Int)]) = none := offR_none rW (D9.h8 i)
            k_steps
            refine' hn7 _ _ _ _ (by assumption) (news_del1 (by assumption) ?D1) ?off ?mem ?ji
            case D1 => k_extra "k_del"
            case off => exact List.forall_mem_cons.mpr ⟨ne_gt (by assumption) (by k_mem), List.forall_mem_cons.mpr ⟨ne_gt (by assumption) (by k_mem), lay_chg3 (P := fun a => a ≠ I) g4 off⟩⟩
            case mem => k_mem
            case ji =>
              refine' ⟨oO', _, _, _, xs', (ws ++ [_]), o1, o2, o3, rfl, rfl, rfl, rfl, Spl.eq ?qS, ?qg, ?ql, kO', ?qc, rO', ?qk, ?qd, ?qe, ?qf⟩
              case qS => k_extra "k_spl"
              case qg => exact List.forall_mem_cons.mpr ⟨lt_of_led (by assumption) (by k_mem), List.forall_mem_cons.mpr ⟨lt_of_led (by assumption) (by k_mem), all_app g3 (all_app g1 (List.forall_mem_nil _))⟩⟩
              case ql => exact lt_consS (by assumption) (by k_extra "subz") (lt_consS (by assumption) (by k_extra "subz") (lt_app g5 (lt_app g2 lt_nilL)))
              case qk => assumption
              case qc => exact kOk'.mono (by show Sub _ _; k_extra "subz")
              case qd => exact kyKs_snoc (kWk.mono (by show Sub _ _; k_extra "subz")) (kyk_si (by k_mem))
              case qe => rw [D9.h9]; exact rW.snoc
              case qf => rw [D9.h10, ← stored_new D11]; assumption
      case done =>
        rintro m₁ l₁ h tk ⟨oO, oW, oL, tl, xs, ws, o1, o2, o3, e1, e2, e3, e4, rfl, g1, g2, kO, kOk, rO, kW, kWk, rW, kL⟩ hmem F₁ N₁
        replace F₁ := fr_eta4 F₁ e1 e2 e3 e4
        clear e1 e2 e3 e4
        k_steps
        refine' hr _ _ _ _ _ (by assumption) (ret_spl (by assumption) (by k_extra "k_spl")) (by k_extra "ltz") ?_
        exact ⟨hF, ⟨_, _, _, _, _, oO, oW, oL⟩, rfl, ⟨by k_extra "memz", ⟨_, _, _, by k_extra "memz"⟩, by k_extra "memz", by assumption, by k_extra "memz", by assumption, by k_extra "memz", by assumption, ⟨xs, kO, kOk.mono (by show Sub _ _; k_extra "subz"), rO⟩, ⟨ws, kW, kWk.mono (by show Sub _ _; k_extra "subz"), rW⟩, ⟨_, _, kL⟩⟩⟩
    · have hLW : LebOk rows W := by rcases wst_W hst with rfl | rfl <;> assumption
      have hxa := wst_exc hst
      k_steps
      obtain ⟨n', hn', hst'⟩ := wst_next hst hfine6
      refine' hn7 n' _ _ _ _ hn' (by assumption) (by assumption) (.mk _ _ _ _ _ rfl rfl rfl rfl (Spl.eq ?yS) ?ylt ?ywi ?yta hst')
      case yS => k_extra "k_spl"
      case ylt => k_extra "ltz"
      case ywi => k_extra "wids"
      case yta => k_extra "mono"
-- T1
theorem words32 : True := by
  k_with "kykm" => (first | assumption | (refine KyKs.mono ?_ (by assumption); show Sub _ _; k_extra "subz"))
  k_with "compareOp In ref ref!" => ((k_here; k_dflt (first | refine ky_in (k := .inr [.inl _, .inr _]) (by k_extra "ct_room") (by k_asm) (by k_mem) (by assumption) (by k_extra "kykm") (kyk_si (by k_mem)) (by assumption) true (congrArg Option.isSome (by assumption : kyAt _ _ = some _)) ?_ | refine ky_in (k := .inr [.inl _, .inr _]) (by k_extra "ct_room") (by k_asm) (by k_mem) (by assumption) (by k_extra "kykm") (kyk_si (by k_mem)) (by assumption) false (congrArg Option.isSome (by assumption : kyAt _ _ = none)) ?_)))
  k_with "subscriptTail Name Tuple ref ref" => ((k_here; k_dflt (refine ky_item (k := .inr [.inl _, .inr _]) (by k_extra "ct_room") (by k_asm) (by k_mem) (by assumption) (by k_extra "kykm") (kyk_si (by k_mem)) (by assumption) ?_)))
  trivial
theorem place_in_ct {w : World} {news : Led} {q : LA} {rows : List Row} {lb : Option Nat} {W : Int} (hq : LayAt w news q rows lb W) {nm : Str} {i : Nat} {v : Int} {t1 t2 : Tok} (hv : (nm, i, v) ∈ specO rows W) (hu : ∀ v', (nm, i, v') ∈ specO rows W → v' = v) :
    Ct w 4 80 208 [.ref q.y, .str nm t1, .int i t2] news (IntP v) False := by
  obtain ⟨_, _, _, hd⟩ := hq.hd
  have h1 := hq.hy
  have h2 := hq.hO
  have h3 := hq.lO
  obtain ⟨xs, k1, k2, k3⟩ := hq.kO
  obtain ⟨kv, t, hk⟩ := offR_some k3 hv hu
  refine ct_open3 (by k_is) (by k_is) (by kernel_rfl) rfl rfl rfl ?_; k_extra "ct_in"
  k_steps
  refine hr _ [] _ _ _ (by assumption) (news_sub (by assumption) (by k_extra "subz")) lt_nilL ?_
  exact ⟨_, rfl⟩
theorem place_out_ct {w : World} {news : Led} {q : LA} {rows : List Row} {lb : Option Nat} {W : Int} (hq : LayAt w news q rows lb W) {nm : Str} {i : Nat} {v : Int} {t1 t2 t3 : Tok} (hv : ∀ v, (nm, i, v) ∉ specO rows W) (hl : ∀ o, Obj.IsDictOf (PySem.strKind PG w) q.oL o → valueAt o nm = some (.int v t3)) :
    Ct w 4 80 208 [.ref q.y, .str nm t1, .int i t2] news (IntP v) False := by
  obtain ⟨_, _, _, hd⟩ := hq.hd
  have h1 := hq.hy
  have h2 := hq.hO
  have h3 := hq.lO
  have h4 := hq.hL
  obtain ⟨xs, k1, k2, k3⟩ := hq.kO
  have hk := offR_none k3 hv
  obtain ⟨_, _, h5⟩ := hq.kL
  have h6 := hl _ h5
  refine ct_open3 (by k_is) (by k_is) (by kernel_rfl) rfl rfl rfl ?_; k_extra "ct_in"
  k_steps
  refine hr _ [] _ _ _ (by assumption) (news_sub (by assumption) (by k_extra "subz")) lt_nilL ?_
  exact ⟨_, rfl⟩
-- T2
theorem words33 : True := by
  k_with "execs cons If nil" => (k_here; (with_reducible refine nx_last (G := G) (D := D) (O := O) ?_))
  k_with "execs cons If cons" => (k_here; (with_reducible refine nx_cons (G := G) (D := D) (O := O) ?_))
  k_with "execs cons For nil" => (k_here; (with_reducible refine nx_last (G := G) (D := D) (O := O) ?_))
  k_with "execs cons For cons" => (k_here; (with_reducible refine nx_cons (G := G) (D := D) (O := O) ?_))
  k_with "execs cons While nil" => (k_here; (with_reducible refine nx_last (G := G) (D := D) (O := O) ?_))
  k_with "execs cons While cons" => (k_here; (with_reducible refine nx_cons (G := G) (D := D) (O := O) ?_))
  k_with "execs cons Try nil" => (k_here; (with_reducible refine nx_last (G := G) (D := D) (O := O) ?_))
  k_with "execs cons Try cons" => (k_here; (with_reducible refine nx_cons (G := G) (D := D) (O := O) ?_))
  trivial
theorem specO_mem {rows : List Row} {W : Int} {j : Nat} (h : j < rows.length) : (Str.ofString ".text", j, posn rows W j) ∈ specO rows W :=
  List.mem_append_left _ (List.mem_map.mpr ⟨j, List.mem_range.mpr h, rfl⟩)
theorem specO_one {rows : List Row} {W : Int} {j : Nat} (_h : j < rows.length) : ∀ v', (Str.ofString ".text", j, v') ∈ specO rows W → v' = posn rows W j := by
  intro v' hm
  rcases List.mem_append.mp hm with hm | hm
  · simp only [specT, List.mem_map] at hm
    obtain ⟨k, _, e⟩ := hm
    injection e with _ e
    injection e with e1 e2
    rw [← e2, e1]
  · have e := List.mem_singleton.mp hm
    injection e with e _
    exact absurd e (by decide)
theorem find_other_ct {w : World} {news : Led} {p : PA} {rows : List Row} (hP : ProgAt w news p rows) {t : Tok} :
    Ct w 3 60 243 [.ref p.P, .str (Str.ofString "other") t] news (RefP (FlAt ".data" 1)) False := by
  have hdP := hP.hdP
  have hnm := hP.hnm
  have hdT := hP.hdT
  have hdD := hP.hdD
  have h1 := hP.hP
  have h2 := hP.hsec
  have h3 := hP.hS
  have h4 := hP.hT
  have h5 := hP.hTL
  have h6 := hP.hL
  have h7 := hP.lTL
  have g4 := hP.hD
  have g5 := hP.hDL
  have g6 := hP.hM
  have g7 := hP.lDL
  have hno : valueAt (labKvs 0 p.ts) (Str.ofString "other") = none := valueAt_lab_none (by decide)
  have hyes : valueAt [(Str.ofString "other", Value.ref p.dt)] (Str.ofString "other") = some (.ref p.dt) := val1
  have hbt := hP.hdt
  refine ct_open2 (by k_is) (by k_is) (by kernel_rfl) rfl rfl rfl ?_; k_extra "ct_in"
  k_steps
  exact hr _ [_] _ _ _ (by assumption) (news_sub (by assumption) (by k_extra "subz")) (lt_consS (by assumption) (by k_extra "subz") lt_nilL) ⟨_, rfl, .mk _ _ _ _ (.head _)⟩
inductive PairS (sec : Str) (v : Int) (tl : Led) (a : Addr) : Prop
  | mk (v' : Int) (t1 t2 : Tok) (n : Nat) (h : (a, tupObj #[.str sec t1, .int v' t2] n) ∈ tl) (hv : v' = v)
theorem lplace_ct {w : World} {news : Led} {p : PA} {q : LA} {rows : List Row} {lb : Option Nat} {W : Int} (hP : ProgAt w news p rows) (hlen : rows.length ≤ 10) (hq : LayAt w news q rows lb W) {j : Nat} {t : Tok} (hj : j ≤ rows.length) :
    Ct w 10 150 341 [.ref p.P, .ref q.y, .str (lab j) t] news (RefP (PairS (Str.ofString ".text") (posn rows W j))) False := by
  have hdP := hP.hdP
  have hdT := hP.hdT
  have h1 := hP.hP
  have h2 := hP.hsec
  have h3 := hP.hS
  have h4 := hP.hT
  have h5 := hP.hTP
  have h6 := hP.htn
  obtain ⟨_, _, _, hd⟩ := hq.hd
  have g1 := hq.hy
  have g2 := hq.hO
  have g3 := hq.lO
  have g4 := hq.hL
  obtain ⟨xs, k1, k2, k3⟩ := hq.kO
  obtain ⟨_, _, g5⟩ := hq.kL
  refine ct_open3 (by k_is) (by k_is) (by kernel_rfl) rfl rfl rfl ?_; k_extra "ct_in"
  k_steps
  · obtain ⟨kv, t, hk⟩ := offR_some k3 (nm := Str.ofString ".text") (i := j) (v := posn rows W j) (specO_mem (by omega)) (specO_one (by omega))
    k_steps
    refine' hr _ _ _ _ _ (by assumption) (ret_spl (by assumption) (by k_extra "k_spl")) (by k_extra "ltz") ?_
    exact ⟨_, rfl, _, _, _, _, by k_mem, by omega⟩
  · obtain rfl : j = rows.length := by omega
    refine' hr _ _ _ _ _ (by assumption) (ret_spl (by assumption) (by k_extra "k_spl")) (by k_extra "ltz") ?_
    exact ⟨_, rfl, _, _, _, _, by k_mem, by omega⟩
theorem words34 : True := by
  k_with "call ref!" => ((k_here; (with_reducible show wpAny _ _ (call (Value.ref 243) _) _ _ _); k_dflt (refine use_ref c (by assumption) (by assumption) hd9 hu9 (find_other_ct (rows := rows) (by k_extra "mono")) rfl rfl nofun ?_); rintro c7 tl7 h7 tk7 F7 N7 hl7 ⟨ta7, tb7, tc7, n7, hm7⟩))
  trivial
theorem lplace_other_ct {w : World} {news : Led} {p : PA} {q : LA} {rows : List Row} {lb : Option Nat} {W : Int} (hP : ProgAt w news p rows) (hq : LayAt w news q rows lb W) {t : Tok} :
    Ct w 10 150 341 [.ref p.P, .ref q.y, .str (Str.ofString "other") t] news (RefP (PairS (Str.ofString ".data") 2)) False := by
  have hdP := hP.hdP
  have hdD := hP.hdD
  have h1 := hP.hP
  have h2 := hP.hsec
  have h3 := hP.hS
  have h4 := hP.hD
  have h5 := hP.hDP
  obtain ⟨_, _, _, hd⟩ := hq.hd
  have g1 := hq.hy
  have g4 := hq.hL
  obtain ⟨_, _, g5⟩ := hq.kL
  refine ct_open3 (by k_is) (by k_is) (by kernel_rfl) rfl rfl rfl ?_; k_extra "ct_in"
  k_steps
  refine' hr _ _ _ _ _ (by assumption) (ret_spl (by assumption) (by k_extra "k_spl")) (by k_extra "ltz") ?_
  exact ⟨_, rfl, _, _, _, _, by k_mem, by omega⟩
-- T3
theorem words35 : True := by
  k_with "execs cons If nil" => (k_here; ((with_reducible refine wp_last (G := G) (D := D) (O := O) (by assumption) ?_); intro tk8; (try dsimp only)))
  k_with "execs cons If cons" => (k_here; ((with_reducible refine wp_cons (G := G) (D := D) (O := O) (by assumption) ?_); intro q8 tk8 hq8 hr8; (try dsimp only)))
  k_with "execs cons For nil" => (k_here; ((with_reducible refine wp_last (G := G) (D := D) (O := O) (by assumption) ?_); intro tk8; (try dsimp only)))
  k_with "execs cons For cons" => (k_here; ((with_reducible refine wp_cons (G := G) (D := D) (O := O) (by assumption) ?_); intro q8 tk8 hq8 hr8; (try dsimp only)))
  k_with "execs cons While nil" => (k_here; ((with_reducible refine wp_last (G := G) (D := D) (O := O) (by assumption) ?_); intro tk8; (try dsimp only)))
  k_with "execs cons While cons" => (k_here; ((with_reducible refine wp_cons (G := G) (D := D) (O := O) (by assumption) ?_); intro q8 tk8 hq8 hr8; (try dsimp only)))
  k_with "execs cons Try nil" => (k_here; ((with_reducible refine wp_last (G := G) (D := D) (O := O) (by assumption) ?_); intro tk8; (try dsimp only)))
  k_with "execs cons Try cons" => (k_here; ((with_reducible refine wp_cons (G := G) (D := D) (O := O) (by assumption) ?_); intro q8 tk8 hq8 hr8; (try dsimp only)))
  trivial
inductive PlcR (l : Led) : List (Str × Value) → List (Str × Str × Int) → Prop
  | nil : PlcR l [] []
  | snoc {kvs : List (Str × Value)} {sp : List (Str × Str × Int)} {k sec : Str} {v : Int} {a : Addr} {t1 t2 n : Nat} : PlcR l kvs sp → (a, tupObj #[.str sec t1, .int v t2] n) ∈ l → PlcR l (kvs ++ [(k, .ref a)]) (sp ++ [(k, sec, v)])
theorem PlcR.mono {l l' : Led} (s : ∀ p ∈ l, p ∈ l') {kvs : List (Str × Value)} {sp : List (Str × Str × Int)} (h : PlcR l kvs sp) : PlcR l' kvs sp := by
  induction h with
  | nil => exact .nil
  | snoc h m ih => exact .snoc ih (s _ m)
theorem PlcR.len {l : Led} {kvs : List (Str × Value)} {sp : List (Str × Str × Int)} (h : PlcR l kvs sp) : kvs.length = sp.length := by
  induction h with
  | nil => rfl
  | snoc h m ih => rw [List.length_append, List.length_append, ih]; rfl
theorem valueAt_app {kvs kvs' : List (Str × Value)} {k : Str} : valueAt (kvs ++ kvs') k = (valueAt kvs k).or (valueAt kvs' k) := by
  unfold valueAt
  rw [List.find?_append]
  cases List.find? (fun kv => decide (kv.1 = k)) kvs <;> rfl
theorem PlcR.none {l : Led} {kvs : List (Str × Value)} {sp : List (Str × Str × Int)} (h : PlcR l kvs sp) {k : Str} (hno : ∀ sec v, (k, sec, v) ∉ sp) : valueAt kvs k = none := by
  induction h with
  | nil => rfl
  | snoc h m ih =>
    rename_i kvs' sp' k' sec' v' a' t1 t2 n
    rw [valueAt_app, ih (fun s v hv => hno s v (List.mem_append_left _ hv))]
    have : ¬ k' = k := fun e => hno sec' v' (List.mem_append_right _ (e ▸ .head _))
    unfold valueAt
    rw [List.find?_cons_of_neg (by simpa using this)]; rfl
noncomputable def plcT (rows : List Row) (W : Int) (n : Nat) : List (Str × Str × Int) := (List.range n).map fun j => (lab j, Str.ofString ".text", posn rows W j)
theorem plcT_get {rows : List Row} {W : Int} {n i : Nat} (h : i < n) : (plcT rows W n)[i]? = some (lab i, Str.ofString ".text", posn rows W i) := by
  rw [plcT, List.getElem?_map, List.getElem?_range h]; rfl
theorem plcT_mem {rows : List Row} {W : Int} {n : Nat} {x : Str × Str × Int} (h : x ∈ plcT rows W n) : ∃ i, i < n ∧ x = (lab i, Str.ofString ".text", posn rows W i) := by
  obtain ⟨i, hi, e⟩ := List.mem_map.mp h
  exact ⟨i, List.mem_range.mp hi, e.symm⟩
theorem plcT_len {rows : List Row} {W : Int} {n : Nat} : (plcT rows W n).length = n := by rw [plcT, List.length_map, List.length_range]
theorem plcT_take {rows : List Row} {W : Int} {n i : Nat} (h : i ≤ n) : (plcT rows W n).take i = plcT rows W i := by
  rw [plcT, plcT, ← List.map_take, List.take_range, Nat.min_eq_left h]
noncomputable def plcA (rows : List Row) (W : Int) : List (Str × Str × Int) := plcT rows W (rows.length + 1) ++ [(Str.ofString "other", Str.ofString ".data", 2)]
noncomputable def plcJ (rows : List Row) (W : Int) : Nat → List (Str × Str × Int)
  | 0 => []
  | 1 => plcT rows W (rows.length + 1)
  | _ => plcA rows W
theorem labKvs_get {j : Nat} : ∀ {ts : List Addr} {i : Nat} {k : Str} {v : Value}, (labKvs i ts)[j]? = some (k, v) → k = lab (i + j) ∧ j < ts.length := by
  induction j with
  | zero =>
    intro ts i k v h
    cases ts with
    | nil => cases h
    | cons a r =>
      have e := Option.some.inj h
      injection e with e
      exact ⟨e.symm, Nat.succ_pos _⟩
  | succ j ih =>
    intro ts i k v h
    cases ts with
    | nil => cases h
    | cons a r =>
      obtain ⟨e, hl⟩ := ih (ts := r) (i := i + 1) h
      exact ⟨by rw [e, Nat.add_assoc, Nat.add_comm 1], Nat.succ_lt_succ hl⟩
theorem labKvs_len : ∀ {ts : List Addr} {i : Nat}, (labKvs i ts).length = ts.length
  | [], _ => rfl
  | _ :: r, i => congrArg (· + 1) (labKvs_len (ts := r) (i := i + 1))
inductive SecAt (w : World) (led : Led) (p : PA) (q : LA) (rows : List Row) (lb : Option Nat) (W : Int) (j : Nat) (nm : Str) : Prop
  | mk (sp : List (Str × Str × Int)) (S dS LP LD : Addr) (oLD : Obj) (kvs : List (Str × Value)) (k1 k2 k3 tS : Nat)
    (h1 : valueAt [(Str.ofString ".text", Value.ref p.T), (Str.ofString ".data", .ref p.D)] nm = some (.ref S)) (h2 : (S, instObj 548 dS) ∈ led)
    (h3 : (dS, dictOf [ent w "name" k1 (.str nm tS), ent w "pieces" k2 (.ref LP), ent w "labels" k3 (.ref LD)] 3) ∈ led)
    (h4 : (LD, oLD) ∈ led) (h5 : (LD == sysModules) = false) (h6 : Obj.IsDictOf (PySem.strKind PG w) oLD kvs) (h7 : kvs.length = sp.length) (h8 : plcJ rows W (j + 1) = plcJ rows W j ++ sp)
    (h9 : ∀ (i : Nat) k v, kvs[i]? = some (k, v) → ∃ sec x, sp[i]? = some (k, sec, x) ∧ (∀ sec' x', (k, sec', x') ∉ plcJ rows W j ++ sp.take i) ∧
      ∀ led t, ProgAt w led p rows → LayAt w led q rows lb W → Ct w 10 150 341 [.ref p.P, .ref q.y, .str k t] led (RefP (PairS sec x)) False)
theorem sec_all {w : World} {led : Led} {p : PA} {q : LA} {rows : List Row} {lb : Option Nat} {W : Int} (hP : ProgAt w led p rows) (hlen : rows.length ≤ 10) {j : Nat} {v : Value} {t1 t2 : Tok}
    (hv : [Value.str (Str.ofString ".text") t1, .str (Str.ofString ".data") t2][j]? = some v) : j < 2 ∧ ∃ nm t, v = .str nm t ∧ SecAt w led p q rows lb W j nm := by
  match j, hv with
  | 0, hv =>
    obtain rfl := Option.some.inj hv
    refine ⟨Nat.zero_lt_two, _, _, rfl, plcT rows W (rows.length + 1), p.T, p.dT, p.TP, p.TL, p.oL, labKvs 0 p.ts, _, _, _, _, rfl, hP.hT, hP.hdT, hP.hTL, hP.lTL, hP.hL, by rw [labKvs_len, hP.hts, plcT_len], rfl, ?_⟩
    intro i k v hk
    obtain ⟨rfl, hi⟩ := labKvs_get hk
    rw [Nat.zero_add]
    rw [hP.hts] at hi
    refine ⟨_, _, plcT_get hi, ?_, fun led t hP hq => lplace_ct hP hlen hq (Nat.le_of_lt_succ hi)⟩
    intro sec x hm
    rw [plcT_take (Nat.le_of_lt hi)] at hm
    obtain ⟨i', hi', e⟩ := plcT_mem hm
    injection e with e _
    have := lab_inj_le (by omega) (by omega) e
    omega
  | 1, hv =>
    obtain rfl := Option.some.inj hv
    refine ⟨Nat.one_lt_two, _, _, rfl, [(Str.ofString "other", Str.ofString ".data", 2)], p.D, p.dD, p.DP, p.DL, p.oM, [(Str.ofString "other", .ref p.dt)], _, _, _, _, rfl, hP.hD, hP.hdD, hP.hDL, hP.lDL, hP.hM, rfl, rfl, ?_⟩
    intro i k v hk
    match i, hk with
    | 0, hk =>
      obtain ⟨rfl, rfl⟩ := Prod.mk.inj (Option.some.inj hk)
      refine ⟨_, _, rfl, ?_, fun led t hP hq => lplace_other_ct hP hq⟩
      intro sec x hm
      rw [List.take_zero, List.append_nil] at hm
      obtain ⟨i', hi', e⟩ := plcT_mem hm
      injection e with e _
      exact absurd e.symm (lab_ne (by decide))
theorem plc_len {rows : List Row} {W : Int} {j : Nat} {sp : List (Str × Str × Int)} (hlen : rows.length ≤ 10) (h : plcJ rows W (j + 1) = plcJ rows W j ++ sp) {i : Nat} : (plcJ rows W j ++ sp.take i).length ≤ 12 := by
  have h1 : (plcJ rows W (j + 1)).length ≤ 12 := by
    match j with
    | 0 => show (plcT rows W _).length ≤ _; rw [plcT_len]; omega
    | _ + 1 => show (plcT rows W _ ++ [_]).length ≤ _; rw [List.length_append, plcT_len]; show _ + 1 ≤ _; omega
  rw [h, List.length_append] at h1
  rw [List.length_append, List.length_take]
  omega
section
variable {w : World} {A : Around} {E : Value → Shared → Prop} {env : Env} {h₀ : Heap} {x : Str} {px : Pos} {body : List Stmt} {Q : Flow → Shared → Prop} {hp : Heap} {G : Array GenState} {D : Drawn} {t0 : Nat} {O : OsState} {L : Addr}
theorem str_key : ∀ (k : Str) (v : Value), (PySem.strKind PG w).is k v = true → ∃ t, v = kyVal (PyData.str k) t := fun _ _ h => Value.isStrOf_shape h
theorem lp_keys {d : Addr} {od : Obj} {kvs : List (Str × Value)} {m₀ : SMap} {news : Led} (J : Nat → SMap → Led → Prop)
    (hL : env.locals = L) (hh : A.handled = none) (F : Fr h₀ L hp m₀) (N : News h₀ L hp news) (hm : (d, od) ∈ news) (hd : od.IsDictOf (PySem.strKind PG w) kvs) (lo : (d == sysModules) = false) (h0 : J 0 m₀ news)
    (turn : ∀ I oI i k v t m₁ n₁ h tk (q : Flow → Shared → Prop), kvs[i]? = some (k, v) → (d, od) ∈ n₁ → J i m₁ n₁ → Fr h₀ L h m₁ → News h₀ L h ((I, oI) :: n₁) → (∀ p ∈ n₁, p.1 ≠ I) → (∀ v s', Q (.ret v) s' → q (.ret v) s') →
      (∀ h' tk' m' n', Fr h₀ L h' m' → News h₀ L h' ((I, oI) :: n') → (∀ p ∈ n', p.1 ≠ I) → (d, od) ∈ n' → J (i + 1) m' n' → q .next ⟨h', G, D, tk', O⟩) →
      wpAny (model PG w) A (assign (.Name x px) env (.str k t)) (fun _ s₂ => wpAny (model PG w) A (execs body env) q E s₂) E ⟨h, G, D, tk, O⟩)
    (done : ∀ m₁ n₁ h tk, J kvs.length m₁ n₁ → (d, od) ∈ n₁ → Fr h₀ L h m₁ → News h₀ L h n₁ → Q .next ⟨h, G, D, tk, O⟩) :
    wpAny (model PG w) A (pyIter (.ref d)) (fun it s₂ => TurnsAt PG w A h₀ env (.Name x px) body Q E it s₂) E ⟨hp, G, D, t0, O⟩ := by
  subst hL
  refine kta_keys (s := ⟨hp, G, D, t0, O⟩) (enc := PyData.str) hh F N hm hd lo str_key rfl fun I hI => ?_
  refine rest_inv J _ 0 (fun i a v m₁ n₁ h tk hi hv h1 h2 h3 h4 => ?_) (fun m₁ n₁ h tk h1 h2 h3 h4 h5 => done m₁ n₁ h tk (by rw [List.length_map, Nat.zero_add] at h1; exact h1) (subL_get h2) h4 h5) m₀ news (subL_one hm) (offA_lt hI (fun q hq => by rw [List.mem_singleton.mp hq]; exact Nat.le_refl _)) h0
  rw [List.getElem?_map] at hi
  obtain ⟨⟨k, v'⟩, hk, rfl⟩ := Option.map_eq_some_iff.mp hi
  obtain ⟨t, rfl⟩ := hv
  rw [Nat.zero_add] at h3 ⊢
  exact turn_one h2 fun oI q NI off k1 k2 => turn I oI i k v' t m₁ n₁ h tk q hk h1.1 h3 h4 NI off k1 fun h' tk' m' n' F N off hl j => k2 h' tk' m' n' F N off ⟨subL_one hl, j⟩
end
inductive JF (w : World) (news : Led) (p : PA) (q : LA) (fo : Addr) (rows : List Row) (W : Int) (j : Nat) (m : SMap) (l : Led) : Prop
  | mk (oF : Obj) (tl : Led) (kvs : List (Str × Value)) (e1 : m (Str.ofString "program") = some (.ref p.P)) (e2 : m (Str.ofString "layout") = some (.ref q.y)) (e3 : m (Str.ofString "found") = some (.ref fo))
    (el : l = tl ++ (fo, oF) :: news) (g1 : ∀ x ∈ tl, fo < x.1) (g2 : Lt news tl) (hfo : ∀ x ∈ news, x.1 < fo) (hsy : (fo == sysModules) = false) (hd : Obj.IsDictOf (PySem.strKind PG w) oF kvs) (hR : PlcR tl kvs (plcJ rows W j))
inductive JK (w : World) (news : Led) (p : PA) (q : LA) (fo I : Addr) (oI : Obj) (tl0 : Led) (nm : Str) (tn : Tok) (s0 sp : List (Str × Str × Int)) (i : Nat) (m : SMap) (l : Led) : Prop
  | mk (oF : Obj) (tl : Led) (kvs : List (Str × Value)) (e1 : m (Str.ofString "program") = some (.ref p.P)) (e2 : m (Str.ofString "layout") = some (.ref q.y)) (e3 : m (Str.ofString "found") = some (.ref fo)) (e4 : m (Str.ofString "section") = some (.str nm tn))
    (el : l = tl ++ (I, oI) :: (tl0 ++ (fo, oF) :: news)) (g1 : ∀ x ∈ tl, fo < x.1) (g2 : ∀ x ∈ tl, x.1 ≠ I) (g3 : Lt news tl) (hd : Obj.IsDictOf (PySem.strKind PG w) oF kvs) (hR : PlcR (tl ++ tl0) kvs (s0 ++ sp.take i))
theorem fo_chg {P : Addr → Prop} {fo : Addr} {oF oF' : Obj} {tl news : Led} (h : ∀ x ∈ tl ++ (fo, oF) :: news, P x.1) : ∀ x ∈ tl ++ (fo, oF') :: news, P x.1 := fun x hx =>
  (List.mem_append.mp hx).elim (fun hx => h x (List.mem_append_left _ hx)) fun hx => (List.mem_cons.mp hx).elim (fun e => e ▸ h (fo, oF) (List.mem_append_right _ (.head _))) fun hx => h x (List.mem_append_right _ (.tail _ hx))
theorem fo_chg2 {P : Addr → Prop} {fo I : Addr} {oF oF' oI : Obj} {tl' tl news : Led} (h : ∀ x ∈ tl' ++ (I, oI) :: (tl ++ (fo, oF) :: news), P x.1) : ∀ x ∈ tl' ++ (I, oI) :: (tl ++ (fo, oF') :: news), P x.1 := fun x hx =>
  (List.mem_append.mp hx).elim (fun hx => h x (List.mem_append_left _ hx)) fun hx => (List.mem_cons.mp hx).elim (fun e => e ▸ h (I, oI) (List.mem_append_right _ (.head _))) (fo_chg (P := P) (fun x hx => h x (List.mem_append_right _ (.tail _ hx))) x)
theorem gt_new {led tl : Led} {fo : Addr} {o : Obj} (h : Lt led tl) (hm : (fo, o) ∈ led) : ∀ p ∈ tl, fo < p.1 := fun p hp => h _ hm p hp
-- T4
theorem words36 : True := by
  k_with "execs cons If nil" => (k_here; (with_reducible refine nx_last (G := G) (D := D) (O := O) ?_))
  k_with "execs cons If cons" => (k_here; (with_reducible refine nx_cons (G := G) (D := D) (O := O) ?_))
  k_with "execs cons For nil" => (k_here; (with_reducible refine nx_last (G := G) (D := D) (O := O) ?_))
  k_with "execs cons For cons" => (k_here; (with_reducible refine nx_cons (G := G) (D := D) (O := O) ?_))
  k_with "execs cons While nil" => (k_here; (with_reducible refine nx_last (G := G) (D := D) (O := O) ?_))
  k_with "execs cons While cons" => (k_here; (with_reducible refine nx_cons (G := G) (D := D) (O := O) ?_))
  k_with "execs cons Try nil" => (k_here; (with_reducible refine nx_last (G := G) (D := D) (O := O) ?_))
  k_with "execs cons Try cons" => (k_here; (with_reducible refine nx_cons (G := G) (D := D) (O := O) ?_))
  k_with "last pyIter ref!" => (((rename StopMark => hsm9zq); clear hsm9zq; refine stop_in ?_))
  k_with "lay" => (first | assumption | (refine LayAt.mono ?_ (by assumption); show Sub _ _; k_extra "subz"))
  k_with "call ref!" => ((k_here; (with_reducible show wpAny _ _ (call (Value.ref 341) _) _ _ _); k_dflt (refine use_ref c (by assumption) (by assumption) hd9 hu9 (hC _ _ (by k_extra "mono") (by k_extra "lay")) rfl rfl nofun ?_); rintro c8 tl8 h8 tk8 F8 N8 hl8 ⟨v8, ta8, tb8, n8, hm8, hv8⟩))
  k_with "setItem ref str!" => ((k_here; k_dflt (refine kda_set (knd := PySem.strKind _ _) (by k_asm) (by k_asm) (by k_updF) (by assumption) (strKind_is _ _ _ _) (by assumption) ?_; intro hzq ozq Fzq Nzq hdzq; (try dsimp only at Nzq))))
  trivial
inductive PlcsAt (w : World) (sp : List (Str × Str × Int)) (tl : Led) (d : Addr) : Prop
  | mk (o : Obj) (kvs : List (Str × Value)) (h1 : (d, o) ∈ tl) (h2 : (d == sysModules) = false) (h3 : Obj.IsDictOf (PySem.strKind PG w) o kvs) (h4 : PlcR tl kvs sp)
theorem lplaces_ct {w : World} {news : Led} {p : PA} {q : LA} {rows : List Row} {lb : Option Nat} {W : Int} (hP : ProgAt w news p rows) (hlen : rows.length ≤ 10) (hq : LayAt w news q rows lb W) :
    Ct w 20 300 348 [.ref p.P, .ref q.y] news (RefP (PlcsAt w (plcA rows W))) False := by
  have hdP := hP.hdP
  have hnm := hP.hnm
  have h1 := hP.hP
  have h2 := hP.hsec
  have h3 := hP.hS
  refine ct_open2 (by k_is) (by k_is) (by kernel_rfl) rfl rfl rfl ?_; k_extra "ct_in"
  have hsm : StopMark := trivial
  k_steps
  unfold Stop
  refine lp_list (G := G) (D := D) (O := O) (vs := [_, _]) (JF w news p q _ rows W) rfl rfl (by assumption) (by assumption) (by k_mem) ⟨_, [], [], rfl, rfl, rfl, rfl, List.forall_mem_nil _, lt_nilL, by assumption, by assumption, by assumption, .nil⟩ ?turn ?done
  case turn =>
    rintro I oI j v m₁ l₁ h tk q7 hv hmem ⟨oF, tl, kvs, e1, e2, e3, rfl, g1, g2, hfo, hsy, hd, hR⟩ F₁ N₁ off hr7 hn7
    obtain ⟨hj2, nm, tn, rfl, sp, S, dS, LP, LD, oLD, kvL, k1, k2, k3, tS, s1, s2, s3, s4, s5, s6, s7, s8, s9⟩ := sec_all (q := q) (lb := lb) (W := W) hP hlen hv
    replace F₁ := fr_eta3 F₁ e1 e2 e3
    clear e1 e2 e3
    have hsm : StopMark := trivial
    k_steps
    unfold Stop
    refine lp_keys (G := G) (D := D) (O := O) (JK w news p q _ I oI tl nm tn (plcJ rows W j) sp) rfl rfl (by assumption) (by assumption) (by k_mem) s6 s5 ⟨oF, [], kvs, rfl, rfl, rfl, rfl, rfl, List.forall_mem_nil _, List.forall_mem_nil _, lt_nilL, hd, by rw [List.take_zero, List.append_nil]; exact hR⟩ ?iturn ?idone
    case iturn =>
      rintro I2 oI2 i k v t m₂ l₂ h2 tk2 q7 hk hmem2 ⟨oF', tl', kvs', e1, e2, e3, e4, rfl, g3, g4, g5, hd', hR'⟩ F₂ N₂ off2 hr7 hn7
      obtain ⟨sec, x, hsp, hno, hC⟩ := s9 i k v hk
      replace F₂ := fr_eta4 F₂ e1 e2 e3 e4
      clear e1 e2 e3 e4
      have hz : kvs'.length ≤ sizeLine := by rw [hR'.len]; exact Nat.le_trans (plc_len hlen s8) (by decide)
      have hvn : valueAt kvs' k = none := hR'.none hno
      have u1 := off_ge g3 (Nat.le_refl _)
      have u2 := off_ge g1 (Nat.le_refl _)
      have u3 := fun p hp => Nat.ne_of_lt (hfo p hp)
      have u4 : @Ne Nat I _ := fun e => off (_, oF) (List.mem_append_right _ (.head _)) e.symm
      have u5 : @Ne Nat I2 _ := fun e => off2 (_, oF') (List.mem_append_right _ (.tail _ (List.mem_append_right _ (.head _)))) e.symm
      k_steps
      subst hv8
      refine' hn7 _ _ _ _ (by assumption) (news_del1 (by assumption) ?D1) ?off ?mem ?ji
      case D1 => k_extra "k_del"
      case off => exact all_app (off_lt hl8 (.head _)) (fo_chg2 (P := fun a => a ≠ I2) off2)
      case mem => k_mem
      case ji =>
        refine' ⟨_, tl8 ++ tl', kvs' ++ [(k, .ref c8)], rfl, rfl, rfl, rfl, (List.append_assoc _ _ _).symm, all_app (gt_new hl8 ?m1) g3, all_app (off_lt hl8 ?m2) g4, lt_app (lt_sub hl8 ?s) g5, ?hd, ?hR⟩
        case m1 => k_mem
        case m2 => k_mem
        case s => k_extra "subz"
        case hd => rw [← stored_new hvn]; assumption
        case hR =>
          rw [List.take_add_one, hsp, ← List.append_assoc]
          exact (hR'.mono (by show Sub _ _; k_extra "subz")).snoc (List.mem_append_left _ (List.mem_append_left _ hm8))
    case idone =>
      rintro m₂ l₂ h2 tk2 ⟨oF', tl', kvs', e1, e2, e3, e4, rfl, g3, g4, g5, hd', hR'⟩ hmem2 F₂ N₂
      replace F₂ := fr_eta4 F₂ e1 e2 e3 e4
      clear e1 e2 e3 e4
      rw [s7, List.take_length, ← s8] at hR'
      exact hn7 _ _ _ _ F₂ (news_del1 N₂ (del_app .head)) (all_app g4 (fo_chg (P := fun a => a ≠ I) off)) (by k_mem) ⟨oF', tl' ++ tl, kvs', rfl, rfl, rfl, (List.append_assoc _ _ _).symm, all_app g3 g1, lt_app g5 g2, hfo, hsy, hd', hR'⟩
  case done =>
    rintro m₁ l₁ h tk ⟨oF, tl, kvs, e1, e2, e3, rfl, g1, g2, hfo, hsy, hd, hR⟩ hmem F₁ N₁
    replace F₁ := fr_eta3 F₁ e1 e2 e3
    clear e1 e2 e3
    k_steps
    refine' hr _ _ _ _ _ (by assumption) (ret_spl (by assumption) (by k_extra "k_spl")) (by k_extra "ltz") ?_
    exact ⟨_, rfl, .mk oF kvs (by k_mem) hsy hd (hR.mono (by show Sub _ _; k_extra "subz"))⟩
-- T5
noncomputable def lawNeed (sg : Bool) (v : Int) : Int := if sg = true then (if -64 ≤ v ∧ v < 64 then 1 else 2) else if v < 0 then 9 else if v < 128 then 1 else 2
theorem need_ct {w : World} {news : Led} {rows : List Row} {W : Int} {i : Nat} {a sp : Addr} {sg : Bool} {x y : Nat} (hrw : RowAt news i a (.leb sg x y)) (hs : IntsAt news sp (offs rows W (rows.length + 1))) (hlen : rows.length ≤ 10) (hxl : x ≤ rows.length) (hyl : y ≤ rows.length) :
    Ct w 4 80 646 [.ref a, .ref sp] news (IntP (lawNeed sg (LebV rows W x y))) False := by
  obtain ⟨its, _, hs1, hs2, hs3⟩ := hs
  obtain ⟨tx, hx1⟩ := hs3 x _ (offs_get (by omega))
  obtain ⟨ty, hy1⟩ := hs3 y _ (offs_get (by omega))
  cases hrw with
  | leb hrw =>
  cases sg
  · refine ct_open2 (by k_is) (by k_is) (by kernel_rfl) rfl rfl rfl ?_; k_extra "ct_in"
    k_steps
    all_goals (refine hr _ [] _ _ _ (by assumption) (news_sub (by assumption) (by k_extra "subz")) lt_nilL ?_; exact ⟨_, int_eq (by unfold lawNeed LebV; simp only [Bool.false_eq_true, if_false]; split <;> (try split) <;> omega)⟩)
  · refine ct_open2 (by k_is) (by k_is) (by kernel_rfl) rfl rfl rfl ?_; k_extra "ct_in"
    k_steps
    all_goals (refine hr _ [] _ _ _ (by assumption) (news_sub (by assumption) (by k_extra "subz")) lt_nilL ?_; exact ⟨_, int_eq (by unfold lawNeed LebV; simp only [if_true]; split <;> omega)⟩)
-- T6
theorem words37 : True := by
  k_with "subscriptTail Name Constant ref int!" => ((k_here; k_dflt (first | refine t_item (by k_asm) (by k_mem) (by decide) (by decide) (by exact rfl) ?_ (by with_unfolding_all rfl) | refine l_item (by k_asm) (by k_mem) (by decide) (by decide) (by first | assumption | exact rfl) ?_ (by with_unfolding_all rfl))))
  k_with "subscriptTail Name IfExp ref int" => ((k_here; k_dflt (first | refine l_itemN (by k_asm) (by k_mem) (by assumption) (by omega) ?_ (by with_unfolding_all rfl) | refine l_item (by k_asm) (by k_mem) (by decide) (by decide) (by first | assumption | exact rfl) ?_ (by with_unfolding_all rfl))))
  trivial
inductive GoalP (x : Option Int) (tl : Led) (r : Value) : Prop
  | none (h : x = none) (e : r = .none)
  | some (g : Int) (t : Tok) (h : x = some g) (e : r = .int g t)
theorem ne_labL {x : Str} {n : Nat} (h : x.cps[0]? ≠ some 108) : (lab n == x) = false := beq_eq_false_iff_ne.mpr (lab_ne h)
theorem ne_labR {x : Str} {n : Nat} (h : x.cps[0]? ≠ some 108) : (x == lab n) = false := beq_eq_false_iff_ne.mpr fun e => lab_ne (n := n) h e.symm
theorem goal_emp {w : World} {news : Led} {i : Nat} {a sp : Addr} {k : Int} {t : Tok} {t1 t2 t3 n : Nat} (h : (a, tupObj #[.str (Str.ofString "org") t1, .str (Str.ofString "") t2, .int k t3] n) ∈ news) :
    Ct w 4 80 632 [.ref a, .int i t, .ref sp] news (IntP k) False := by
  refine ct_open3 (by k_is) (by k_is) (by kernel_rfl) rfl rfl rfl ?_; k_extra "ct_in"
  k_steps
  refine hr _ [] _ _ _ (by assumption) (news_sub (by assumption) (by k_extra "subz")) lt_nilL ?_
  exact ⟨_, int_eq (by omega)⟩
theorem goal_pln {w : World} {news : Led} {i : Nat} {a sp : Addr} {k : Int} {t : Tok} {t1 t2 t3 n : Nat} (h : (a, tupObj #[.str (Str.ofString "org") t1, .str (Str.ofString "PLAIN") t2, .int k t3] n) ∈ news) :
    Ct w 4 80 632 [.ref a, .int i t, .ref sp] news (IntP (k + 200)) False := by
  refine ct_open3 (by k_is) (by k_is) (by kernel_rfl) rfl rfl rfl ?_; k_extra "ct_in"
  k_steps
  refine hr _ [] _ _ _ (by assumption) (news_sub (by assumption) (by k_extra "subz")) lt_nilL ?_
  exact ⟨_, int_eq (by omega)⟩
theorem goal_equ {w : World} {news : Led} {rows : List Row} {W : Int} {i : Nat} {a sp : Addr} {k : Int} {t : Tok} {t1 t2 t3 n : Nat} (h : (a, tupObj #[.str (Str.ofString "org") t1, .str (Str.ofString "EQU") t2, .int k t3] n) ∈ news) (hs : IntsAt news sp (offs rows W (i + 1))) (hi : 0 < i) :
    Ct w 4 80 632 [.ref a, .int i t, .ref sp] news (IntP (k + 5 + posn rows W 1)) False := by
  obtain ⟨its, _, hs1, hs2, hs3⟩ := hs
  obtain ⟨tx, hx1⟩ := hs3 1 _ (offs_get (by omega))
  have hx2 : its.toList[(1 : Int).toNat]? = some (.int (posn rows W 1) tx) := by rw [Array.getElem?_toList]; exact hx1
  refine ct_open3 (by k_is) (by k_is) (by kernel_rfl) rfl rfl rfl ?_; k_extra "ct_in"
  k_steps
  refine hr _ [] _ _ _ (by assumption) (news_sub (by assumption) (by k_extra "subz")) lt_nilL ?_
  exact ⟨_, int_eq (by omega)⟩
theorem goal_equ2 {w : World} {news : Led} {rows : List Row} {W : Int} {i : Nat} {a sp : Addr} {k : Int} {t : Tok} {t1 t2 t3 n : Nat} (h : (a, tupObj #[.str (Str.ofString "org") t1, .str (Str.ofString "EQU2") t2, .int k t3] n) ∈ news) (hs : IntsAt news sp (offs rows W (i + 1))) (hi : 0 < i) :
    Ct w 4 80 632 [.ref a, .int i t, .ref sp] news (IntP (k + 3 + posn rows W 1)) False := by
  obtain ⟨its, _, hs1, hs2, hs3⟩ := hs
  obtain ⟨tx, hx1⟩ := hs3 1 _ (offs_get (by omega))
  have hx2 : its.toList[(1 : Int).toNat]? = some (.int (posn rows W 1) tx) := by rw [Array.getElem?_toList]; exact hx1
  refine ct_open3 (by k_is) (by k_is) (by kernel_rfl) rfl rfl rfl ?_; k_extra "ct_in"
  k_steps
  refine hr _ [] _ _ _ (by assumption) (news_sub (by assumption) (by k_extra "subz")) lt_nilL ?_
  exact ⟨_, int_eq (by omega)⟩
theorem goal_l0 {w : World} {news : Led} {rows : List Row} {W : Int} {i : Nat} {a sp : Addr} {k : Int} {t : Tok} {t1 t2 t3 n : Nat} (h : (a, tupObj #[.str (Str.ofString "org") t1, .str (Str.ofString "l0") t2, .int k t3] n) ∈ news) (hs : IntsAt news sp (offs rows W (i + 1))) :
    Ct w 4 80 632 [.ref a, .int i t, .ref sp] news (IntP (k + 0)) False := by
  obtain ⟨its, _, hs1, hs2, hs3⟩ := hs
  obtain ⟨tx, hx1⟩ := hs3 0 0 (offs_get (by omega))
  have hx2 : its.toList[(0 : Int).toNat]? = some (.int 0 tx) := by rw [Array.getElem?_toList]; exact hx1
  refine ct_open3 (by k_is) (by k_is) (by kernel_rfl) rfl rfl rfl ?_; k_extra "ct_in"
  k_steps
  refine hr _ [] _ _ _ (by assumption) (news_sub (by assumption) (by k_extra "subz")) lt_nilL ?_
  exact ⟨_, rfl⟩
theorem goal_cur {w : World} {news : Led} {rows : List Row} {W : Int} {i : Nat} {a sp : Addr} {k : Int} {t : Tok} {t1 t2 t3 n : Nat} (h : (a, tupObj #[.str (Str.ofString "org") t1, .str (lab i) t2, .int k t3] n) ∈ news) (hs : IntsAt news sp (offs rows W (i + 1))) (hi : i < 10) (h0 : 0 < i) :
    Ct w 4 80 632 [.ref a, .int i t, .ref sp] news (IntP (k + posn rows W i)) False := by
  obtain ⟨its, _, hs1, hs2, hs3⟩ := hs
  obtain ⟨tx, hx1⟩ := hs3 i _ (offs_get (by omega))
  have e0 : Str.ofString "l0" = lab 0 := by decide +kernel
  have n1 : (lab i == Str.ofString "") = false := ne_labL (by decide)
  have n2 : (lab i == Str.ofString "PLAIN") = false := ne_labL (by decide)
  have n3 : (lab i == Str.ofString "EQU") = false := ne_labL (by decide)
  have n4 : (lab i == Str.ofString "EQU2") = false := ne_labL (by decide)
  have n5 : (lab i == Str.ofString "l0") = false := beq_eq_false_iff_ne.mpr fun e => by
    rw [e0] at e
    have := lab_inj_le (by omega) (by omega) e
    omega
  have n6 : (lab i == Str.ofString "l" ++ Str.ofString (toString ((i : Nat) : Int))) = true := beq_self_eq_true (lab i)
  refine ct_open3 (by k_is) (by k_is) (by kernel_rfl) rfl rfl rfl ?_; k_extra "ct_in"
  k_steps
  refine hr _ [] _ _ _ (by assumption) (news_sub (by assumption) (by k_extra "subz")) lt_nilL ?_
  exact ⟨_, rfl⟩
theorem goal_no {w : World} {news : Led} {i : Nat} {a sp : Addr} {k : Int} {t : Tok} {x : Str} {t1 t2 t3 n : Nat} (h : (a, tupObj #[.str (Str.ofString "org") t1, .str x t2, .int k t3] n) ∈ news)
    (hi : i < 10) (n1 : (x == Str.ofString "") = false) (n2 : (x == Str.ofString "PLAIN") = false) (n3 : i = 0 ∨ ((x == Str.ofString "EQU") = false ∧ (x == Str.ofString "EQU2") = false)) (n5 : (x == Str.ofString "l0") = false) (n6 : (x == Str.ofString "l" ++ Str.ofString (toString ((i : Nat) : Int))) = false) :
    Ct w 4 80 632 [.ref a, .int i t, .ref sp] news (fun _ r => r = .none) False := by
  rcases n3 with n3 | ⟨n3, n4⟩
  · subst n3
    refine ct_open3 (by k_is) (by k_is) (by kernel_rfl) rfl rfl rfl ?_; k_extra "ct_in"
    k_steps
    all_goals (refine hr _ [] _ _ _ (by assumption) (news_sub (by assumption) (by k_extra "subz")) lt_nilL ?_; exact rfl)
  · refine ct_open3 (by k_is) (by k_is) (by kernel_rfl) rfl rfl rfl ?_; k_extra "ct_in"
    k_steps
    all_goals (refine hr _ [] _ _ _ (by assumption) (news_sub (by assumption) (by k_extra "subz")) lt_nilL ?_; exact rfl)
theorem goal_ct {w : World} {news : Led} {rows : List Row} {W : Int} {i : Nat} {a sp : Addr} {k : Int} {t : Tok} {wd : Word} (hr : RowAt news i a (.org wd k)) (hs : IntsAt news sp (offs rows W (i + 1))) (hi : i < 10) :
    Ct w 4 80 632 [.ref a, .int i t, .ref sp] news (GoalP (goalOf wd k i (posn rows W 1) (posn rows W i))) False := by
  have some' : ∀ {v : Int}, goalOf wd k i (posn rows W 1) (posn rows W i) = some v → Ct w 4 80 632 [.ref a, .int i t, .ref sp] news (IntP v) False → Ct w 4 80 632 [.ref a, .int i t, .ref sp] news (GoalP (goalOf wd k i (posn rows W 1) (posn rows W i))) False :=
    fun e C => ct_mono C (Nat.le_refl _) (Nat.le_refl _) (fun _ _ h => h.elim fun t h => .some _ t e h) id
  have none' : goalOf wd k i (posn rows W 1) (posn rows W i) = none → Ct w 4 80 632 [.ref a, .int i t, .ref sp] news (fun _ r => r = .none) False → Ct w 4 80 632 [.ref a, .int i t, .ref sp] news (GoalP (goalOf wd k i (posn rows W 1) (posn rows W i))) False :=
    fun e C => ct_mono C (Nat.le_refl _) (Nat.le_refl _) (fun _ _ h => .none e h) id
  cases hr with
  | org h =>
  have e0 : lab 0 = Str.ofString "l0" := by decide +kernel
  cases wd with
  | emp => exact some' rfl (goal_emp h)
  | pln => exact some' rfl (goal_pln h)
  | l0 => exact some' rfl (goal_l0 h hs)
  | cur =>
    rcases Nat.eq_zero_or_pos i with h0 | h0
    · subst h0
      simp only [Word.text] at h
      rw [e0] at h
      exact some' (v := k + 0) rfl (goal_l0 (rows := rows) (W := W) h hs)
    · exact some' rfl (goal_cur h hs hi h0)
  | equ =>
    rcases Nat.eq_zero_or_pos i with h0 | h0
    · exact none' (by simp [goalOf, h0]) (goal_no (x := Str.ofString "EQU") h hi (by decide) (by decide) (.inl h0) (by decide) (ne_labR (by decide)))
    · exact some' (by simp [goalOf, Nat.ne_of_gt h0]) (goal_equ h hs h0)
  | equ2 =>
    rcases Nat.eq_zero_or_pos i with h0 | h0
    · exact none' (by simp [goalOf, h0]) (goal_no (x := Str.ofString "EQU2") h hi (by decide) (by decide) (.inl h0) (by decide) (ne_labR (by decide)))
    · exact some' (by simp [goalOf, Nat.ne_of_gt h0]) (goal_equ2 h hs h0)
  | ring => exact none' rfl (goal_no (x := Str.ofString "RING") h hi (by decide) (by decide) (.inr ⟨by decide, by decide⟩) (by decide) (ne_labR (by decide)))
  | nowh => exact none' rfl (goal_no (x := Str.ofString "nowhere") h hi (by decide) (by decide) (.inr ⟨by decide, by decide⟩) (by decide) (ne_labR (by decide)))
  | nxt =>
    have nl : ∀ m, m ≤ 11 → m ≠ i + 1 → (lab (i + 1) == lab m) = false := fun m hm hne => beq_eq_false_iff_ne.mpr fun e => hne (lab_inj_le (by omega) (by omega) e).symm
    exact none' rfl (goal_no (x := lab (i + 1)) h hi (ne_labL (by decide)) (ne_labL (by decide)) (.inr ⟨ne_labL (by decide), ne_labL (by decide)⟩) (by rw [← e0]; exact nl 0 (by omega) (by omega)) (nl i (by omega) (by omega)))
-- U1
theorem words38 : True := by
  k_with "execs cons If nil" => (k_here; ((with_reducible refine wp_last (G := G) (D := D) (O := O) (by assumption) ?_); intro tk8; (try dsimp only)))
  k_with "execs cons If cons" => (k_here; ((with_reducible refine wp_cons (G := G) (D := D) (O := O) (by assumption) ?_); intro q8 tk8 hq8 hr8; (try dsimp only)))
  k_with "execs cons For nil" => (k_here; ((with_reducible refine wp_last (G := G) (D := D) (O := O) (by assumption) ?_); intro tk8; (try dsimp only)))
  k_with "execs cons For cons" => (k_here; ((with_reducible refine wp_cons (G := G) (D := D) (O := O) (by assumption) ?_); intro q8 tk8 hq8 hr8; (try dsimp only)))
  k_with "execs cons While nil" => (k_here; ((with_reducible refine wp_last (G := G) (D := D) (O := O) (by assumption) ?_); intro tk8; (try dsimp only)))
  k_with "execs cons While cons" => (k_here; ((with_reducible refine wp_cons (G := G) (D := D) (O := O) (by assumption) ?_); intro q8 tk8 hq8 hr8; (try dsimp only)))
  k_with "execs cons Try nil" => (k_here; ((with_reducible refine wp_last (G := G) (D := D) (O := O) (by assumption) ?_); intro tk8; (try dsimp only)))
  k_with "execs cons Try cons" => (k_here; ((with_reducible refine wp_cons (G := G) (D := D) (O := O) (by assumption) ?_); intro q8 tk8 hq8 hr8; (try dsimp only)))
  trivial
/-- a call that may change objects of the ledger: the whole ledger behind it is told -/
noncomputable def CtG (w : World) (nd nu : Nat) (f : Addr) (args : List Value) (led : Led) (Post : Led → Value → Prop) : Prop :=
  ∀ (A A₀ : Around) (env : Env) (outer : List Env) (base g : Heap) (L : Addr) (mg mb : SMap) (mean : ExcName → Option Value) (m : SMap) (h : Heap) (G : Array GenState) (D : Drawn) (tk : Nat) (O : OsState) (Q E : Value → Shared → Prop),
    Amb w A A₀ env outer base g L mg mb mean → Fr g L h m → News g L h led → A.depth + nd < recursionLimit → A.units + nu < cLine →
    (∀ r nw h' tk', Fr g L h' m → News g L h' nw → Post nw r → Q r ⟨h', G, D, tk', O⟩) →
    wpAny (model PG w) A (call (.ref f) args) Q E ⟨h, G, D, tk, O⟩
theorem nil_news {g h : Heap} {L : Addr} {nw : Led} (N : News g L h nw) : News g L h (nw ++ []) := (List.append_nil nw).symm ▸ N
theorem news_nil {g h : Heap} {L : Addr} {nw : Led} (N : News g L h (nw ++ [])) : News g L h nw := List.append_nil nw ▸ N
theorem lt_nil {tl : Led} : Lt [] tl := fun _ h => nomatch h
section
variable {w : World} {nd nu : Nat} {f : Addr} {args : List Value} {led : Led} {Post : Led → Value → Prop} {name qual : Str} {params : Arguments} {body : List Stmt} {scope : Scope} {dV kV doc pm cdv ct oc : Value} {an od : Option Addr} {osl : Array (Option Value)} {fm : SMap}
theorem ctg_openG {binds : List (Str × Value)} {nd' nu' : Nat}
    (ho : (Mine.hd.heap_1_39 w.params).lookup f = some ⟨oc, od, .func (fnOf name qual params body scope dV kV doc pm an cdv ct), osl⟩) (hcd : codeIn (Mine.hd.heap_1_39 w.params) cdv qual = true)
    (hbind : ∀ s, (Mine.hd.heap_1_39 w.params).In s.heap → BindsTo s (fnOf name qual params body scope dV kV doc pm an cdv ct) ⟨args, []⟩ binds) (hloc : ∀ y ∈ binds, scope.names.lookup y.1 = some .local)
    (hco : scope.isCoroutine = false) (hgen : scope.isGenerator = false) (hk : scope.kind = .function) (hcell : ∀ x ∈ scope.names, x.2 ≠ .cell)
    (hfm : (fun y => binds.reverse.lookup y) = fm) (hnd : nd' = nd + 1) (hnu : nu' = nu + 3)
    (h : Body w nd nu qual scope f cdv body fm led [] Post (fun nw => Post nw .none) False) : CtG w nd' nu' f args led Post := by
  subst hfm hnd hnu
  unfold Body at h
  unfold CtG
  intro A A₀ env outer base g₀ L₀ mg mb mean m hp G D tk O Q E c F N hd9 hu9 hret
  refine wpAny_call ?_
  refine code_def c.B F c.X N c.T c.hA c.hf c.hk ho hcd (by first | exact ar_r0 hd9 | omega) (hbind ⟨hp, G, D, tk, O⟩ (c.X.keeps F.keep)) hloc ?_ hco hgen hk hcell
  intro g' L' h' FG F' N' B' X' T'
  have hA' : (A.deeper (envOf qual scope L' f cdv)).frames = some (envOf qual scope L' f cdv :: env :: outer) := Around.frames_deeper c.hA
  obtain ⟨hh0, dp, fr, gd, un⟩ := A
  obtain rfl : hh0 = none := c.hh
  refine h (dp + 1) (un + 3) _ _ ⟨none, dp, fr, gd, un⟩ (env :: outer) base g' L' mg mb mean h' G D (tk + binds.length) O _ (fun e s' => wpAny (model PG w) ((⟨none, dp, fr, gd, un⟩ : Around).deeper (envOf qual scope L' f cdv)) (leaving (envOf qual scope L' f cdv) e) (fun _ s'' => E e s'') (fun e' s'' => E e' s'') s') ⟨B', X', T', hA', rfl, hk, rfl⟩ (by passes_own) B' X' T' F' N' ?_ ?_ ?_ ?_ nofun nofun
  · first | exact ar_rk hd9 | exact ar_rk (k := 2) hd9 | (dsimp only at hd9; omega)
  · first | exact ar_rk hu9 | exact ar_rk (k := 4) hu9 | (dsimp only at hu9; omega)
  · intro r tl h2 tk2 m2 F2 N2 lt P
    exact leaveK_ F2 (news_nil N2) fun F3 N3 => hret r tl h2 tk2 F3 N3 P
  · intro tl h2 tk2 m2 F2 N2 lt P
    exact leaveK_ F2 (news_nil N2) fun F3 N3 => hret .none tl h2 tk2 F3 N3 P
end
section
variable {w : World} {nd nu nd' nu' : Nat} {f : Addr} {led : Led} {Post : Led → Value → Prop} {name qual : Str} {body : List Stmt} {scope : Scope} {dV kV doc pm cdv ct oc : Value} {an od : Option Addr} {osl : Array (Option Value)}
  {x1 x2 x3 : Str} {n1 n2 n3 : Option Expr} {p1 p2 p3 : Pos} {v1 v2 v3 : Value}
theorem ctg_open2 (ho : (Mine.hd.heap_1_39 w.params).lookup f = some ⟨oc, od, .func (fnOf name qual ⟨[], [⟨x1, n1, p1⟩, ⟨x2, n2, p2⟩], none, [], [], none, []⟩ body scope dV kV doc pm an cdv ct), osl⟩) (hcd : codeIn (Mine.hd.heap_1_39 w.params) cdv qual = true)
    (hs : okSc scope [x1, x2] = true) (hb : bindArgs (fnOf name qual ⟨[], [⟨x1, n1, p1⟩, ⟨x2, n2, p2⟩], none, [], [], none, []⟩ body scope dV kV doc pm an cdv ct) ⟨[v1, v2], []⟩ = pure [(x1, v1), (x2, v2)]) (hnd : nd' = nd + 1) (hnu : nu' = nu + 3) (h : Body w nd nu qual scope f cdv body (setF x2 v2 (setF x1 v1 noF)) led [] Post (fun nw => Post nw .none) False) : CtG w nd' nu' f [v1, v2] led Post := by
  obtain ⟨c1, c2, c3, c4, c5, c6⟩ := okSc_spec hs
  refine ctg_openG (binds := [(x1, v1), (x2, v2)]) ho hcd (fun s _ => BindsTo.of_eq hb) (fun y hy => c5 _ ?_) c1 c2 c3 c4 ?_ hnd hnu h
  · simpa using List.mem_map_of_mem (f := Prod.fst) hy
  · funext y; simp only [List.reverse_cons, List.reverse_nil, List.nil_append, List.cons_append, lk_cons, List.lookup_nil, setF, noF]
theorem ctg_open3 {ds : List Expr} (ho : (Mine.hd.heap_1_39 w.params).lookup f = some ⟨oc, od, .func (fnOf name qual ⟨[], [⟨x1, n1, p1⟩, ⟨x2, n2, p2⟩, ⟨x3, n3, p3⟩], none, [], [], none, ds⟩ body scope dV kV doc pm an cdv ct), osl⟩) (hcd : codeIn (Mine.hd.heap_1_39 w.params) cdv qual = true)
    (hs : okSc scope [x1, x2, x3] = true) (hb : bindArgs (fnOf name qual ⟨[], [⟨x1, n1, p1⟩, ⟨x2, n2, p2⟩, ⟨x3, n3, p3⟩], none, [], [], none, ds⟩ body scope dV kV doc pm an cdv ct) ⟨[v1, v2, v3], []⟩ = pure [(x1, v1), (x2, v2), (x3, v3)]) (hnd : nd' = nd + 1) (hnu : nu' = nu + 3) (h : Body w nd nu qual scope f cdv body (setF x3 v3 (setF x2 v2 (setF x1 v1 noF))) led [] Post (fun nw => Post nw .none) False) : CtG w nd' nu' f [v1, v2, v3] led Post := by
  obtain ⟨c1, c2, c3, c4, c5, c6⟩ := okSc_spec hs
  refine ctg_openG (binds := [(x1, v1), (x2, v2), (x3, v3)]) ho hcd (fun s _ => BindsTo.of_eq hb) (fun y hy => c5 _ ?_) c1 c2 c3 c4 ?_ hnd hnu h
  · simpa using List.mem_map_of_mem (f := Prod.fst) hy
  · funext y; simp only [List.reverse_cons, List.reverse_nil, List.nil_append, List.cons_append, lk_cons, List.lookup_nil, setF, noF]
theorem use_g {args : List Value} {A A₀ : Around} {env : Env} {outer : List Env} {base g : Heap} {L : Addr} {mg mb : SMap} {mean : ExcName → Option Value} {m : SMap} {h : Heap} {G : Array GenState} {D : Drawn} {tk : Nat} {O : OsState} {Q E : Value → Shared → Prop}
    (c : Amb w A A₀ env outer base g L mg mb mean) (F : Fr g L h m) (N : News g L h led) (hd9 : A.depth + nd' < recursionLimit) (hu9 : A.units + nu' < cLine) (C : CtG w nd nu f args led Post) (h1 : Nat.ble nd nd' = true) (h2 : Nat.ble nu nu' = true)
    (ret : ∀ r nw h' tk', Fr g L h' m → News g L h' nw → Post nw r → Q r ⟨h', G, D, tk', O⟩) :
    wpAny (model PG w) A (call (.ref f) args) Q E ⟨h, G, D, tk, O⟩ :=
  C A A₀ env outer base g L mg mb mean m h G D tk O Q E c F N (Nat.lt_of_le_of_lt (Nat.add_le_add_left (Nat.le_of_ble_eq_true h1) _) hd9) (Nat.lt_of_le_of_lt (Nat.add_le_add_left (Nat.le_of_ble_eq_true h2) _) hu9) ret
end
theorem upd_app {d : Addr} {o o' : Obj} {a r r' : Led} (h : ∀ p ∈ a, p.1 ≠ d) (u : Upd d o o' r r') : Upd d o o' (a ++ r) (a ++ r') := by
  induction a with
  | nil => exact u
  | cons x a ih => exact .tail (h x (.head _)) (ih fun p hp => h p (.tail _ hp))
-- T7
theorem words39 : True := by
  k_with "execs cons If nil" => (k_here; (with_reducible refine nx_last (G := G) (D := D) (O := O) ?_))
  k_with "execs cons If cons" => (k_here; (with_reducible refine nx_cons (G := G) (D := D) (O := O) ?_))
  k_with "execs cons For nil" => (k_here; (with_reducible refine nx_last (G := G) (D := D) (O := O) ?_))
  k_with "execs cons For cons" => (k_here; (with_reducible refine nx_cons (G := G) (D := D) (O := O) ?_))
  k_with "execs cons While nil" => (k_here; (with_reducible refine nx_last (G := G) (D := D) (O := O) ?_))
  k_with "execs cons While cons" => (k_here; (with_reducible refine nx_cons (G := G) (D := D) (O := O) ?_))
  k_with "execs cons Try nil" => (k_here; (with_reducible refine nx_last (G := G) (D := D) (O := O) ?_))
  k_with "execs cons Try cons" => (k_here; (with_reducible refine nx_cons (G := G) (D := D) (O := O) ?_))
  trivial
theorem l_last {prog : Program} {w : World} {A : Around} {E : Value → Shared → Prop} {s : Shared} {h₀ : Heap} {L a : Addr} {its : Array Value} {n j : Nat} {news : Led} {Q : Value → Shared → Prop} {value slice : Expr} {u : Tok} {v : Value} (N : News h₀ L s.heap news) (hm : (a, W.listOf its n) ∈ news) (hz : its.size = j + 1) (hx : its[j]? = some v) (h : Q v s)
    (hs : subscripted slice false (.ref a) (.int (-1) u) = operate [.ref a, .int (-1) u] (getItem (.ref a) (.int (-1) u)) := by with_unfolding_all rfl) :
    wpAny (model prog w) A (subscriptTail value slice (.ref a) (.int (-1) u)) Q E s :=
  kde_neg (vs := its.toList) (by rw [Array.toArray_toList]; exact News.isList N hm) (by decide) (by decide) (j := j) (by
    have e := seqIndex_neg (k := -1) (n := its.toList.length) (by decide) (by rw [Array.length_toList, hz]; omega)
    rw [e, Array.length_toList, hz]
    congr 1
    omega) (by rw [Array.getElem?_toList]; exact hx) h hs
theorem words40 : True := by
  k_with "subscriptTail Name UnaryOp ref int!" => ((k_here; k_dflt (refine l_last (by k_asm) (by k_mem) (by assumption) (by assumption) ?_)))
  trivial
section
variable {w : World} {nd nu : Nat} {f : Addr} {args : List Value} {news : Led} {exc : Prop} {A A₀ : Around} {env : Env} {outer : List Env} {base g : Heap} {L : Addr} {mg mb : SMap} {mean : ExcName → Option Value} {m : SMap} {h : Heap} {G : Array GenState} {D : Drawn} {tk : Nat} {O : OsState} {Q E : Value → Shared → Prop} {nd' nu' : Nat}
theorem use_goal {x : Option Int} (c : Amb w A A₀ env outer base g L mg mb mean) (F : Fr g L h m) (N : News g L h news) (hd9 : A.depth + nd' < recursionLimit) (hu9 : A.units + nu' < cLine) (C : Ct w nd nu f args news (GoalP x) False) (h1 : Nat.ble nd nd' = true) (h2 : Nat.ble nu nu' = true)
    (retN : ∀ h' tk', x = none → Fr g L h' m → News g L h' news → Q .none ⟨h', G, D, tk', O⟩) (retS : ∀ k t h' tk', x = some k → Fr g L h' m → News g L h' news → Q (.int k t) ⟨h', G, D, tk', O⟩) : wpAny (model PG w) A (call (.ref f) args) Q E ⟨h, G, D, tk, O⟩ :=
  ct_use c F N hd9 hu9 C h1 h2 nofun fun _ _ h' tk' F N _ p => by
    have N' := news_sub N fun _ x => List.mem_append_right _ x
    cases p with
    | none hz e => exact e ▸ retN h' tk' hz F N'
    | some k t hz e => exact e ▸ retS k t h' tk' hz F N'
end
inductive JS (R so : Addr) (tw : Tok) (news : Led) (rows : List Row) (W : Int) (j : Nat) (m : SMap) (l : Led) : Prop
  | mk (its : Array Value) (k : Nat) (tl : Led) (e1 : m (Str.ofString "rows") = some (.ref R)) (e2 : m (Str.ofString "width") = some (.int W tw)) (e3 : m (Str.ofString "spots") = some (.ref so)) (e4 : m (Str.ofString "is_right") = some (.bool (okB rows W j)))
    (el : l = tl ++ (so, PySem.W.listOf its k) :: news) (hsz : its.size = j + 1) (hit : ∀ (i : Nat) v, (offs rows W (j + 1))[i]? = some v → ∃ t, its[i]? = some (Value.int v t)) (g1 : ∀ p ∈ tl, so < p.1) (g2 : Lt news tl) (hso : ∀ p ∈ news, p.1 < so)
theorem spots_0 {rows : List Row} {W : Int} {t : Tok} : ∀ (i : Nat) v, (offs rows W (0 + 1))[i]? = some v → ∃ t', (#[Value.int 0 t] : Array Value)[i]? = some (Value.int v t') := by
  intro i v h
  have e := offs_posn h
  have hi : i = 0 := by have := (List.getElem?_eq_some_iff.mp h).1; simpa [offs] using this
  subst hi
  subst e
  exact ⟨t, rfl⟩
theorem spots_push {rows : List Row} {W v : Int} {j : Nat} {its : Array Value} {t : Tok} (hit : ∀ (i : Nat) v, (offs rows W (j + 1))[i]? = some v → ∃ t, its[i]? = some (Value.int v t)) (hsz : its.size = j + 1) (hv : v = posn rows W (j + 1)) :
    ∀ (i : Nat) v', (offs rows W (j + 1 + 1))[i]? = some v' → ∃ t', (its.push (Value.int v t))[i]? = some (Value.int v' t') := by
  intro i v' hx
  have e := offs_posn hx
  have hi : i < j + 1 + 1 := by have := (List.getElem?_eq_some_iff.mp hx).1; simpa [offs] using this
  rcases Nat.lt_or_ge i (j + 1) with h | h
  · obtain ⟨t', ht⟩ := hit i v' (by rw [offs_get h, e])
    exact ⟨t', by rw [Array.getElem?_push_lt (by omega)]; rw [Array.getElem?_eq_getElem (by omega)] at ht; exact ht⟩
  · have : i = its.size := by omega
    subst this
    exact ⟨t, by rw [Array.getElem?_push_size, e, hsz, hv]⟩
theorem js_step {R so : Addr} {tw : Tok} {news tl l : Led} {rows : List Row} {W v : Int} {j k : Nat} {b : Bool} {m' : SMap} {its : Array Value} {tv : Tok} (e1 : m' (Str.ofString "rows") = some (.ref R)) (e2 : m' (Str.ofString "width") = some (.int W tw)) (e3 : m' (Str.ofString "spots") = some (.ref so)) (e4 : m' (Str.ofString "is_right") = some (.bool b))
    (el : l = tl ++ (so, PySem.W.listOf (its.push (.int v tv)) (k + 1)) :: news) (hb : b = okB rows W (j + 1)) (hv : v = posn rows W (j + 1)) (hsz : its.size = j + 1) (hit : ∀ (i : Nat) v, (offs rows W (j + 1))[i]? = some v → ∃ t, its[i]? = some (Value.int v t)) (g1 : ∀ p ∈ tl, so < p.1) (g2 : Lt news tl) (hso : ∀ p ∈ news, p.1 < so) : JS R so tw news rows W (j + 1) m' l :=
  ⟨_, _, tl, e1, e2, e3, by rw [e4, hb], el, by rw [Array.size_push, hsz], spots_push hit hsz hv, g1, g2, hso⟩
theorem okB_step {rows : List Row} {W : Int} {j : Nat} {r : Row} (hr : rows[j]? = some r) : okB rows W (j + 1) = (okB rows W j && rowB rows W j r) := by
  show (okB rows W j && (match rows[j]? with | none => true | some r => rowB rows W j r)) = _
  rw [hr]
theorem ali_val {h k : Int} : -(Int.fdiv (-h) k) * k = h + Int.fmod (-h) k := by
  have := Int.mul_fdiv_add_fmod (-h) k
  rw [Int.neg_mul, Int.mul_comm]
  omega
inductive SpotsP (b : Bool) (os : List Int) (tl : Led) (c : Addr) : Prop
  | mk (sp : Addr) (n : Nat) (h1 : (c, tupObj #[.ref sp, .bool b] n) ∈ tl) (h2 : IntsAt tl sp os)
theorem words41 : True := by
  k_with "call ref!" => ((k_here; (with_reducible show wpAny _ _ (call (Value.ref 632) _) _ _ _); k_dflt (refine use_goal c (by assumption) (by assumption) hd9 hu9 (goal_ct (rows := rows) (W := W) (hrr.mono (by show Sub _ _; k_extra "subz")) ⟨its, _, by k_mem, hsz2, hit⟩ (by omega)) rfl rfl (fun h7 tk7 hgo F7 N7 => ?_) (fun g7 t7 h7 tk7 hgo F7 N7 => ?_))))
  k_with "call builtin:list.append!" => ((k_here; k_dflt (refine append_K (by k_asm) (by k_asm) (UA _) ?_ (by assumption); intro h4 F4 N4)))
  k_with "binaryOp Mult int int!" => ((k_here; k_dflt (refine mul_int ?_ hmo)))
  k_with "binaryOp FloorDiv int int!" => ((k_here; k_dflt (refine floordiv_int hnz ?_ (Or.inl hnp))))
  trivial
theorem bits16 {k : Int} (h0 : 0 < k) (h1 : k ≤ 16) : Builtin.Int.intBits k ≤ 64 := by
  unfold Builtin.Int.intBits
  split
  · exact Nat.zero_le _
  · have : k.natAbs.log2 < 5 := (Nat.log2_lt (by omega)).mpr (by omega)
    omega
theorem spots_ct {w : World} {news : Led} {rows : List Row} {W : Int} {R : Addr} {t : Tok} (hR : RowsAt news R rows) (hlen : rows.length ≤ 10) (hok : ∀ r ∈ rows, r.Ok) (hW : 0 ≤ W) :
    Ct w 10 200 639 [.ref R, .int W t] news (RefP (SpotsP (okB rows W rows.length) (offs rows W (rows.length + 1)))) False := by
  obtain ⟨rits, rn, hr1, hr2, hr3⟩ := hR
  have hr1' : (R, PySem.W.listOf rits.toList.toArray rn) ∈ news := by rw [Array.toArray_toList]; exact hr1
  have hr4 : rits.toList.length = rows.length := by rw [Array.length_toList]; exact hr2
  refine ct_open2 (by k_is) (by k_is) (by kernel_rfl) rfl rfl rfl ?_; k_extra "ct_in"
  k_steps
  refine lp_enum (G := G) (D := D) (O := O) (vs := rits.toList) (JS R _ t news rows W) rfl rfl (by assumption) (by assumption) (.tail _ (.tail _ hr1')) ⟨_, _, [_], rfl, rfl, rfl, rfl, rfl, rfl, spots_0, List.forall_mem_cons.mpr ⟨lt_of_led (by assumption) (.head _), List.forall_mem_nil _⟩, lt_consS (by assumption) (by k_extra "subz") lt_nilL, by assumption⟩ ?turn ?done
  case turn =>
    rintro I oI oJ j v T tT m₁ l₁ h tk q7 hv hTup hmem ⟨its, k, tl, e1, e2, e3, e4, rfl, hsz, hit, g1, g2, hso⟩ F₁ N₁ off hr7 hn7
    replace F₁ := fr_eta4 F₁ e1 e2 e3 e4
    clear e1 e2 e3 e4
    have hj : j < rows.length := by have := (List.getElem?_eq_some_iff.mp hv).1; omega
    obtain ⟨r, hri⟩ : ∃ r, rows[j]? = some r := ⟨_, List.getElem?_eq_getElem hj⟩
    obtain ⟨ra, hra, hrr⟩ := hr3 j r hri
    obtain rfl : v = .ref ra := by rw [Array.getElem?_toList, hra] at hv; exact (Option.some.inj hv).symm
    obtain ⟨th, hth⟩ := hit j _ (offs_get (Nat.lt_succ_self j))
    have hsz2 : its.size = (offs rows W (j + 1)).length := by simp [offs, hsz]
    have hz : its.size ≤ sizeLine := by rw [hsz]; exact Nat.le_trans (Nat.le_trans hj hlen) (by decide)
    have UA : ∀ o', Upd _ (PySem.W.listOf its k) o' ((I + 1, oI) :: (I, oJ) :: (tl ++ (_, PySem.W.listOf its k) :: news)) ((I + 1, oI) :: (I, oJ) :: (tl ++ (_, o') :: news)) := fun o' => .tail (fun e => (off (_, PySem.W.listOf its k) (List.mem_append_right _ (.head _))).2 e.symm) (.tail (fun e => (off (_, PySem.W.listOf its k) (List.mem_append_right _ (.head _))).1 e.symm) (upd_app (off_ge g1 (Nat.le_refl _)) (.head fun p hp => Nat.ne_of_lt (hso p hp))))
    have ok := hok _ (List.mem_of_getElem? hri)
    have hoff := fun o' => fo_chg (P := fun a => a ≠ I ∧ a ≠ I + 1) (oF' := o') off
    cases hrr' : r with
    | gap k' =>
      subst hrr'
      cases hrr with
      | gap hg =>
      have hp := posn_step hri (W := W) rfl
      k_steps
      exact hn7 _ _ _ _ (by assumption) (by assumption) (hoff _) (by k_mem) (js_step rfl rfl rfl rfl rfl (by rw [okB_step hri]; exact (Bool.and_true _).symm) (by rw [hp]; first | exact ar_add ok.1 | (have := ok.1; omega)) hsz hit g1 g2 hso)
    | ali k' =>
      subst hrr'
      cases hrr with
      | ali hg =>
      have hp := posn_step hri (W := W) rfl
      have hm := Int.fmod_nonneg_of_pos (-(posn rows W j)) ok.1
      have ok1 := ok.1
      have hmo : ∀ {a : Int}, IntMulOk a k' := fun {a} => IntMulOk.of_right (bits16 ok.1 ok.2)
      have hnz : k' ≠ 0 := by omega
      have hnp : ∀ {a : Int}, Builtin.divisionGoesByPylong a k' = false := fun {a} => PyProof.noPylong_small (by have := ok.2; omega)
      k_steps
      exact hn7 _ _ _ _ (by assumption) (by assumption) (hoff _) (by k_mem) (js_step rfl rfl rfl rfl rfl (by rw [okB_step hri]; exact (Bool.and_true _).symm) (by rw [hp, ali_val]; first | exact ar_add (by assumption) | omega) hsz hit g1 g2 hso)
    | leb sg x y =>
      subst hrr'
      cases hrr with
      | leb hg =>
      have hp := posn_step hri (W := W) rfl
      k_steps
      exact hn7 _ _ _ _ (by assumption) (by assumption) (hoff _) (by k_mem) (js_step rfl rfl rfl rfl rfl (by rw [okB_step hri]; exact (Bool.and_true _).symm) (by rw [hp]; first | exact ar_add (by assumption) | omega) hsz hit g1 g2 hso)
    | org wd k' =>
      subst hrr'
      have hrr' := hrr
      cases hrr' with
      | org hg =>
      k_steps
      all_goals
        refine' hn7 _ _ _ _ (by assumption) (by assumption) (hoff _) (by k_mem) (js_step rfl rfl rfl rfl rfl ?zb ?zv hsz hit g1 g2 hso)
        case zb => rw [okB_step hri]; simp only [rowB, hgo]; simp_all
        case zv => first | (rw [posn_succ_some hri]; simp only [rawN, ← posn_one, hgo, stepN]; done) | (rw [posn_one] at hgo; rw [posn_step hri hgo]; first | exact ar_max | omega)
  case done =>
    rintro m₁ l₁ h tk ⟨its, k, tl, e1, e2, e3, e4, rfl, hsz, hit, g1, g2, hso⟩ hmem F₁ N₁
    rw [hr4] at e4 hsz hit
    replace F₁ := fr_eta4 F₁ e1 e2 e3 e4
    clear e1 e2 e3 e4
    k_steps
    refine' hr _ _ _ _ _ (by assumption) (ret_spl (by assumption) (by k_extra "k_spl")) (by k_extra "ltz") ?_
    exact ⟨_, rfl, .mk _ _ (by k_mem) ⟨its, k, by k_mem, by simp [offs, hsz], hit⟩⟩
-- T8
theorem enter_env {A A₀ : Around} {h base h₀ : Heap} {env : Env} {L : Addr} {m : SMap} {news : Led} (B : Below A₀ base [] h₀) (F : Fr h₀ L h m) (N : News h₀ L h news) (hA : A.frames = some [env]) (hf : env.frame = some L) (hk : env.scope.kind = .function) :
    Below A base [env] (hideAll h (news.map (·.1))) ∧ h₀.StaysIn (hideAll h (news.map (·.1))) ∧ L ∉ news.map (·.1) := by
  have nm : ∀ b o, h₀.get? b = some o → b ∉ news.map (·.1) := fun b o e q => by
    obtain ⟨p, hp, rfl⟩ := List.mem_map.mp q
    rw [(N p hp).2.2] at e; cases e
  have st : h₀.StaysIn (hideAll h (news.map (·.1))) := fun b o e => hideAll_get _ (F.keep b o e) (nm b o e)
  have nL : L ∉ news.map (·.1) := fun q => by
    obtain ⟨p, hp, e⟩ := List.mem_map.mp q
    exact (N p hp).2.1 e
  obtain ⟨oL, es, ep, hL, hLd, hLk, hLf⟩ := F.ns
  have hnew : base.get? L = none := by
    cases hq : base.get? L with
    | none => rfl
    | some o => exact absurd (Nat.lt_of_lt_of_le (Heap.lt_size (B.stays L o hq)) F.above) (Nat.lt_irrefl _)
  refine ⟨⟨hA, fun b o e => st b o (B.stays b o e), ?_⟩, st, nL⟩
  exact .cons (by rw [hk]; decide) hf ⟨oL, es, ep, hideAll_get _ hL nL, hLd, hLk, hLf⟩ hnew (B.frames.of_keeps fun b o e _ => ⟨o, st b o e, rfl⟩)
noncomputable def Ct0 (w : World) (nd nu : Nat) (f : Addr) (args : List Value) (news : Led) (Post : Led → Value → Prop) : Prop :=
  ∀ (A A₀ : Around) (env : Env) (h₀ : Heap) (L : Addr) (mg mb : SMap) (mean : ExcName → Option Value) (m : SMap) (h : Heap) (G : Array GenState) (D : Drawn) (tk : Nat) (O : OsState) (Q E : Value → Shared → Prop),
    Amb w A A₀ env [] h₀ h₀ L mg mb mean → Fr h₀ L h m → News h₀ L h news → A.depth + nd < recursionLimit → A.units + nu < cLine →
    (∀ r tl h' tk', Fr h₀ L h' m → News h₀ L h' (tl ++ news) → Lt news tl → Post tl r → Q r ⟨h', G, D, tk', O⟩) →
    wpAny (model PG w) A (call (.ref f) args) Q E ⟨h, G, D, tk, O⟩
/-- what a walk through a body is given, where the caller is the top and the callee may turn its ground -/
noncomputable def Body0 (w : World) (nd nu : Nat) (qual : Str) (scope : Scope) (f : Addr) (cdv : Value) (body : List Stmt) (fm : SMap) (news : Led) (PR : Led → Value → Prop) : Prop :=
  ∀ (dp un : Nat) (fr : Option (List Env)) (gd : Option (List Code)) (A₀ : Around) (env : Env) (base g : Heap) (L : Addr) (mg mb : SMap) (mean : ExcName → Option Value) (h : Heap) (G : Array GenState) (D : Drawn) (tk : Nat) (O : OsState) (q : Flow → Shared → Prop) (e : Value → Shared → Prop),
    Below A₀ base [env] g → (⟨none, dp, fr, gd, un⟩ : Around) = A₀.deeper (envOf qual scope L f cdv) → A₀.frames = some [env] → KtsDicts ([env].filterMap (·.frame)) g →
    Amb w (⟨none, dp, fr, gd, un⟩ : Around) A₀ (envOf qual scope L f cdv) [env] base g L mg mb mean → PassesOwn (model PG w) (⟨none, dp, fr, gd, un⟩ : Around) (envOf qual scope L f cdv) e → (∀ hv, PassesOwnAt (model PG w) ((⟨none, dp, fr, gd, un⟩ : Around).mark hv) (⟨none, dp, fr, gd, un⟩ : Around) (envOf qual scope L f cdv) e) → (Mine.hd.heap_1_39 w.params).In base → Top Mine.hd.view_1_40 lo5 mean mg mb base → (Mine.hd.heap_1_39 w.params).In g → Top Mine.hd.view_1_40 lo5 mean mg mb g → Fr g L h fm → News g L h news → dp + nd < recursionLimit → un + nu < cLine →
    (∀ r tl h' tk' m' g', KtsTurn ([env].filterMap (·.frame)) g g' → Fr g' L h' m' → News g' L h' (tl ++ news) → Lt news tl → PR tl r → q (.ret r) ⟨h', G, D, tk', O⟩) →
    wpAny (model PG w) (⟨none, dp, fr, gd, un⟩ : Around) (execs body (envOf qual scope L f cdv)) q e ⟨h, G, D, tk, O⟩
theorem ct0_open1 {w : World} {nd nu nd' nu' : Nat} {f : Addr} {news : Led} {Post : Led → Value → Prop} {name qual : Str} {body : List Stmt} {scope : Scope} {dV kV doc pm cdv ct oc : Value} {an od : Option Addr} {osl : Array (Option Value)} {x1 : Str} {n1 : Option Expr} {p1 : Pos} {v1 : Value}
    (ho : (Mine.hd.heap_1_39 w.params).lookup f = some ⟨oc, od, .func (fnOf name qual ⟨[], [⟨x1, n1, p1⟩], none, [], [], none, []⟩ body scope dV kV doc pm an cdv ct), osl⟩) (hcd : codeIn (Mine.hd.heap_1_39 w.params) cdv qual = true)
    (hs : okSc scope [x1] = true) (hb : bindArgs (fnOf name qual ⟨[], [⟨x1, n1, p1⟩], none, [], [], none, []⟩ body scope dV kV doc pm an cdv ct) ⟨[v1], []⟩ = pure [(x1, v1)]) (hnd : nd' = nd + 1) (hnu : nu' = nu + 3) (hB : Body0 w nd nu qual scope f cdv body (setF x1 v1 noF) news Post) : Ct0 w nd' nu' f [v1] news Post := by
  obtain ⟨c1, c2, c3, c4, c5, c6⟩ := okSc_spec hs
  subst hnd hnu
  unfold Body0 at hB
  unfold Ct0
  intro A A₀ env h₀ L mg mb mean m h G D tk O Q E c F N hd9 hu9 hret
  refine wpAny_call ?_
  have X := c.X.keeps F.keep
  obtain ⟨B₂, st, nL⟩ := enter_env c.B F N c.hA c.hf c.hk
  obtain ⟨oL, es, ep, hL, hLd, hLk, hLf⟩ := F.ns
  refine codeAny_call_def (fd := fnOf name qual ⟨[], [⟨x1, n1, p1⟩], none, [], [], none, []⟩ body scope dV kV doc pm an cdv ct) (body := body) (binds := [(x1, v1)]) (by first | exact ar_r0 hd9 | omega) (X _ _ ho) rfl (c.T.nolimit.keeps F.keep) (codeRec_of X hcd) rfl (BindsTo.of_eq hb) c4 (fun y hy => c5 _ (by simpa using List.mem_map_of_mem (f := Prod.fst) hy)) (fun h₁ hns hk₁ => ?_) c1 c2 c3
  have hfm : [env].filterMap (·.frame) = [L] := by rw [List.filterMap_cons_some c.hf]; rfl
  have nL₀ : h₀.get? L = none := kts_self F
  have hLg : (hideAll h (news.map (·.1))).get? L = some oL := hideAll_get _ hL nL
  have Fg : Fr (hideAll h (news.map (·.1))) h.objs.size h₁ (setF x1 v1 noF) := ⟨by
    have e : setF x1 v1 noF = (fun y => ([(x1, v1)] : List (Str × Value)).reverse.lookup y) := by funext y; simp only [List.reverse_cons, List.reverse_nil, List.nil_append, lk_cons, List.lookup_nil, setF, noF]
    rw [e]; exact hns, fun b o e => hk₁ b o (of_hideAll _ e), Nat.le_of_eq (hideAll_size _ _)⟩
  have Ng : News (hideAll h (news.map (·.1))) h.objs.size h₁ news := fun p hp => ⟨hk₁ _ _ (N p hp).1, Nat.ne_of_lt (Heap.lt_size (N p hp).1), hideAll_none _ (List.mem_map_of_mem hp)⟩
  have hA' : (A.deeper (envOf qual scope h.objs.size f cdv)).frames = some (envOf qual scope h.objs.size f cdv :: [env]) := Around.frames_deeper c.hA
  obtain ⟨hh0, dp, fr, gd, un⟩ := A
  obtain rfl : hh0 = none := c.hh
  refine wpAny_mono (hB (dp + 1) (un + 3) _ _ ⟨none, dp, fr, gd, un⟩ env h₀ (hideAll h (news.map (·.1))) h.objs.size mg mb mean h₁ G D _ O
    (fun fl s' => ∃ r tl h' tk' m' g', fl = .ret r ∧ s' = ⟨h', G, D, tk', O⟩ ∧ KtsTurn [L] (hideAll h (news.map (·.1))) g' ∧ Fr g' h.objs.size h' m' ∧ News g' h.objs.size h' (tl ++ news) ∧ Lt news tl ∧ Post tl r)
    (fun e s' => wpAny (model PG w) ((⟨none, dp, fr, gd, un⟩ : Around).deeper (envOf qual scope h.objs.size f cdv)) (leaving (envOf qual scope h.objs.size f cdv) e) _ _ s') B₂ rfl c.hA ?_ ⟨B₂, c.X.keeps st, c.T.keeps st, hA', rfl, c3, rfl⟩ (by passes_own) (fun hv => PassesOwnAt.leaving) c.X c.T (c.X.keeps st) (c.T.keeps st) Fg Ng ?_ ?_ ?_) ?_ (fun _ _ y => y)
  · rw [hfm]
    exact fun b hb => by rw [List.mem_singleton.mp hb]; exact ⟨oL, es, ep, hLg, hLd⟩
  · first | exact ar_rk hd9 | exact ar_rk (k := 2) hd9 | (dsimp only at hd9; omega)
  · first | exact ar_rk hu9 | exact ar_rk (k := 4) hu9 | (dsimp only at hu9; omega)
  · intro r tl h' tk' m' g' T' F' N' lt P
    rw [hfm] at T'
    exact ⟨r, tl, h', tk', m', g', rfl, rfl, T', F', N', lt, P⟩
  · rintro fl s' ⟨r, tl, h', tk', m', g', rfl, rfl, T', F', N', lt, P⟩
    obtain ⟨sl, hs'⟩ := T'.up hLg
    refine hret r tl h' tk' ⟨⟨_, es, ep, F'.keep _ _ hs', hLd, hLk, hLf⟩, fun b o e => F'.keep b o (T'.other b o (st b o e) fun q => ?_), F.above⟩ (fun p hp => ⟨(N' p hp).1, fun q => ?_, ?_⟩) lt P
    · rw [List.mem_singleton.mp q, nL₀] at e; cases e
    · have := (N' p hp).2.2; rw [q, hs'] at this; cases this
    · cases q : h₀.get? p.1 with
      | none => rfl
      | some o =>
        obtain ⟨sl', hs''⟩ := T'.up (st _ _ q)
        have := (N' p hp).2.2
        rw [hs''] at this
        cases this
inductive LaidO (w : World) (rows : List Row) (lb : Option Nat) (W : Int) (tl : Led) (r : Value) : Prop
  | ok (hf : Fine rows W true rows.length) (q : LA) (e : r = .ref q.y) (h : LayAt w tl q rows lb W)
  | no (hf : ¬ Fine rows W true rows.length) (e : r = .none)
noncomputable def StopMark8 : Prop := True
theorem words42 : True := by
  k_with "call ref!" => (((with_reducible show wpAny _ _ (call (Value.ref 334) _) _ _ _); (rename StopMark8 => hsm9zq); clear hsm9zq; refine stop_in ?_))
  trivial
theorem law_laid_ct {w : World} {news : Led} {p : PA} {rows : List Row} (hP : ProgAt w news p rows) (hlen : rows.length ≤ 10) (hok : ∀ r ∈ rows, r.Ok) {lb : Option Nat} (hlb : LebIs rows lb) (hL1 : LebOk rows 1) (hLF : LebOk rows (finN rows lb 1)) :
    Ct0 w 70 1400 653 [.ref p.P] news (LaidO w rows lb (finN rows lb 1)) := by
  refine ct0_open1 (by k_is) (by k_is) (by kernel_rfl) rfl rfl rfl ?_
  unfold Body0
  intro dp un fr gd A₀ env base gg L mg mb mean hh0 G D tk O qq ee B hAd hA0 hKd c hpo hpa XB TB X T F N hd9 hu9 hr
  have hsm : StopMark8 := trivial
  k_steps
  unfold Stop
  k_here
  refine ct_use c (by assumption) (by assumption) hd9 hu9 (relax_ct (rows := rows) (by k_extra "mono") hlen hok hlb hL1 hLF) rfl rfl ?exc ?ret
  case exc =>
    intro hx9 e9 t9 vs9 h9 tk9 g9 FG9 R9 U9
    rw [hAd] at hpa ⊢
    refine' caught_SO0 R9 FG9 ?xK U9 ?xXB ?xTB ?xD KtsTurn.refl ?xex ?xq ?_ (hE := hpa _)
    case xK => assumption
    case xXB => assumption
    case xTB => assumption
    case xD => assumption
    case xex => k_is
    case xq => first | kts_isx | k_is
    intro h5 g5 n5 T5 F5 N5 G5 M5 K5 X5 P5 D5
    k_steps
    exact hr _ [] _ _ _ _ T5 (by assumption) (by assumption) lt_nilL (.no hx9 rfl)
  case ret =>
    rintro r6 tl6 h6 tk6 F6 N6 hl6 ⟨hfine6, q6, rfl, hq6⟩
    k_steps
    exact hr _ tl6 _ _ _ _ KtsTurn.refl (by assumption) (by assumption) (by assumption) (.ok hfine6 _ rfl hq6)
-- U2
theorem words43 : True := by
  k_with "execs cons If nil" => (k_here; ((with_reducible refine wp_last (G := G) (D := D) (O := O) (by assumption) ?_); intro tk8; (try dsimp only)))
  k_with "execs cons If cons" => (k_here; ((with_reducible refine wp_cons (G := G) (D := D) (O := O) (by assumption) ?_); intro q8 tk8 hq8 hr8; (try dsimp only)))
  k_with "execs cons For nil" => (k_here; ((with_reducible refine wp_last (G := G) (D := D) (O := O) (by assumption) ?_); intro tk8; (try dsimp only)))
  k_with "execs cons For cons" => (k_here; ((with_reducible refine wp_cons (G := G) (D := D) (O := O) (by assumption) ?_); intro q8 tk8 hq8 hr8; (try dsimp only)))
  k_with "execs cons While nil" => (k_here; ((with_reducible refine wp_last (G := G) (D := D) (O := O) (by assumption) ?_); intro tk8; (try dsimp only)))
  k_with "execs cons While cons" => (k_here; ((with_reducible refine wp_cons (G := G) (D := D) (O := O) (by assumption) ?_); intro q8 tk8 hq8 hr8; (try dsimp only)))
  k_with "execs cons Try nil" => (k_here; ((with_reducible refine wp_last (G := G) (D := D) (O := O) (by assumption) ?_); intro tk8; (try dsimp only)))
  k_with "execs cons Try cons" => (k_here; ((with_reducible refine wp_cons (G := G) (D := D) (O := O) (by assumption) ?_); intro q8 tk8 hq8 hr8; (try dsimp only)))
  trivial
theorem off_of {news : Led} {d : Addr} (h : ∀ p ∈ news, p.1 < d) : ∀ p ∈ news, p.1 ≠ d := fun p hp => Nat.ne_of_lt (h p hp)
theorem words44 : True := by
  k_with "setAttr ref!" => ((k_here; k_dflt (refine set_dict (by k_asm) (by k_asm) (by k_asm) (by k_inst) rfl hs hp (by assumption) hh (by k_get) (by k_put) (.tail hxd (.head hnd)) (Nat.le_of_ble_eq_true rfl) ?_; intro h' F' N')))
  trivial
theorem piece_init {w : World} {x d C : Addr} {way : Str} {t : Tok} {news : Led} (hs : findIn (Mine.hd.heap_1_39 w.params) (.ref C) "__setattr__" = some (some (.builtin "object.__setattr__"))) (hp : plainOver (Mine.hd.heap_1_39 w.params) C = true) (ht1 : takerIn (Mine.hd.heap_1_39 w.params) C "way" = some none) (ht2 : takerIn (Mine.hd.heap_1_39 w.params) C "at" = some none) (hh : hasDictIn (Mine.hd.heap_1_39 w.params) C = true) (hxd : x ≠ d) (hnd : ∀ p ∈ news, p.1 ≠ d) :
    CtG w 3 30 362 [.ref x, .str way t, .none] ((x, instObj C d) :: (d, dictOf [] 0) :: news) (fun nw r => ∃ k1 k2, nw = (x, instObj C d) :: (d, dictOf [ent w "way" k1 (.str way t), ent w "at" k2 .none] 2) :: news) := by
  refine ctg_open3 (by k_is) (by k_is) (by kernel_rfl) rfl rfl rfl ?_; k_extra "ct_in"
  k_steps
  exact hn _ _ _ _ (by assumption) (nil_news (by assumption)) lt_nil ⟨_, _, rfl⟩
theorem words45 : True := by
  k_with "setAttr ref!" => ((k_here; k_dflt (refine set_dict (by k_asm) (by k_asm) (by k_asm) (by k_inst) rfl (by k_is) (by k_is) (by k_is) (by k_is) (by k_get) (by k_put) (.tail (Nat.ne_of_gt (by assumption)) (.head (off_of (by assumption)))) (Nat.le_of_ble_eq_true rfl) ?_; intro hzq Fzq Nzq)))
  k_with "call ref!" => ((k_here; (with_reducible show wpAny _ _ (call (Value.ref 362) _) _ _ _); k_dflt (refine use_g c (by assumption) (by assumption) hd9 hu9 (piece_init (by k_is) (by k_is) (by k_is) (by k_is) (by k_is) (Nat.ne_of_gt l2) (fun p hp => Nat.ne_of_lt (l1 p hp))) rfl rfl ?_; rintro r7 nw7 h7 tk7 F7 N7 ⟨k1, k2, rfl⟩)))
  trivial
theorem space_ct {w : World} {news : Led} {k : Int} {t t' : Tok} {i : Nat} : Ct w 7 60 462 [.int k t, .int 0 t'] news (RefP fun tl a => PieceAt w tl i a (.gap k)) False := by
  refine' ct_cls4 (by k_is) (by k_is) (by k_is) (by k_is) (by k_is) (by kernel_rfl) ?hb rfl rfl ?_; (case hb => intro x s X; first | exact BindsTo.of_eq rfl | exact binds_K X rfl (by k_is) rfl rfl rfl); (intro x0 d0 l1 l2; k_extra "ct_in")
  k_steps
  exact hn [_, _] _ _ _ (by assumption) (by assumption) (lt_cons (fun p hp => Nat.lt_trans (l1 p hp) l2) (lt_cons l1 lt_nilL)) ⟨_, rfl, .gap (.head _) (.tail _ (.head _))⟩
theorem align_ct2 {w : World} {news : Led} {k : Int} {t : Tok} {i : Nat} : Ct w 7 60 401 [.int k t, .bool false] news (RefP fun tl a => PieceAt w tl i a (.ali k)) False := by
  refine' ct_cls4 (by k_is) (by k_is) (by k_is) (by k_is) (by k_is) (by kernel_rfl) ?hb rfl rfl ?_; (case hb => intro x s X; first | exact BindsTo.of_eq rfl | exact binds_K X rfl (by k_is) rfl rfl rfl); (intro x0 d0 l1 l2; k_extra "ct_in")
  k_steps
  exact hn [_, _] _ _ _ (by assumption) (by assumption) (lt_cons (fun p hp => Nat.lt_trans (l1 p hp) l2) (lt_cons l1 lt_nilL)) ⟨_, rfl, .ali (.head _) (.tail _ (.head _))⟩
inductive OrgT (w : World) (f : Addr) (tl : Led) (a : Addr) : Prop
  | mk (d t1 k1 k2 k3 : Nat) (h : (a, instObj 428 d) ∈ tl) (hd : (d, dictOf [ent w "way" k1 (.str (Str.ofString "org") t1), ent w "at" k2 .none, ent w "affine" k3 (.ref f)] 3) ∈ tl)
theorem orgp_ct {w : World} {news : Led} {f : Addr} : Ct w 7 60 428 [.ref f] news (RefP (OrgT w f)) False := by
  refine' ct_cls3 (by k_is) (by k_is) (by k_is) (by k_is) (by k_is) (by kernel_rfl) ?hb rfl rfl ?_; (case hb => intro x s X; first | exact BindsTo.of_eq rfl | exact binds_K X rfl (by k_is) rfl rfl rfl); (intro x0 d0 l1 l2; k_extra "ct_in")
  k_steps
  exact hn [_, _] _ _ _ (by assumption) (by assumption) (lt_cons (fun p hp => Nat.lt_trans (l1 p hp) l2) (lt_cons l1 lt_nilL)) ⟨_, rfl, .mk _ _ _ _ _ (.head _) (.tail _ (.head _))⟩
inductive LebT (w : World) (f : Addr) (sg : Bool) (tl : Led) (a : Addr) : Prop
  | mk (d t1 k1 k2 k3 k4 : Nat) (h : (a, instObj 489 d) ∈ tl) (hd : (d, dictOf [ent w "way" k1 (.str (Str.ofString "leb") t1), ent w "at" k2 .none, ent w "affine" k3 (.ref f), ent w "is_signed" k4 (.bool sg)] 4) ∈ tl)
theorem lebp_ct {w : World} {news : Led} {f : Addr} {sg : Bool} : Ct w 7 60 489 [.ref f, .bool sg] news (RefP (LebT w f sg)) False := by
  refine' ct_cls4 (by k_is) (by k_is) (by k_is) (by k_is) (by k_is) (by kernel_rfl) ?hb rfl rfl ?_; (case hb => intro x s X; first | exact BindsTo.of_eq rfl | exact binds_K X rfl (by k_is) rfl rfl rfl); (intro x0 d0 l1 l2; k_extra "ct_in")
  k_steps
  exact hn [_, _] _ _ _ (by assumption) (by assumption) (lt_cons (fun p hp => Nat.lt_trans (l1 p hp) l2) (lt_cons l1 lt_nilL)) ⟨_, rfl, .mk _ _ _ _ _ _ (.head _) (.tail _ (.head _))⟩
-- U3
theorem words46 : True := by
  k_with "call builtin:len!" => ((k_here; (with_reducible show wpAny _ _ (call (Value.builtin "len") [Value.ref _]) _ _ _); k_dflt (refine len_list (News.isList (by k_asm) (by k_mem)) (by assumption) ?_)))
  k_with "setItem ref str!" => ((k_here; k_dflt (refine kda_set (knd := PySem.strKind _ _) (by k_asm) (by k_asm) (.tail (Nat.ne_of_gt (lt_of_led (by assumption) h4)) U) (by assumption) (strKind_is _ _ _ _) (by assumption) ?_; intro h' o' F' N' hd')))
  k_with "call builtin:list.append!" => ((k_here; k_dflt (refine append_K (by k_asm) (by k_asm) U ?_ (by assumption); intro h4 F4 N4)))
  trivial
theorem mark_ct {w : World} {led : Led} {gL : Obj → Led} {S dS SP SL : Addr} {oL : Obj} {its : Array Value} {k k1 k2 k3 tS : Nat} {snm nm : Str} {t : Tok} {kvs : List (Str × Value)} (h1 : (S, instObj 548 dS) ∈ led)
    (h2 : (dS, dictOf [ent w "name" k1 (.str snm tS), ent w "pieces" k2 (.ref SP), ent w "labels" k3 (.ref SL)] 3) ∈ led) (h3 : (SP, PySem.W.listOf its k) ∈ led) (h4 : (SL, oL) ∈ led) (U : UpdF SL oL led gL) (hL : Obj.IsDictOf (PySem.strKind PG w) oL kvs) (hz : kvs.length ≤ sizeLine) (hz2 : (its.size : Int) < 2 ^ 63) :
    CtG w 3 40 533 [.ref S, .str nm t] led (fun nw r => ∃ T oL' n t1 t2, nw = (T, tupObj #[.int its.size t1, .int 0 t2] n) :: gL oL' ∧ Obj.IsDictOf (PySem.strKind PG w) oL' (stored kvs nm (.ref T)) ∧ ∀ p ∈ led, p.1 < T) := by
  refine ctg_open2 (by k_is) (by k_is) (by kernel_rfl) rfl rfl rfl ?_; k_extra "ct_in"
  k_steps
  exact hn _ _ _ _ (by assumption) (nil_news (by assumption)) lt_nil ⟨_, _, _, _, _, rfl, by assumption, by assumption⟩
theorem addp_ct {w : World} {led led' : Led} {S dS SP SL : Addr} {its : Array Value} {k k1 k2 k3 tS : Nat} {snm : Str} {x : Addr} (h1 : (S, instObj 548 dS) ∈ led)
    (h2 : (dS, dictOf [ent w "name" k1 (.str snm tS), ent w "pieces" k2 (.ref SP), ent w "labels" k3 (.ref SL)] 3) ∈ led) (h3 : (SP, PySem.W.listOf its k) ∈ led) (U : Upd SP (PySem.W.listOf its k) (PySem.W.listOf (its.push (.ref x)) (k + 1)) led led') (hz : its.size ≤ sizeLine) :
    CtG w 3 40 526 [.ref S, .ref x] led (fun nw r => nw = led') := by
  refine ctg_open2 (by k_is) (by k_is) (by kernel_rfl) rfl rfl rfl ?_; k_extra "ct_in"
  k_steps
  exact hn _ _ _ _ (by assumption) (nil_news (by assumption)) lt_nil rfl
noncomputable abbrev progL (w : World) (P dP sec nm eq gl : Addr) (oS oN oE : Obj) (k1 k2 k3 k4 : Tok) (r : Led) : Led := (gl, PySem.W.listOf #[] 0) :: (eq, oE) :: (nm, oN) :: (sec, oS) :: (P, instObj 609 dP) :: (dP, dictOf [ent w "sections" k1 (.ref sec), ent w "names" k2 (.ref nm), ent w "equates" k3 (.ref eq), ent w "globals_" k4 (.ref gl)] 4) :: r
noncomputable abbrev secL (w : World) (S dS SP SL : Addr) (oL oP : Obj) (nm : Str) (tS k1 k2 k3 : Tok) (r : Led) : Led := (SL, oL) :: (SP, oP) :: (S, instObj 548 dS) :: (dS, dictOf [ent w "name" k1 (.str nm tS), ent w "pieces" k2 (.ref SP), ent w "labels" k3 (.ref SL)] 3) :: r
inductive Prog0 (w : World) (tl : Led) (P : Addr) : Prop
  | mk (dP sec nm eq gl : Addr) (oS oE : Obj) (k1 k2 k3 k4 : Tok) (e : tl = progL w P dP sec nm eq gl oS (PySem.W.listOf #[] 0) oE k1 k2 k3 k4 []) (o1 : @LT.lt Nat _ dP P) (o2 : @LT.lt Nat _ P sec) (o3 : @LT.lt Nat _ sec nm) (o4 : @LT.lt Nat _ nm eq) (o5 : @LT.lt Nat _ eq gl)
    (s1 : (sec == sysModules) = false) (s2 : (eq == sysModules) = false) (hS : Obj.IsDictOf (PySem.strKind PG w) oS []) (hE : Obj.IsDictOf (PySem.strKind PG w) oE [])
inductive Sec0 (w : World) (nm : Str) (tS : Tok) (tl : Led) (S : Addr) : Prop
  | mk (dS SP SL : Addr) (oL : Obj) (k1 k2 k3 : Tok) (e : tl = secL w S dS SP SL oL (PySem.W.listOf #[] 0) nm tS k1 k2 k3 []) (o1 : @LT.lt Nat _ dS S) (o2 : @LT.lt Nat _ S SP) (o3 : @LT.lt Nat _ SP SL) (s1 : (SL == sysModules) = false) (hL : Obj.IsDictOf (PySem.strKind PG w) oL [])
theorem program_new_ct {w : World} {news : Led} : Ct w 4 60 609 [] news (RefP (Prog0 w)) False := by
  refine' ct_cls1 (by k_is) (by k_is) (by k_is) (by k_is) (by k_is) (by kernel_rfl) ?hb rfl rfl ?_; (case hb => intro x s X; first | exact BindsTo.of_eq rfl | exact binds_K X rfl (by k_is) rfl rfl rfl); (intro x0 d0 l1 l2; k_extra "ct_in")
  k_steps
  refine hn [_, _, _, _, _, _] _ _ _ (by assumption) (by assumption) ?ylt ?yp
  case ylt => exact lt_consS (by assumption) (by k_extra "subz") (lt_consS (by assumption) (by k_extra "subz") (lt_consS (by assumption) (by k_extra "subz") (lt_consS (by assumption) (by k_extra "subz") (lt_cons (fun p hp => Nat.lt_trans (l1 p hp) l2) (lt_cons l1 lt_nilL)))))
  case yp => exact ⟨_, rfl, .mk _ _ _ _ _ _ _ _ _ _ _ rfl l2 (lt_of_led (by assumption) (by k_mem)) (lt_of_led (by assumption) (by k_mem)) (lt_of_led (by assumption) (by k_mem)) (lt_of_led (by assumption) (by k_mem)) (by assumption) (by assumption) (by assumption) (by assumption)⟩
theorem section_new_ct {w : World} {news : Led} {nm : Str} {t : Tok} : Ct w 4 60 548 [.str nm t] news (RefP (Sec0 w nm t)) False := by
  refine' ct_cls2 (by k_is) (by k_is) (by k_is) (by k_is) (by k_is) (by kernel_rfl) ?hb rfl rfl ?_; (case hb => intro x s X; first | exact BindsTo.of_eq rfl | exact binds_K X rfl (by k_is) rfl rfl rfl); (intro x0 d0 l1 l2; k_extra "ct_in")
  k_steps
  refine hn [_, _, _, _] _ _ _ (by assumption) (by assumption) ?ylt ?yp
  case ylt => exact lt_consS (by assumption) (by k_extra "subz") (lt_consS (by assumption) (by k_extra "subz") (lt_cons (fun p hp => Nat.lt_trans (l1 p hp) l2) (lt_cons l1 lt_nilL)))
  case yp => exact ⟨_, rfl, .mk _ _ _ _ _ _ _ rfl l2 (lt_of_led (by assumption) (by k_mem)) (lt_of_led (by assumption) (by k_mem)) (by assumption) (by assumption)⟩
-- U4
theorem valueAt_stored {K : Type} [DecidableEq K] {kvs : List (K × Value)} {k : K} {v : Value} (h : valueAt kvs k = none) : valueAt (kvs ++ [(k, v)]) k = some v := by
  have h' : List.find? (fun x : K × Value => decide (x.1 = k)) kvs = none := by
    cases e : List.find? (fun x : K × Value => decide (x.1 = k)) kvs with
    | none => rfl
    | some x => unfold valueAt at h; rw [e] at h; cases h
  unfold valueAt
  rw [List.find?_append, h', List.find?_cons_of_pos (by simp)]
  rfl
theorem words47 : True := by
  k_with "call ref!" => ((k_here; (with_reducible show wpAny _ _ (call (Value.ref 548) _) _ _ _); k_dflt (refine use_ref c (by assumption) (by assumption) hd9 hu9 section_new_ct rfl rfl nofun ?_; rintro T9 tl9 h9 tk9 F9 N9 hl9 ⟨dT, TP, TL, oL, k5, k6, k7, rfl, z1, z2, z3, zs, hL⟩; simp only [List.cons_append, List.nil_append] at N9)))
  k_with "setItem ref str!" => ((k_here; k_dflt (refine kda_set (knd := PySem.strKind _ _) (by k_asm) (by k_asm) (updF_app (a := [_, _, _, _]) (fun p hp => Nat.ne_of_gt (hl9 _ hms p hp)) US) (by assumption) (strKind_is _ _ _ _) (by assumption) ?_; intro h' o' F' N' hd'; (try dsimp only at N'); rw [stored_new hno] at hd')))
  k_with "call builtin:list.append!" => ((k_here; k_dflt (refine append_K (by k_asm) (by k_asm) (upd_app (a := [_, _, _, _]) (fun p hp => Nat.ne_of_gt (hl9 _ hmn p hp)) (UN _)) ?_ (by assumption); intro h4 F4 N4)))
  k_with "subscriptTail Attribute Name Name ref str" => ((k_here; k_dflt (refine kd_sub (knd := PySem.strKind _ _) (by k_asm) (by k_mem) (by assumption) (strKind_is _ _ _ _) (valueAt_stored (by assumption)) ?_)))
  trivial
inductive SecG (w : World) (nm : Str) (P dP sec nmL eq gl : Addr) (its : Array Value) (k : Nat) (oE : Obj) (k1 k2 k3 k4 t : Tok) (kvs : List (Str × Value)) (pre news : Led) (nw : Led) (r : Value) : Prop
  | mk (T dT TP TL : Addr) (oL oS : Obj) (k5 k6 k7 : Tok) (er : r = .ref T) (e : nw = secL w T dT TP TL oL (PySem.W.listOf #[] 0) nm t k5 k6 k7 (pre ++ progL w P dP sec nmL eq gl oS (PySem.W.listOf (its.push (.str nm t)) (k + 1)) oE k1 k2 k3 k4 news))
    (hS : Obj.IsDictOf (PySem.strKind PG w) oS (kvs ++ [(nm, .ref T)])) (hL : Obj.IsDictOf (PySem.strKind PG w) oL []) (zs : (TL == sysModules) = false) (z1 : @LT.lt Nat _ dT T) (z2 : @LT.lt Nat _ T TP) (z3 : @LT.lt Nat _ TP TL) (z0 : @LT.lt Nat _ gl dT) (zp : ∀ p ∈ pre, p.1 < dT)
theorem section_ct {w : World} {nm : Str} {P dP sec nmL eq gl : Addr} {its : Array Value} {k : Nat} {oS oE : Obj} {k1 k2 k3 k4 t : Tok} {kvs : List (Str × Value)} {pre news : Led} (hpre : ∀ p ∈ pre, gl < p.1) (o1 : @LT.lt Nat _ dP P) (o2 : @LT.lt Nat _ P sec) (o3 : @LT.lt Nat _ sec nmL) (o4 : @LT.lt Nat _ nmL eq) (o5 : @LT.lt Nat _ eq gl) (hnews : ∀ p ∈ news, p.1 < dP)
    (s1 : (sec == sysModules) = false) (hS : Obj.IsDictOf (PySem.strKind PG w) oS kvs) (hno : valueAt kvs nm = none) (hz : kvs.length ≤ sizeLine) (hz2 : its.size ≤ sizeLine) :
    CtG w 12 150 573 [.ref P, .str nm t] (pre ++ progL w P dP sec nmL eq gl oS (PySem.W.listOf its k) oE k1 k2 k3 k4 news) (SecG w nm P dP sec nmL eq gl its k oE k1 k2 k3 k4 t kvs pre news) := by
  have hms : (sec, oS) ∈ pre ++ progL w P dP sec nmL eq gl oS (PySem.W.listOf its k) oE k1 k2 k3 k4 news := List.mem_append_right _ (.tail _ (.tail _ (.tail _ (.head _))))
  have hmn : (nmL, PySem.W.listOf its k) ∈ pre ++ progL w P dP sec nmL eq gl oS (PySem.W.listOf its k) oE k1 k2 k3 k4 news := List.mem_append_right _ (.tail _ (.tail _ (.head _)))
  have c1 : @LT.lt Nat _ sec gl := Nat.lt_trans o3 (Nat.lt_trans o4 o5)
  have c2 : @LT.lt Nat _ nmL gl := Nat.lt_trans o4 o5
  have c3 : @LT.lt Nat _ dP sec := Nat.lt_trans o1 o2
  have US : UpdF sec oS (pre ++ progL w P dP sec nmL eq gl oS (PySem.W.listOf its k) oE k1 k2 k3 k4 news) (fun o => pre ++ progL w P dP sec nmL eq gl o (PySem.W.listOf its k) oE k1 k2 k3 k4 news) :=
    updF_app (fun p hp => Nat.ne_of_gt (Nat.lt_trans c1 (hpre p hp))) (.tail (Nat.ne_of_gt c1) (.tail (Nat.ne_of_gt (Nat.lt_trans o3 o4)) (.tail (Nat.ne_of_gt o3) (.head (List.forall_mem_cons.mpr ⟨Nat.ne_of_lt o2, List.forall_mem_cons.mpr ⟨Nat.ne_of_lt c3, fun p hp => Nat.ne_of_lt (Nat.lt_trans (hnews p hp) c3)⟩⟩)))))
  have UN : ∀ o, Upd nmL (PySem.W.listOf its k) (PySem.W.listOf (its.push (.str nm t)) (k + 1)) (pre ++ progL w P dP sec nmL eq gl o (PySem.W.listOf its k) oE k1 k2 k3 k4 news) (pre ++ progL w P dP sec nmL eq gl o (PySem.W.listOf (its.push (.str nm t)) (k + 1)) oE k1 k2 k3 k4 news) := fun o =>
    upd_app (fun p hp => Nat.ne_of_gt (Nat.lt_trans c2 (hpre p hp))) (.tail (Nat.ne_of_gt c2) (.tail (Nat.ne_of_gt o4) (.head (List.forall_mem_cons.mpr ⟨Nat.ne_of_lt o3, List.forall_mem_cons.mpr ⟨Nat.ne_of_lt (Nat.lt_trans o2 o3), List.forall_mem_cons.mpr ⟨Nat.ne_of_lt (Nat.lt_trans c3 o3), fun p hp => Nat.ne_of_lt (Nat.lt_trans (hnews p hp) (Nat.lt_trans c3 o3))⟩⟩⟩))))
  refine ctg_open2 (by k_is) (by k_is) (by kernel_rfl) rfl rfl rfl ?_; k_extra "ct_in"
  k_steps
  exact hr _ _ _ _ _ (by assumption) (nil_news (by assumption)) lt_nil ⟨_, _, _, _, _, _, _, _, _, rfl, rfl, by assumption, hL, zs, z1, z2, z3, hl9 _ (List.mem_append_right _ (.head _)) _ (.tail _ (.tail _ (.tail _ (.head _)))), fun p hp => hl9 _ (List.mem_append_left _ hp) _ (.tail _ (.tail _ (.tail _ (.head _))))⟩
-- U5
theorem aff2_ct {w : World} {news : Led} {k : Int} {p : Str} {t1 t2 : Tok} : Ct w 4 60 178 [.int k t1, .str p t2] news (RefP fun tl c => AffAt w tl c k p (Str.ofString "")) False := by
  by_cases h : p = Str.ofString ""
  · subst h
    refine' ct_cls4 (by k_is) (by k_is) (by k_is) (by k_is) (by k_is) (by kernel_rfl) ?hb rfl rfl ?_; (case hb => intro x s X; first | exact BindsTo.of_eq rfl | exact binds_K X rfl (by k_is) rfl rfl rfl); (intro x0 d0 l1 l2; k_extra "ct_in")
    k_steps
    all_goals first
      | (exfalso; exact bne_self (by assumption))
      | exact hn [_, _] _ _ _ (by assumption) (by assumption) (lt_cons (fun p hp => Nat.lt_trans (l1 p hp) l2) (lt_cons l1 lt_nilL)) ⟨_, rfl, .mk _ _ _ _ _ _ _ (.head _) (.tail _ (.head _))⟩
  · refine' ct_cls4 (by k_is) (by k_is) (by k_is) (by k_is) (by k_is) (by kernel_rfl) ?hb rfl rfl ?_; (case hb => intro x s X; first | exact BindsTo.of_eq rfl | exact binds_K X rfl (by k_is) rfl rfl rfl); (intro x0 d0 l1 l2; k_extra "ct_in")
    k_steps
    all_goals first
      | (exfalso; exact bne_no h (by assumption))
      | exact hn [_, _] _ _ _ (by assumption) (by assumption) (lt_cons (fun p hp => Nat.lt_trans (l1 p hp) l2) (lt_cons l1 lt_nilL)) ⟨_, rfl, .mk _ _ _ _ _ _ _ (.head _) (.tail _ (.head _))⟩
theorem aff1_ct {w : World} {news : Led} {k : Int} {t1 : Tok} : Ct w 4 60 178 [.int k t1] news (RefP fun tl c => AffAt w tl c k (Str.ofString "") (Str.ofString "")) False := by
  refine' ct_cls4 (by k_is) (by k_is) (by k_is) (by k_is) (by k_is) (by kernel_rfl) ?hb rfl rfl ?_; (case hb => intro x s X; first | exact BindsTo.of_eq rfl | exact binds_K X rfl (by k_is) rfl rfl rfl); (intro x0 d0 l1 l2; k_extra "ct_in")
  k_steps
  all_goals first
    | (exfalso; exact bne_self (by assumption))
    | exact hn [_, _] _ _ _ (by assumption) (by assumption) (lt_cons (fun p hp => Nat.lt_trans (l1 p hp) l2) (lt_cons l1 lt_nilL)) ⟨_, rfl, .mk _ _ _ _ _ _ _ (.head _) (.tail _ (.head _))⟩
theorem affl_ct {w : World} {news : Led} {x y : Nat} {t1 t2 t3 : Tok} (hx : x ≤ 12) (hy : y ≤ 12) : Ct w 4 60 178 [.int 0 t1, .str (lab x) t2, .str (lab y) t3] news (RefP fun tl c => AffAt w tl c 0 (if x = y then Str.ofString "" else lab x) (if x = y then Str.ofString "" else lab y)) False := by
  by_cases h : x = y
  · subst h
    rw [if_pos rfl]
    exact aff3e_ct
  · rw [if_neg h, if_neg h]
    exact aff3_ct fun e => h (lab_inj_le hx hy e)
-- U6
theorem words48 : True := by
  k_with "execs cons If nil" => (k_here; (with_reducible refine nx_last (G := G) (D := D) (O := O) ?_))
  k_with "execs cons If cons" => (k_here; (with_reducible refine nx_cons (G := G) (D := D) (O := O) ?_))
  k_with "execs cons For nil" => (k_here; (with_reducible refine nx_last (G := G) (D := D) (O := O) ?_))
  k_with "execs cons For cons" => (k_here; (with_reducible refine nx_cons (G := G) (D := D) (O := O) ?_))
  k_with "execs cons While nil" => (k_here; (with_reducible refine nx_last (G := G) (D := D) (O := O) ?_))
  k_with "execs cons While cons" => (k_here; (with_reducible refine nx_cons (G := G) (D := D) (O := O) ?_))
  k_with "execs cons Try nil" => (k_here; (with_reducible refine nx_last (G := G) (D := D) (O := O) ?_))
  k_with "execs cons Try cons" => (k_here; (with_reducible refine nx_cons (G := G) (D := D) (O := O) ?_))
  trivial
theorem news_eq {g h : Heap} {L : Addr} {a b : Led} (N : News g L h a) (e : a = b) : News g L h b := e ▸ N
theorem off_new2 {led tl : Led} {I : Addr} {o1 o2 : Obj} (h : Lt led tl) (m1 : (I, o1) ∈ led) (m2 : (I + 1, o2) ∈ led) : ∀ p ∈ tl, p.1 ≠ I ∧ p.1 ≠ I + 1 := fun p hp => ⟨Nat.ne_of_gt (h _ m1 p hp), Nat.ne_of_gt (h _ m2 p hp)⟩
theorem off_mid {P : Addr → Prop} {TL TP : Addr} {o1 o2 o1' o2' : Obj} {tl A4 base : Led} (h : ∀ p ∈ tl ++ (A4 ++ (TL, o1) :: (TP, o2) :: base), P p.1) : ∀ p ∈ tl ++ (A4 ++ (TL, o1') :: (TP, o2') :: base), P p.1 :=
  all_app (fun p hp => h p (List.mem_append_left _ hp)) (all_app (fun p hp => h p (List.mem_append_right _ (List.mem_append_left _ hp))) (List.forall_mem_cons.mpr ⟨h (TL, o1) (List.mem_append_right _ (List.mem_append_right _ (.head _))), List.forall_mem_cons.mpr ⟨h (TP, o2) (List.mem_append_right _ (List.mem_append_right _ (.tail _ (.head _)))), fun p hp => h p (List.mem_append_right _ (List.mem_append_right _ (.tail _ (.tail _ hp))))⟩⟩))
inductive JP (w : World) (P T D R TL TP X : Addr) (tl0 A4 base : Led) (rows : List Row) (j : Nat) (m : SMap) (l : Led) : Prop
  | mk (oTL : Obj) (its : Array Value) (k : Nat) (tl : Led) (ts : List Addr) (e1 : m (Str.ofString "rows") = some (.ref R)) (e2 : m (Str.ofString "program") = some (.ref P)) (e3 : m (Str.ofString "text") = some (.ref T)) (e4 : m (Str.ofString "more") = some (.ref D))
    (el : l = tl ++ (A4 ++ (TL, oTL) :: (TP, PySem.W.listOf its k) :: base)) (hsz : its.size = j) (hpc : ∀ i r, i < j → rows[i]? = some r → ∃ a, its[i]? = some (.ref a) ∧ PieceAt w tl i a r) (hL : Obj.IsDictOf (PySem.strKind PG w) oTL (labKvs 0 ts)) (hts : ts.length = j) (hlab : LabsAt tl ts)
    (hX : ∀ p ∈ tl, X < p.1) (hs : Sub tl0 tl)
theorem labKvs_snoc {a : Addr} : ∀ {ts : List Addr} {i : Nat}, labKvs i (ts ++ [a]) = labKvs i ts ++ [(lab (i + ts.length), .ref a)]
  | [], _ => rfl
  | b :: r, i => by
    show (lab i, Value.ref b) :: labKvs (i + 1) (r ++ [a]) = (lab i, Value.ref b) :: (labKvs (i + 1) r ++ _)
    rw [labKvs_snoc (ts := r) (i := i + 1), List.length_cons, Nat.add_assoc, Nat.add_comm 1]
theorem valueAt_lab_new {n : Nat} (hn : n ≤ 12) : ∀ {ts : List Addr} {i : Nat}, i + ts.length ≤ n → valueAt (labKvs i ts) (lab n) = none
  | [], _, _ => rfl
  | b :: r, i, h => by
    have ih := valueAt_lab_new hn (ts := r) (i := i + 1) (by rw [List.length_cons] at h; omega)
    have ne : lab i ≠ lab n := fun e => by have := lab_inj_le (by rw [List.length_cons] at h; omega) hn e; rw [List.length_cons] at h; omega
    unfold valueAt at ih ⊢
    show (List.find? _ ((lab i, Value.ref b) :: labKvs (i + 1) r)).map _ = _
    rw [List.find?_cons_of_neg (by simpa using ne)]
    exact ih
theorem labs_snoc {led : Led} {ts : List Addr} {T : Addr} {t1 t2 n : Nat} (h : LabsAt led ts) (hT : (T, tupObj #[.int ts.length t1, .int 0 t2] n) ∈ led) : LabsAt led (ts ++ [T]) := by
  intro i a e
  rcases Nat.lt_or_ge i ts.length with hi | hi
  · rw [List.getElem?_append_left hi] at e; exact h i a e
  · have hl := (List.getElem?_eq_some_iff.mp e).1
    rw [List.length_append] at hl
    obtain rfl : i = ts.length := Nat.le_antisymm (Nat.le_of_lt_succ hl) hi
    rw [List.getElem?_append_right (Nat.le_refl _), Nat.sub_self] at e
    obtain rfl := Option.some.inj e
    exact ⟨_, _, _, hT⟩
theorem jp_step {w : World} {P T D R TL TP X : Addr} {tl0 A4 base : Led} {rows : List Row} {j k : Nat} {m' : SMap} {l : Led} {oTL' : Obj} {its : Array Value} {tl tln : Led} {ts : List Addr} {r : Row} {a Tm : Addr} {t1 t2 n : Nat} (hj : j ≤ 10) (e1 : m' (Str.ofString "rows") = some (.ref R)) (e2 : m' (Str.ofString "program") = some (.ref P)) (e3 : m' (Str.ofString "text") = some (.ref T)) (e4 : m' (Str.ofString "more") = some (.ref D))
    (el : l = (tln ++ tl) ++ (A4 ++ (TL, oTL') :: (TP, PySem.W.listOf (its.push (.ref a)) (k + 1)) :: base)) (hsz : its.size = j) (hpc : ∀ i r, i < j → rows[i]? = some r → ∃ a, its[i]? = some (.ref a) ∧ PieceAt w tl i a r) (hL' : Obj.IsDictOf (PySem.strKind PG w) oTL' (stored (labKvs 0 ts) (lab j) (.ref Tm))) (hts : ts.length = j) (hlab : LabsAt tl ts)
    (hX : ∀ p ∈ tl, X < p.1) (hs : Sub tl0 tl) (hri : rows[j]? = some r) (hp : PieceAt w tln j a r) (hT : (Tm, tupObj #[.int its.size t1, .int 0 t2] n) ∈ tln) (hXn : ∀ p ∈ tln, X < p.1) : JP w P T D R TL TP X tl0 A4 base rows (j + 1) m' l := by
  have s1 : Sub tl (tln ++ tl) := fun p hp => List.mem_append_right _ hp
  have s2 : Sub tln (tln ++ tl) := fun p hp => List.mem_append_left _ hp
  refine ⟨oTL', its.push (.ref a), k + 1, tln ++ tl, ts ++ [Tm], e1, e2, e3, e4, el, by rw [Array.size_push, hsz], ?_, ?_, by rw [List.length_append, hts]; rfl, ?_, all_app hXn hX, fun p hp => s1 p (hs p hp)⟩
  · intro i r' hi hr'
    rcases Nat.lt_or_ge i j with h | h
    · obtain ⟨a', h1, h2⟩ := hpc i r' h hr'
      exact ⟨a', by rw [Array.getElem?_push_lt (by omega)]; rw [Array.getElem?_eq_getElem (by omega)] at h1; exact h1, h2.mono s1⟩
    · obtain rfl : i = j := by omega
      rw [hri] at hr'
      obtain rfl := Option.some.inj hr'
      exact ⟨a, by rw [← hsz, Array.getElem?_push_size], hp.mono s2⟩
  · rw [labKvs_snoc, Nat.zero_add, hts, ← stored_new (valueAt_lab_new (by omega) (by omega))]
    exact hL'
  · refine labs_snoc (hlab.mono s1) (t1 := t1) (t2 := t2) (n := n) ?_
    rw [hts, ← hsz]
    exact s2 _ hT
inductive PF (w : World) (news : Led) (TS dT TP TL X : Addr) (snm : Str) (A4 base : Led) : Prop
  | mk (tT a5 a6 a7 : Tok) (cA : ∀ p ∈ A4, TL < p.1 ∧ p.1 ≤ X) (cB : ∀ p ∈ base, p.1 < TP) (z : TP < TL) (zX : TL < X) (sX : ∃ o, (X, o) ∈ A4) (s1 : (TS, instObj 548 dT) ∈ base) (s2 : (dT, dictOf [ent w "name" a5 (.str snm tT), ent w "pieces" a6 (.ref TP), ent w "labels" a7 (.ref TL)] 3) ∈ base) (sn : Sub news base)
section
variable {w : World} {A : Around} {E : Value → Shared → Prop} {env : Env} {h₀ : Heap} {body : List Stmt} {Q : Flow → Shared → Prop} {hp : Heap} {G : Array GenState} {D : Drawn} {t0 : Nat} {O : OsState} {L : Addr}
theorem lp_prog {elts : List Expr} {ke : Nat} {pe : Pos} {P TS DS R TL TP X dT : Addr} {snm : Str} {oTL : Obj} {news tl0 A4 base led : Led} {rows : List Row} {vs : List Value} {k : Nat} {m₀ : SMap} (hL : env.locals = L) (hh : A.handled = none) (F : Fr h₀ L hp m₀) (N : News h₀ L hp led) (hf : PF w news TS dT TP TL X snm A4 base)
    (e : led = tl0 ++ (A4 ++ (TL, oTL) :: (TP, PySem.W.listOf #[] 0) :: base)) (hm : (R, PySem.W.listOf vs.toArray k) ∈ led) (e1 : m₀ (Str.ofString "rows") = some (.ref R)) (e2 : m₀ (Str.ofString "program") = some (.ref P)) (e3 : m₀ (Str.ofString "text") = some (.ref TS)) (e4 : m₀ (Str.ofString "more") = some (.ref DS)) (hTL : Obj.IsDictOf (PySem.strKind PG w) oTL []) (hX : ∀ p ∈ tl0, X < p.1)
    (turn : ∀ A4 base, PF w news TS dT TP TL X snm A4 base → ∀ I oI oJ i v T t m₁ n₁ h tk (q : Flow → Shared → Prop), vs[i]? = some v → IsTup h T #[.int (i : Nat) t, v] → (R, PySem.W.listOf vs.toArray k) ∈ n₁ → JP w P TS DS R TL TP X tl0 A4 base rows i m₁ n₁ → Fr h₀ L h m₁ → News h₀ L h ((I + 1, oI) :: (I, oJ) :: n₁) → (∀ p ∈ n₁, p.1 ≠ I ∧ p.1 ≠ I + 1) → (∀ v s', Q (.ret v) s' → q (.ret v) s') →
      (∀ h' tk' m' n', Fr h₀ L h' m' → News h₀ L h' ((I + 1, oI) :: (I, oJ) :: n') → (∀ p ∈ n', p.1 ≠ I ∧ p.1 ≠ I + 1) → (R, PySem.W.listOf vs.toArray k) ∈ n' → JP w P TS DS R TL TP X tl0 A4 base rows (i + 1) m' n' → q .next ⟨h', G, D, tk', O⟩) →
      wpAny (model PG w) A (assign (.Tuple elts ke pe) env (.ref T)) (fun _ s₂ => wpAny (model PG w) A (execs body env) q E s₂) E ⟨h, G, D, tk, O⟩)
    (done : ∀ m₁ n₁ h tk, JP w P TS DS R TL TP X tl0 A4 base rows vs.length m₁ n₁ → Fr h₀ L h m₁ → News h₀ L h n₁ → Q .next ⟨h, G, D, tk, O⟩) :
    wpAny (model PG w) A (call (.type "enumerate") [.ref R]) (fun xv s₁ => wpAny (model PG w) A (pyIter xv) (fun it s₂ => TurnsAt PG w A h₀ env (.Tuple elts ke pe) body Q E it s₂) E s₁) E ⟨hp, G, D, t0, O⟩ := by
  subst e
  exact lp_enum (G := G) (D := D) (O := O) (JP w P TS DS R TL TP X tl0 A4 base rows) hL hh F N hm ⟨oTL, #[], 0, tl0, [], e1, e2, e3, e4, rfl, rfl, (fun i r hi => nomatch hi), hTL, rfl, (fun i a hi => by cases hi), hX, fun _ h => h⟩ (fun I oI oJ i v T t m₁ n₁ h tk q a1 a2 a3 a4 a5 a6 a7 a8 a9 => turn A4 base hf I oI oJ i v T t m₁ n₁ h tk q a1 a2 a3 a4 a5 a6 a7 a8 a9) (fun m₁ n₁ h tk j _ F N => done m₁ n₁ h tk j F N)
end
theorem assoc5 {a b c d r : Led} {x : Addr × Obj} : a ++ (b ++ (c ++ (d ++ x :: r))) = (a ++ (b ++ (c ++ (d ++ [x])))) ++ r := by simp only [List.append_assoc, List.cons_append, List.nil_append]
theorem lt_low {news tl : Led} {b : Addr} (hn : ∀ q ∈ news, q.1 < b) (h : ∀ p ∈ tl, @LE.le Nat _ b p.1) : Lt news tl := fun q hq p hp => Nat.lt_of_lt_of_le (hn q hq) (h p hp)
theorem gt_new' {led tl : Led} {fo : Addr} {o : Obj} (h : Lt led tl) (hm : (fo, o) ∈ led) : ∀ p ∈ tl, fo < p.1 := fun p hp => h _ hm p hp
section
variable {w : World} {P dP sec nmL eq gl TS dT TP TL DS dD DP DL : Addr} {oS oN oE oTL oTP oDL oDP : Obj} {k1 k2 k3 k4 tT a5 a6 a7 tD b5 b6 b7 : Tok} {n1 n2 : Str} {news : Led}
theorem upd_eq (o1 : @LT.lt Nat _ dP P) (o2 : @LT.lt Nat _ P sec) (o3 : @LT.lt Nat _ sec nmL) (o4 : @LT.lt Nat _ nmL eq) (o5 : @LT.lt Nat _ eq gl) (y0 : @LT.lt Nat _ gl dT) (y1 : @LT.lt Nat _ dT TS) (y2 : @LT.lt Nat _ TS TP) (y3 : @LT.lt Nat _ TP TL) (x0 : @LT.lt Nat _ gl dD) (x1 : @LT.lt Nat _ dD DS) (x2 : @LT.lt Nat _ DS DP) (x3 : @LT.lt Nat _ DP DL) (hn0 : ∀ p ∈ news, p.1 < dP) :
    UpdF eq oE (secL w DS dD DP DL oDL oDP n1 tD b5 b6 b7 (secL w TS dT TP TL oTL oTP n2 tT a5 a6 a7 (progL w P dP sec nmL eq gl oS oN oE k1 k2 k3 k4 news))) (fun o => secL w DS dD DP DL oDL oDP n1 tD b5 b6 b7 (secL w TS dT TP TL oTL oTP n2 tT a5 a6 a7 (progL w P dP sec nmL eq gl oS oN o k1 k2 k3 k4 news))) := by
  have u0 : @LT.lt Nat _ eq dT := Nat.lt_trans o5 y0
  have u1 : @LT.lt Nat _ eq TS := Nat.lt_trans u0 y1
  have u2 : @LT.lt Nat _ eq TP := Nat.lt_trans u1 y2
  have u3 : @LT.lt Nat _ eq TL := Nat.lt_trans u2 y3
  have v0 : @LT.lt Nat _ eq dD := Nat.lt_trans o5 x0
  have v1 : @LT.lt Nat _ eq DS := Nat.lt_trans v0 x1
  have v2 : @LT.lt Nat _ eq DP := Nat.lt_trans v1 x2
  have v3 : @LT.lt Nat _ eq DL := Nat.lt_trans v2 x3
  have q1 : @LT.lt Nat _ sec eq := Nat.lt_trans o3 o4
  have q2 : @LT.lt Nat _ P eq := Nat.lt_trans o2 q1
  have q3 : @LT.lt Nat _ dP eq := Nat.lt_trans o1 q2
  exact .tail (Nat.ne_of_gt v3) (.tail (Nat.ne_of_gt v2) (.tail (Nat.ne_of_gt v1) (.tail (Nat.ne_of_gt v0) (.tail (Nat.ne_of_gt u3) (.tail (Nat.ne_of_gt u2) (.tail (Nat.ne_of_gt u1) (.tail (Nat.ne_of_gt u0) (.tail (Nat.ne_of_gt o5) (.head (List.forall_mem_cons.mpr ⟨Nat.ne_of_lt o4, List.forall_mem_cons.mpr ⟨Nat.ne_of_lt q1, List.forall_mem_cons.mpr ⟨Nat.ne_of_lt q2, List.forall_mem_cons.mpr ⟨Nat.ne_of_lt q3, fun p hp => Nat.ne_of_lt (Nat.lt_trans (hn0 p hp) q3)⟩⟩⟩⟩))))))))))
theorem base_ne (o1 : @LT.lt Nat _ dP P) (o2 : @LT.lt Nat _ P sec) (o3 : @LT.lt Nat _ sec nmL) (o4 : @LT.lt Nat _ nmL eq) (o5 : @LT.lt Nat _ eq gl) (y0 : @LT.lt Nat _ gl dT) (y1 : @LT.lt Nat _ dT TS) (y2 : @LT.lt Nat _ TS TP) (hn0 : ∀ p ∈ news, p.1 < dP) {o : Obj} : ∀ p ∈ (TS, instObj 548 dT) :: (dT, o) :: progL w P dP sec nmL eq gl oS oN oE k1 k2 k3 k4 news, @LT.lt Nat _ p.1 TP := by
  have r0 : @LT.lt Nat _ dT TP := Nat.lt_trans y1 y2
  have r1 : @LT.lt Nat _ gl TP := Nat.lt_trans y0 r0
  have r2 : @LT.lt Nat _ eq TP := Nat.lt_trans o5 r1
  have r3 : @LT.lt Nat _ nmL TP := Nat.lt_trans o4 r2
  have r4 : @LT.lt Nat _ sec TP := Nat.lt_trans o3 r3
  have r5 : @LT.lt Nat _ P TP := Nat.lt_trans o2 r4
  have r6 : @LT.lt Nat _ dP TP := Nat.lt_trans o1 r5
  exact List.forall_mem_cons.mpr ⟨y2, List.forall_mem_cons.mpr ⟨r0, List.forall_mem_cons.mpr ⟨r1, List.forall_mem_cons.mpr ⟨r2, List.forall_mem_cons.mpr ⟨r3, List.forall_mem_cons.mpr ⟨r4, List.forall_mem_cons.mpr ⟨r5, List.forall_mem_cons.mpr ⟨r6, fun p hp => Nat.lt_trans (hn0 p hp) r6⟩⟩⟩⟩⟩⟩⟩⟩
end
section
variable {w : World} {TP TL DS dD DP DL : Addr} {oL oL' o2 oDL oDP oDP' : Obj} {tD b5 b6 b7 : Tok} {n1 : Str} {tl base : Led}
theorem upd_TL (hX : ∀ p ∈ tl, DL < p.1) (x1 : @LT.lt Nat _ dD DS) (x2 : @LT.lt Nat _ DS DP) (x3 : @LT.lt Nat _ DP DL) (hX0 : @LT.lt Nat _ TL dD) (y3 : @LT.lt Nat _ TP TL) (hb : ∀ p ∈ base, @LT.lt Nat _ p.1 TP) :
    UpdF TL oL (tl ++ (secL w DS dD DP DL oDL oDP n1 tD b5 b6 b7 [] ++ (TL, oL) :: (TP, o2) :: base)) (fun o => tl ++ (secL w DS dD DP DL oDL oDP n1 tD b5 b6 b7 [] ++ (TL, o) :: (TP, o2) :: base)) := by
  have r3 : @LT.lt Nat _ TL DS := Nat.lt_trans hX0 x1
  have r2 : @LT.lt Nat _ TL DP := Nat.lt_trans r3 x2
  have r1 : @LT.lt Nat _ TL DL := Nat.lt_trans r2 x3
  exact updF_app (fun p hp => Nat.ne_of_gt (Nat.lt_trans r1 (hX p hp))) (.tail (Nat.ne_of_gt r1) (.tail (Nat.ne_of_gt r2) (.tail (Nat.ne_of_gt r3) (.tail (Nat.ne_of_gt hX0) (.head (List.forall_mem_cons.mpr ⟨Nat.ne_of_lt y3, fun p hp => Nat.ne_of_lt (Nat.lt_trans (hb p hp) y3)⟩))))))
theorem upd_DL (hX : ∀ p ∈ tl, DL < p.1) (x1 : @LT.lt Nat _ dD DS) (x2 : @LT.lt Nat _ DS DP) (x3 : @LT.lt Nat _ DP DL) (hX0 : @LT.lt Nat _ TL dD) (y3 : @LT.lt Nat _ TP TL) (hb : ∀ p ∈ base, @LT.lt Nat _ p.1 TP) :
    UpdF DL oDL (tl ++ (secL w DS dD DP DL oDL oDP n1 tD b5 b6 b7 [] ++ (TL, oL) :: (TP, o2) :: base)) (fun o => tl ++ (secL w DS dD DP DL o oDP n1 tD b5 b6 b7 [] ++ (TL, oL) :: (TP, o2) :: base)) := by
  have q1 : @LT.lt Nat _ DS DL := Nat.lt_trans x2 x3
  have q2 : @LT.lt Nat _ dD DL := Nat.lt_trans x1 q1
  have q3 : @LT.lt Nat _ TL DL := Nat.lt_trans hX0 q2
  have q4 : @LT.lt Nat _ TP DL := Nat.lt_trans y3 q3
  exact updF_app (fun p hp => Nat.ne_of_gt (hX p hp)) (.head (List.forall_mem_cons.mpr ⟨Nat.ne_of_lt x3, List.forall_mem_cons.mpr ⟨Nat.ne_of_lt q1, List.forall_mem_cons.mpr ⟨Nat.ne_of_lt q2, List.forall_mem_cons.mpr ⟨Nat.ne_of_lt q3, List.forall_mem_cons.mpr ⟨Nat.ne_of_lt q4, fun p hp => Nat.ne_of_lt (Nat.lt_trans (hb p hp) q4)⟩⟩⟩⟩⟩))
theorem upd_DP (hX : ∀ p ∈ tl, DL < p.1) (x1 : @LT.lt Nat _ dD DS) (x2 : @LT.lt Nat _ DS DP) (x3 : @LT.lt Nat _ DP DL) (hX0 : @LT.lt Nat _ TL dD) (y3 : @LT.lt Nat _ TP TL) (hb : ∀ p ∈ base, @LT.lt Nat _ p.1 TP) :
    Upd DP oDP oDP' (tl ++ (secL w DS dD DP DL oDL oDP n1 tD b5 b6 b7 [] ++ (TL, oL) :: (TP, o2) :: base)) (tl ++ (secL w DS dD DP DL oDL oDP' n1 tD b5 b6 b7 [] ++ (TL, oL) :: (TP, o2) :: base)) := by
  have q2 : @LT.lt Nat _ dD DP := Nat.lt_trans x1 x2
  have q3 : @LT.lt Nat _ TL DP := Nat.lt_trans hX0 q2
  have q4 : @LT.lt Nat _ TP DP := Nat.lt_trans y3 q3
  exact upd_app (fun p hp => Nat.ne_of_gt (Nat.lt_trans x3 (hX p hp))) (.tail (Nat.ne_of_gt x3) (.head (List.forall_mem_cons.mpr ⟨Nat.ne_of_lt x2, List.forall_mem_cons.mpr ⟨Nat.ne_of_lt q2, List.forall_mem_cons.mpr ⟨Nat.ne_of_lt q3, List.forall_mem_cons.mpr ⟨Nat.ne_of_lt q4, fun p hp => Nat.ne_of_lt (Nat.lt_trans (hb p hp) q4)⟩⟩⟩⟩)))
end
theorem words49 : True := by
  k_with "k_updF" => (first | exact upd_eq o1 o2 o3 o4 o5 y0 y1 y2 y3 x0 x1 x2 x3 hn0 | exact UM | exact upd_TL hX x1 x2 x3 hX0 y3 (base_ne o1 o2 o3 o4 o5 y0 y1 y2 hn0) | exact upd_DL hX x1 x2 x3 hX0 y3 (base_ne o1 o2 o3 o4 o5 y0 y1 y2 hn0) | (apply updF_app; (focus (k_all)); (focus (k_updF))) | (apply UpdF.tail; (focus (k_ne)); (focus (k_updF))))
  k_with "updz" => (first | exact UB _ _ | exact upd_DP hX x1 x2 x3 hX0 y3 (base_ne o1 o2 o3 o4 o5 y0 y1 y2 hn0) | (apply upd_app; (focus (k_all)); (focus (k_extra "updz"))) | (apply Upd.tail; (focus (k_ne)); (focus (k_extra "updz"))))
  k_with "call ref!" => ((k_here; (with_reducible show wpAny _ _ (call (Value.ref 609) _) _ _ _); k_dflt (refine use_ref c (by assumption) (by assumption) hd9 hu9 program_new_ct rfl rfl nofun ?_; rintro P tl0 h0 tk0 F0 N0 hl0 ⟨dP, sec, nmL, eq, gl, oS, oE, k1, k2, k3, k4, rfl, o1, o2, o3, o4, o5, s1, s2, hS, hE⟩; simp only [List.cons_append, List.nil_append] at N0; have hn0 : ∀ p ∈ news, p.1 < dP := (fun p hp => hl0 p hp _ (.tail _ (.tail _ (.tail _ (.tail _ (.tail _ (.head _))))))))))
  k_with "call ref!" => ((k_here; (with_reducible show wpAny _ _ (call (Value.ref 573) [_, Value.str (Str.ofString ".text") _]) _ _ _); k_dflt (refine use_g c (by assumption) (by assumption) hd9 hu9 (section_ct (pre := []) (kvs := []) (List.forall_mem_nil _) o1 o2 o3 o4 o5 hn0 s1 hS rfl (Nat.zero_le _) (Nat.zero_le _)) rfl rfl ?_; rintro rT nwT hT' tkT FT NT ⟨TS, dT, TP, TL, oTL, oS1, a5, a6, a7, rfl, rfl, hS1, hTL, zsT, y1, y2, y3, y0, _⟩; simp only [List.nil_append] at NT hS1)))
  k_with "call ref!" => ((k_here; (with_reducible show wpAny _ _ (call (Value.ref 573) [_, Value.str (Str.ofString ".data") _]) _ _ _); k_dflt (refine use_g c (by assumption) (by assumption) hd9 hu9 (section_ct (pre := secL w TS dT TP TL oTL (PySem.W.listOf #[] 0) (Str.ofString ".text") _ a5 a6 a7 []) (List.forall_mem_cons.mpr ⟨Nat.lt_trans (Nat.lt_trans (Nat.lt_trans y0 y1) y2) y3, List.forall_mem_cons.mpr ⟨Nat.lt_trans (Nat.lt_trans y0 y1) y2, List.forall_mem_cons.mpr ⟨Nat.lt_trans y0 y1, List.forall_mem_cons.mpr ⟨y0, List.forall_mem_nil _⟩⟩⟩⟩) o1 o2 o3 o4 o5 hn0 s1 hS1 (by kernel_rfl) (Nat.le_of_ble_eq_true (by kernel_rfl)) (Nat.le_of_ble_eq_true (by kernel_rfl))) rfl rfl ?_; rintro rD nwD hD' tkD FD ND ⟨DS, dD, DP, DL, oDL, oS2, b5, b6, b7, rfl, rfl, hS2, hDL, zsD, x1, x2, x3, x0, xp⟩; simp only [List.nil_append, List.cons_append] at ND hS2)))
  k_with "call ref!" => ((k_here; (with_reducible show wpAny _ _ (call (Value.ref 178) [_, _]) _ _ _); k_dflt (refine use_ref c (by assumption) (by assumption) hd9 hu9 aff2_ct rfl rfl nofun ?_; intro f8 tl8 h8 tk8 F8 N8 hl8 hA8)))
  k_with "call ref!" => ((k_here; (with_reducible show wpAny _ _ (call (Value.ref 178) [_]) _ _ _); k_dflt (refine use_ref c (by assumption) (by assumption) hd9 hu9 aff1_ct rfl rfl nofun ?_; intro f8 tl8 h8 tk8 F8 N8 hl8 hA8)))
  k_with "setItem ref str!" => ((k_here; k_dflt (refine kda_set (knd := PySem.strKind _ _) (by k_asm) (by k_asm) (by k_updF) (by assumption) (strKind_is _ _ _ _) (Nat.le_of_ble_eq_true (by kernel_rfl)) ?_; intro hzq ozq Fzq Nzq hdzq; (try dsimp only at Nzq); rw [stored_new (by kernel_rfl)] at hdzq; simp only [List.nil_append, List.cons_append] at hdzq)))
  k_with "call ref!" => ((k_here; (with_reducible show wpAny _ _ (call (Value.ref 533) _) _ _ _); k_dflt (refine use_g c (by assumption) (by assumption) hd9 hu9 (mark_ct (by k_mem) (by k_mem) (by k_mem) (by k_mem) (by k_updF) (by assumption) (by assumption) (by first | with_reducible assumption | with_reducible exact hz6 _)) rfl rfl ?_; rintro r5 nw5 h5 tk5 F5 N5 ⟨Tm, oTL', n5, t5, t6, rfl, hL5, hTm⟩; (try dsimp only at N5))))
  k_with "call ref!" => ((k_here; (with_reducible show wpAny _ _ (call (Value.ref 526) _) _ _ _); k_dflt (refine use_g c (by assumption) (by assumption) hd9 hu9 (addp_ct (by k_mem) (by k_mem) (by k_mem) (by k_extra "updz") (by assumption)) rfl rfl ?_; rintro r6 nw6 h6 tk6 F6 N6 rfl)))
  k_with "call ref!" => ((k_here; (with_reducible show wpAny _ _ (call (Value.ref 462) _) _ _ _); k_dflt (refine use_ref c (by assumption) (by assumption) hd9 hu9 (space_ct (i := j)) rfl rfl nofun ?_; intro a7 tl7 h7 tk7 F7 N7 hl7 hp7)))
  k_with "call ref!" => ((k_here; (with_reducible show wpAny _ _ (call (Value.ref 401) _) _ _ _); k_dflt (refine use_ref c (by assumption) (by assumption) hd9 hu9 (align_ct2 (i := j)) rfl rfl nofun ?_; intro a7 tl7 h7 tk7 F7 N7 hl7 hp7)))
  k_with "call ref!" => ((k_here; (with_reducible show wpAny _ _ (call (Value.ref 428) _) _ _ _); k_dflt (refine use_ref c (by assumption) (by assumption) hd9 hu9 orgp_ct rfl rfl nofun ?_; rintro a7 tl7 h7 tk7 F7 N7 hl7 ⟨pd, pt, pk1, pk2, pk3, hp8, hp9⟩)))
  k_with "call ref!" => ((k_here; (with_reducible show wpAny _ _ (call (Value.ref 489) _) _ _ _); k_dflt (refine use_ref c (by assumption) (by assumption) hd9 hu9 lebp_ct rfl rfl nofun ?_; rintro a7 tl7 h7 tk7 F7 N7 hl7 ⟨pd, pt, pk1, pk2, pk3, pk4, hp8, hp9⟩)))
  k_with "call ref!" => ((k_here; (with_reducible show wpAny _ _ (call (Value.ref 178) [_, _, _]) _ _ _); k_dflt (refine use_ref c (by assumption) (by assumption) hd9 hu9 (affl_ct (by omega) (by omega)) rfl rfl nofun ?_; intro f8 tl8 h8 tk8 F8 N8 hl8 hA8)))
  trivial
inductive ProgP (w : World) (rows : List Row) (tl : Led) (r : Value) : Prop
  | mk (p : PA) (e : r = .ref p.P) (h : ProgAt w tl p rows)
noncomputable def StopMarkU : Prop := True
theorem words50 : True := by
  k_with "exec If!" => (((rename StopMarkU => hsm9zq); clear hsm9zq; refine stop_in ?_))
  trivial
theorem program_ct {w : World} {news : Led} {rows : List Row} {R : Addr} (hR : RowsAt news R rows) (hlen : rows.length ≤ 10) (hok : ∀ r ∈ rows, r.Ok) :
    Ct w 20 300 625 [.ref R] news (ProgP w rows) False := by
  obtain ⟨rits, rn, hr1, hr2, hr3⟩ := hR
  have hr1' : (R, PySem.W.listOf rits.toList.toArray rn) ∈ news := by rw [Array.toArray_toList]; exact hr1
  have hr4 : rits.toList.length = rows.length := by rw [Array.length_toList]; exact hr2
  refine ct_open1 (by k_is) (by k_is) (by kernel_rfl) rfl rfl rfl ?_; k_extra "ct_in"
  k_steps
  have hX0 : @LT.lt Nat _ TL dD := xp _ (.head _)
  refine' lp_prog (G := G) (D := D) (O := O) (vs := rits.toList) (tl0 := _ ++ (_ ++ (_ ++ (_ ++ [_])))) (A4 := secL w DS dD DP DL oDL (PySem.W.listOf #[] 0) (Str.ofString ".data") _ b5 b6 b7 []) (base := (TS, instObj 548 dT) :: (dT, dictOf [ent w "name" a5 (.str (Str.ofString ".text") _), ent w "pieces" a6 (.ref TP), ent w "labels" a7 (.ref TL)] 3) :: progL w P dP sec nmL eq gl _ _ _ k1 k2 k3 k4 news) (X := DL) (rows := rows) rfl rfl (by assumption) (by assumption) ?hf ?he ?hm rfl rfl rfl rfl hTL ?hX ?turn ?done
  case he => exact assoc5
  case hf => exact .mk _ _ _ _ (List.forall_mem_cons.mpr ⟨⟨Nat.lt_trans hX0 (Nat.lt_trans x1 (Nat.lt_trans x2 x3)), Nat.le_refl _⟩, List.forall_mem_cons.mpr ⟨⟨Nat.lt_trans hX0 (Nat.lt_trans x1 x2), Nat.le_of_lt x3⟩, List.forall_mem_cons.mpr ⟨⟨Nat.lt_trans hX0 x1, Nat.le_of_lt (Nat.lt_trans x2 x3)⟩, List.forall_mem_cons.mpr ⟨⟨hX0, Nat.le_of_lt (Nat.lt_trans x1 (Nat.lt_trans x2 x3))⟩, List.forall_mem_nil _⟩⟩⟩⟩) (base_ne o1 o2 o3 o4 o5 y0 y1 y2 hn0) y3 (Nat.lt_trans hX0 (Nat.lt_trans x1 (Nat.lt_trans x2 x3))) ⟨_, .head _⟩ (.head _) (.tail _ (.head _)) (by show Sub news _; k_extra "subz")
  case hm => k_mem
  case hX => exact all_app (gt_new' (by assumption) (by k_mem)) (all_app (gt_new' (by assumption) (by k_mem)) (all_app (gt_new' (by assumption) (by k_mem)) (all_app (gt_new' (by assumption) (by k_mem)) (List.forall_mem_cons.mpr ⟨lt_of_led (by assumption) (by k_mem), List.forall_mem_nil _⟩))))
  case turn =>
    rintro A4 base2 ⟨tT2, c5, c6, c7, cA, cB, cz, czX, ⟨oX, hXA⟩, hs1, hs2, sn⟩ I oI oJ j v TT tT m₁ l₁ h tk q7 hv hTup hmem ⟨oL, its, k, tl, ts, e1, e2, e3, e4, rfl, hsz, hpc, hLL, hts, hlab, hX, hsub⟩ F₁ N₁ off hr7 hn7
    replace F₁ := fr_eta4 F₁ e1 e2 e3 e4
    clear e1 e2 e3 e4
    have hj : j < rows.length := by have := (List.getElem?_eq_some_iff.mp hv).1; omega
    obtain ⟨r, hri⟩ : ∃ r, rows[j]? = some r := ⟨_, List.getElem?_eq_getElem hj⟩
    obtain ⟨ra, hra, hrr⟩ := hr3 j r hri
    obtain rfl : v = .ref ra := by rw [Array.getElem?_toList, hra] at hv; exact (Option.some.inj hv).symm
    replace hrr := hrr.mono sn
    have ok := hok _ (List.mem_of_getElem? hri)
    have hz : (labKvs 0 ts).length ≤ sizeLine := by rw [labKvs_len, hts]; exact Nat.le_trans (Nat.le_trans (Nat.le_of_lt hj) hlen) (by decide)
    have hj10 : j ≤ 10 := Nat.le_trans (Nat.le_of_lt hj) hlen
    have hj9 : j ≤ 10000 := Nat.le_trans hj10 (by decide)
    have hz2 : (its.size : Int) < 2 ^ 63 := by rw [hsz]; exact ar_63 hj9
    have hz3 : its.size ≤ sizeLine := by rw [hsz]; exact Nat.le_trans (Nat.le_trans (Nat.le_of_lt hj) hlen) (by decide)
    have o3 := off (TL, oL) (List.mem_append_right _ (List.mem_append_right _ (.head _)))
    have o4 := off (TP, PySem.W.listOf its k) (List.mem_append_right _ (List.mem_append_right _ (.tail _ (.head _))))
    have UM : UpdF TL oL ((I + 1, oI) :: (I, oJ) :: (tl ++ (A4 ++ (TL, oL) :: (TP, PySem.W.listOf its k) :: base2))) (fun o => (I + 1, oI) :: (I, oJ) :: (tl ++ (A4 ++ (TL, o) :: (TP, PySem.W.listOf its k) :: base2))) :=
      .tail (fun e => o3.2 e.symm) (.tail (fun e => o3.1 e.symm) (updF_app (fun p hp => Nat.ne_of_gt (Nat.lt_trans czX (hX p hp))) (updF_app (fun p hp => Nat.ne_of_gt (cA p hp).1) (.head (List.forall_mem_cons.mpr ⟨Nat.ne_of_lt cz, fun p hp => Nat.ne_of_lt (Nat.lt_trans (cB p hp) cz)⟩)))))
    have UB : ∀ (o : Obj) (x : Addr), Upd TP (PySem.W.listOf its k) (PySem.W.listOf (its.push (.ref x)) (k + 1)) ((I + 1, oI) :: (I, oJ) :: (tl ++ (A4 ++ (TL, o) :: (TP, PySem.W.listOf its k) :: base2))) ((I + 1, oI) :: (I, oJ) :: (tl ++ (A4 ++ (TL, o) :: (TP, PySem.W.listOf (its.push (.ref x)) (k + 1)) :: base2))) := fun o x =>
      .tail (fun e => o4.2 e.symm) (.tail (fun e => o4.1 e.symm) (upd_app (fun p hp => Nat.ne_of_gt (Nat.lt_trans cz (Nat.lt_trans czX (hX p hp)))) (upd_app (fun p hp => Nat.ne_of_gt (Nat.lt_trans cz (cA p hp).1)) (.tail (Nat.ne_of_gt cz) (.head (fun p hp => Nat.ne_of_lt (cB p hp)))))))
    have hRb := sn _ hr1'
    have hXl : ∀ T, (∀ p ∈ (I + 1, oI) :: (I, oJ) :: (tl ++ (A4 ++ (TL, oL) :: (TP, PySem.W.listOf its k) :: base2)), p.1 < T) → @LT.lt Nat _ DL T := fun T h => h _ (.tail _ (.tail _ (List.mem_append_right _ (List.mem_append_left _ hXA))))
    have hsm : StopMarkU := trivial
    k_steps
    have hXTm : @LT.lt Nat _ DL Tm := hXl _ hTm
    cases hrr' : r with
    | gap k' =>
      subst hrr'
      cases hrr with
      | gap hg =>
      unfold Stop
      k_steps
      refine' hn7 _ _ _ _ (by assumption) (news_del2 (by assumption) ?D1 ?D2) ?off ?mem ?ji
      case D1 => k_extra "k_del"
      case D2 => k_extra "k_del"
      case off => exact all_app (off_new2 hl7 (by k_mem) (by k_mem)) (List.forall_mem_cons.mpr ⟨⟨ne_gt (by assumption) (by k_mem), ne_gt (by assumption) (by k_mem)⟩, off_mid (P := fun a => a ≠ I ∧ a ≠ I + 1) off⟩)
      case mem => k_mem
      case ji => exact jp_step (k := k) (a := a7) (tln := tl7 ++ [(Tm, tupObj #[.int its.size t5, .int 0 t6] n5)]) hj10 rfl rfl rfl rfl (by simp only [List.append_assoc, List.cons_append, List.nil_append]) hsz hpc hL5 hts hlab hX hsub hri (hp7.mono (by show Sub _ _; k_extra "subz")) (by k_mem) (all_app (fun p hp => Nat.lt_trans hXTm (hl7 _ (.head _) p hp)) (List.forall_mem_cons.mpr ⟨hXTm, List.forall_mem_nil _⟩))
    | ali k' =>
      subst hrr'
      cases hrr with
      | ali hg =>
      unfold Stop
      k_steps
      refine' hn7 _ _ _ _ (by assumption) (news_del2 (by assumption) ?D1 ?D2) ?off ?mem ?ji
      case D1 => k_extra "k_del"
      case D2 => k_extra "k_del"
      case off => exact all_app (off_new2 hl7 (by k_mem) (by k_mem)) (List.forall_mem_cons.mpr ⟨⟨ne_gt (by assumption) (by k_mem), ne_gt (by assumption) (by k_mem)⟩, off_mid (P := fun a => a ≠ I ∧ a ≠ I + 1) off⟩)
      case mem => k_mem
      case ji => exact jp_step (k := k) (a := a7) (tln := tl7 ++ [(Tm, tupObj #[.int its.size t5, .int 0 t6] n5)]) hj10 rfl rfl rfl rfl (by simp only [List.append_assoc, List.cons_append, List.nil_append]) hsz hpc hL5 hts hlab hX hsub hri (hp7.mono (by show Sub _ _; k_extra "subz")) (by k_mem) (all_app (fun p hp => Nat.lt_trans hXTm (hl7 _ (.head _) p hp)) (List.forall_mem_cons.mpr ⟨hXTm, List.forall_mem_nil _⟩))
    | leb sg x y =>
      subst hrr'
      have okx := ok.1
      have oky := ok.2
      cases hrr with
      | leb hg =>
      unfold Stop
      k_steps
      refine' hn7 _ _ _ _ (by assumption) (news_del2 (by assumption) ?D1 ?D2) ?off ?mem ?ji
      case D1 => k_extra "k_del"
      case D2 => k_extra "k_del"
      case off => exact all_app (off_new2 hl7 (by k_mem) (by k_mem)) (all_app (off_new2 hl8 (by k_mem) (by k_mem)) (List.forall_mem_cons.mpr ⟨⟨ne_gt (by assumption) (by k_mem), ne_gt (by assumption) (by k_mem)⟩, off_mid (P := fun a => a ≠ I ∧ a ≠ I + 1) off⟩))
      case mem => k_mem
      case ji => exact jp_step (k := k) (a := a7) (tln := tl7 ++ (tl8 ++ [(Tm, tupObj #[.int its.size t5, .int 0 t6] n5)])) hj10 rfl rfl rfl rfl (by simp only [List.append_assoc, List.cons_append, List.nil_append]) hsz hpc hL5 hts hlab hX hsub hri (.leb (by k_mem) (by k_mem) (hA8.mono (by show Sub _ _; k_extra "subz"))) (by k_mem) (all_app (fun p hp => Nat.lt_trans hXTm (hl7 _ (List.mem_append_right _ (.head _)) p hp)) (all_app (fun p hp => Nat.lt_trans hXTm (hl8 _ (.head _) p hp)) (List.forall_mem_cons.mpr ⟨hXTm, List.forall_mem_nil _⟩)))
    | org wd k' =>
      subst hrr'
      cases hrr with
      | org hg =>
      unfold Stop
      k_steps
      refine' hn7 _ _ _ _ (by assumption) (news_del2 (by assumption) ?D1 ?D2) ?off ?mem ?ji
      case D1 => k_extra "k_del"
      case D2 => k_extra "k_del"
      case off => exact all_app (off_new2 hl7 (by k_mem) (by k_mem)) (all_app (off_new2 hl8 (by k_mem) (by k_mem)) (List.forall_mem_cons.mpr ⟨⟨ne_gt (by assumption) (by k_mem), ne_gt (by assumption) (by k_mem)⟩, off_mid (P := fun a => a ≠ I ∧ a ≠ I + 1) off⟩))
      case mem => k_mem
      case ji => exact jp_step (k := k) (a := a7) (tln := tl7 ++ (tl8 ++ [(Tm, tupObj #[.int its.size t5, .int 0 t6] n5)])) hj10 rfl rfl rfl rfl (by simp only [List.append_assoc, List.cons_append, List.nil_append]) hsz hpc hL5 hts hlab hX hsub hri (.org (by k_mem) (by k_mem) (hA8.mono (by show Sub _ _; k_extra "subz"))) (by k_mem) (all_app (fun p hp => Nat.lt_trans hXTm (hl7 _ (List.mem_append_right _ (.head _)) p hp)) (all_app (fun p hp => Nat.lt_trans hXTm (hl8 _ (.head _) p hp)) (List.forall_mem_cons.mpr ⟨hXTm, List.forall_mem_nil _⟩)))
  case done =>
    rintro m₁ l₁ h tk ⟨oL, its, k, tl, ts, e1, e2, e3, e4, rfl, hsz, hpc, hLL, hts, hlab, hX, hsub⟩ F₁ N₁
    rw [hr4] at hsz hts hpc
    replace F₁ := fr_eta4 F₁ e1 e2 e3 e4
    clear e1 e2 e3 e4
    have r1 : @LT.lt Nat _ TL DL := Nat.lt_trans hX0 (Nat.lt_trans x1 (Nat.lt_trans x2 x3))
    have r2 : @LT.lt Nat _ TL DP := Nat.lt_trans hX0 (Nat.lt_trans x1 x2)
    have r3 : @LT.lt Nat _ TL DS := Nat.lt_trans hX0 x1
    have r4 : @LT.lt Nat _ DP DL := x3
    have hz : (labKvs 0 ts).length ≤ sizeLine := by rw [labKvs_len, hts]; exact Nat.le_trans hlen (by decide)
    have hl9 : rows.length ≤ 10000 := Nat.le_trans hlen (by decide)
    have hz2 : (its.size : Int) < 2 ^ 63 := by rw [hsz]; exact ar_63 hl9
    have hz4 : (([] : List (Str × Value)).length) ≤ sizeLine := Nat.zero_le _
    have hz5 : (#[] : Array Value).size ≤ sizeLine := Nat.zero_le _
    have hz6 : ∀ x : Addr, (((#[] : Array Value).push (.ref x)).size : Int) < 2 ^ 63 := fun x => by show (1 : Int) < _; decide
    obtain ⟨j, hj0⟩ : ∃ j : Nat, j = 0 := ⟨0, rfl⟩
    k_steps
    subst hj0
    have c1 : @LT.lt Nat _ dP sec := Nat.lt_trans o1 o2
    have c2 : @LT.lt Nat _ dP nmL := Nat.lt_trans c1 o3
    have c3 : @LT.lt Nat _ dP eq := Nat.lt_trans c2 o4
    have c4 : @LT.lt Nat _ dP gl := Nat.lt_trans c3 o5
    have c5 : @LT.lt Nat _ dP dT := Nat.lt_trans c4 y0
    have c6 : @LT.lt Nat _ dP TS := Nat.lt_trans c5 y1
    have c7 : @LT.lt Nat _ dP TP := Nat.lt_trans c6 y2
    have c8 : @LT.lt Nat _ dP TL := Nat.lt_trans c7 y3
    have d1 : @LT.lt Nat _ dP dD := Nat.lt_trans c8 hX0
    have d2 : @LT.lt Nat _ dP DS := Nat.lt_trans d1 x1
    have d3 : @LT.lt Nat _ dP DP := Nat.lt_trans d2 x2
    have d4 : @LT.lt Nat _ dP DL := Nat.lt_trans d3 x3
    refine' hr _ _ _ _ _ (by assumption) (ret_spl (by assumption) ?S) ?yl ?yp
    case S => k_extra "k_spl"
    case yl =>
      refine lt_low hn0 ?_
      exact List.forall_mem_cons.mpr ⟨Nat.le_of_lt (lt_of_led (by assumption) (by k_mem)), all_app (fun p hp => Nat.le_of_lt (gt_new' hl7 (by k_mem) p hp)) (List.forall_mem_cons.mpr ⟨Nat.le_of_lt (lt_of_led (by assumption) (by k_mem)), all_app (fun p hp => Nat.le_of_lt (Nat.lt_trans d4 (hX p hp))) (all_app (List.forall_mem_cons.mpr ⟨Nat.le_of_lt d4, List.forall_mem_cons.mpr ⟨Nat.le_of_lt d3, List.forall_mem_cons.mpr ⟨Nat.le_of_lt d2, List.forall_mem_cons.mpr ⟨Nat.le_of_lt d1, List.forall_mem_nil _⟩⟩⟩⟩)
        (List.forall_mem_cons.mpr ⟨Nat.le_of_lt c8, List.forall_mem_cons.mpr ⟨Nat.le_of_lt c7, List.forall_mem_cons.mpr ⟨Nat.le_of_lt c6, List.forall_mem_cons.mpr ⟨Nat.le_of_lt c5, List.forall_mem_cons.mpr ⟨Nat.le_of_lt c4, List.forall_mem_cons.mpr ⟨Nat.le_of_lt c3, List.forall_mem_cons.mpr ⟨Nat.le_of_lt c2, List.forall_mem_cons.mpr ⟨Nat.le_of_lt c1, List.forall_mem_cons.mpr ⟨Nat.le_of_lt o1, List.forall_mem_cons.mpr ⟨Nat.le_refl _, List.forall_mem_nil _⟩⟩⟩⟩⟩⟩⟩⟩⟩⟩))⟩)⟩
    case yp =>
      refine' .mk (PA.mk P dP sec nmL eq gl TS dT TP TL DS dD DP DL Tm a7 _ _ _ _ oS2 _ _ oTL' its #[] (ts ++ [_]) _ _ _ _ _ _ _ _ _ _ _ _ _ _ _ _ _ _ _ _) rfl (ProgAt.mk ?f1 ?f2 ?f3 ?f4 hS2 ?f6 s2 ?f8 ?g1 ?g2 ?g3 ?g4 ?f13 ?f14 ?f15 hsz ?f17 ?f18 zsT ?f20 ?f21 ?f22 ?f23 ?f24 ?f25 ?f26 ?f27 zsD ?f29 ?f30)
      case f1 => k_mem
      case f2 => k_mem
      case f3 => k_mem
      case f4 => k_mem
      case f6 => k_mem
      case f8 => assumption
      case g1 => exact AffAt.mono (by show Sub tl _; k_extra "subz") (AffAt.mono hsub (by refine AffAt.mono ?_ (by assumption); show Sub _ _; k_extra "subz"))
      case g2 => exact AffAt.mono (by show Sub tl _; k_extra "subz") (AffAt.mono hsub (by refine AffAt.mono ?_ (by assumption); show Sub _ _; k_extra "subz"))
      case g3 => exact AffAt.mono (by show Sub tl _; k_extra "subz") (AffAt.mono hsub (by refine AffAt.mono ?_ (by assumption); show Sub _ _; k_extra "subz"))
      case g4 => exact AffAt.mono (by show Sub tl _; k_extra "subz") (AffAt.mono hsub (by refine AffAt.mono ?_ (by assumption); show Sub _ _; k_extra "subz"))
      case f13 => k_mem
      case f14 => k_mem
      case f15 => k_mem
      case f17 => exact fun i r e => let ⟨a, h1, h2⟩ := hpc i r (List.getElem?_eq_some_iff.mp e).1 e; ⟨a, h1, h2.mono (by show Sub tl _; k_extra "subz")⟩
      case f18 => k_mem
      case f20 => rw [labKvs_snoc, hts, Nat.zero_add rows.length, ← stored_new (valueAt_lab_new (Nat.le_trans hlen (by decide)) (by rw [Nat.zero_add, hts]; exact Nat.le_refl _))]; rename (Obj.IsDictOf _ _ (stored (labKvs 0 ts) _ _)) => hq5; exact hq5
      case f21 => rw [List.length_append, hts]; rfl
      case f22 => exact labs_snoc (hlab.mono (by show Sub tl _; k_extra "subz")) (by rw [hts, ← hsz]; k_mem)
      case f23 => k_mem
      case f24 => k_mem
      case f25 => show (DP, PySem.W.listOf ((#[] : Array Value).push (.ref a7)) _) ∈ _; k_mem
      case f26 => exact hp7.mono (by show Sub tl7 _; k_extra "subz")
      case f27 => k_mem
      case f29 => rwa [stored1] at hL5
      case f30 => show (Tm, tupObj #[.int (((#[] : Array Value).push (.ref a7)).size : Int) _, .int 0 _] _) ∈ _; k_mem
-- P1
theorem words51 : True := by
  k_with "execs cons If nil" => (k_here; ((with_reducible refine wp_last (G := G) (D := D) (O := O) (by assumption) ?_); intro tk8; (try dsimp only)))
  k_with "execs cons If cons" => (k_here; ((with_reducible refine wp_cons (G := G) (D := D) (O := O) (by assumption) ?_); intro q8 tk8 hq8 hr8; (try dsimp only)))
  k_with "execs cons For nil" => (k_here; ((with_reducible refine wp_last (G := G) (D := D) (O := O) (by assumption) ?_); intro tk8; (try dsimp only)))
  k_with "execs cons For cons" => (k_here; ((with_reducible refine wp_cons (G := G) (D := D) (O := O) (by assumption) ?_); intro q8 tk8 hq8 hr8; (try dsimp only)))
  k_with "execs cons While nil" => (k_here; ((with_reducible refine wp_last (G := G) (D := D) (O := O) (by assumption) ?_); intro tk8; (try dsimp only)))
  k_with "execs cons While cons" => (k_here; ((with_reducible refine wp_cons (G := G) (D := D) (O := O) (by assumption) ?_); intro q8 tk8 hq8 hr8; (try dsimp only)))
  k_with "execs cons Try nil" => (k_here; ((with_reducible refine wp_last (G := G) (D := D) (O := O) (by assumption) ?_); intro tk8; (try dsimp only)))
  k_with "execs cons Try cons" => (k_here; ((with_reducible refine wp_cons (G := G) (D := D) (O := O) (by assumption) ?_); intro q8 tk8 hq8 hr8; (try dsimp only)))
  trivial
section
open LCg LCt
variable {w : World} {A : Around} {h₀ : Heap} {L : Addr} {m : SMap} {env : Env} {ct elt : Expr} {x : Str} {scope : Scope} {cl : List (Str × Addr)} {hs : Heap} {G : Array GenState} {D : Drawn} {t0 : Nat} {O : OsState} {S : Led → Prop} {P : Nat → Value → Prop} {Fin : List Value → Led → Prop}
theorem comp_invT (J : Nat → List Value → Led → Prop) (n : Nat)
    (turn : ∀ i v ys nw I oI C oC DD m₂ h tk (Y : Value → Shared → Prop) (NN : Shared → Prop) (E' : Value → Shared → Prop), i < n → P i v → NsObj oC m₂ → m₂ x = some v → J i ys nw → Fr h₀ L h m → News h₀ L h ((I, oI) :: (C, oC) :: (DD, lst ys) :: nw) → Off3 I C DD nw → ((@Ne Nat I C) ∧ (@Ne Nat I DD) ∧ (@Ne Nat C DD)) →
      (∀ y h' tk' nw', Fr h₀ L h' m → News h₀ L h' ((I, oI) :: (C, oC) :: (DD, lst ys) :: nw') → Off3 I C DD nw' → S nw' → J (i + 1) (ys ++ [y]) nw' → Y y ⟨h', G, D, tk', O⟩) →
      (∀ h' tk' nw', Fr h₀ L h' m → News h₀ L h' ((I, oI) :: (C, oC) :: (DD, lst ys) :: nw') → Off3 I C DD nw' → S nw' → J (i + 1) ys nw' → NN ⟨h', G, D, tk', O⟩) →
      wpAny (model PG w) A (isTrue ct (compEnvC scope cl C env) (eval ct (compEnvC scope cl C env))) (fun ok s' => if ok = true then wpAny (model PG w) A (eval elt (compEnvC scope cl C env)) Y E' s' else NN s') E' ⟨h, G, D, tk, O⟩)
    (done : ∀ ys nw, J n ys nw → Fin ys nw) : ∀ k i ys nw, i + k = n → J i ys nw → CompRestT PG w A h₀ L m env ct elt x scope cl ⟨hs, G, D, t0, O⟩ S P Fin k i ys nw := by
  intro k
  induction k with
  | zero =>
    intro i ys nw e j
    obtain rfl : i = n := e
    exact done ys nw j
  | succ k ih =>
    intro i ys nw e j
    have e' : i + 1 + k = n := by omega
    refine CompRestT.succ fun v I oI C oC DD m₂ h tk E' hp hn hx F N off ne => ?_
    refine turn i v ys nw I oI C oC DD m₂ h tk _ _ E' (by omega) hp hn hx j F N off ne (fun y h' tk' nw' F' N' o' s' j' => ?_) (fun h' tk' nw' F' N' o' s' j' => ?_)
    · exact CompEnd.intro F' N' nw' (fun p hp => hp) o' s' (ih (i + 1) (ys ++ [y]) nw' e' j')
    · exact CompEnd.intro F' N' nw' (fun p hp => hp) o' s' (ih (i + 1) ys nw' e' j')
end
inductive JX (CL R : Addr) (many : Nat) (tM : Tok) (news : Led) (j : Nat) (m : SMap) (l : Led) : Prop
  | mk (its : Array Value) (k : Nat) (tl : Led) (rs : List Row) (lb : Option Nat) (e1 : m (Str.ofString "cells") = some (.ref CL)) (e2 : m (Str.ofString "rows") = some (.ref R)) (e3 : m (Str.ofString "many") = some (.int many tM))
    (el : l = tl ++ (R, PySem.W.listOf its k) :: news) (hsz : its.size = j) (hrs : rs.length = j) (hr : ∀ i r, rs[i]? = some r → ∃ a, its[i]? = some (.ref a) ∧ RowAt tl i a r) (hok : ∀ r ∈ rs, r.Ok) (hlb : LebIs rs lb) (hxy : ∀ (i : Nat) sg x y, rs[i]? = some (.leb sg x y) → x ≤ many ∧ y ≤ many)
    (hX : ∀ p ∈ tl, R < p.1) (hR : ∀ p ∈ news, p.1 < R)
theorem lebIs_snoc_no {rs : List Row} {lb : Option Nat} {r : Row} (h : LebIs rs lb) (hr : ∀ sg x y, r ≠ .leb sg x y) : LebIs (rs ++ [r]) lb := fun i => by
  rw [← h i]
  constructor
  · rintro ⟨sg, x, y, e⟩
    rcases Nat.lt_or_ge i rs.length with hi | hi
    · rw [List.getElem?_append_left hi] at e; exact ⟨sg, x, y, e⟩
    · rw [List.getElem?_append_right hi] at e
      have := List.mem_of_getElem? e
      exact absurd (List.mem_singleton.mp this).symm (hr sg x y)
  · rintro ⟨sg, x, y, e⟩
    exact ⟨sg, x, y, by rw [List.getElem?_append_left (List.getElem?_eq_some_iff.mp e).1]; exact e⟩
theorem lebIs_snoc_yes {rs : List Row} {sg : Bool} {x y : Nat} (h : LebIs rs none) : LebIs (rs ++ [.leb sg x y]) (some rs.length) := fun i => by
  constructor
  · rintro ⟨sg', x', y', e⟩
    rcases Nat.lt_or_ge i rs.length with hi | hi
    · rw [List.getElem?_append_left hi] at e
      exact absurd ((h i).mp ⟨sg', x', y', e⟩) (by simp)
    · have hl := (List.getElem?_eq_some_iff.mp e).1
      rw [List.length_append] at hl
      have : [Row.leb sg x y].length = 1 := rfl
      exact congrArg some (by omega)
  · intro e
    obtain rfl := Option.some.inj e
    exact ⟨sg, x, y, by rw [List.getElem?_append_right (Nat.le_refl _), Nat.sub_self]; rfl⟩
theorem jx_step {CL R many : Nat} {tM : Tok} {news tl gb l : Led} {m' : SMap} {j k : Nat} {its : Array Value} {rs : List Row} {lb : Option Nat} {a : Addr} {r : Row} (e1 : m' (Str.ofString "cells") = some (.ref CL)) (e2 : m' (Str.ofString "rows") = some (.ref R)) (e3 : m' (Str.ofString "many") = some (.int many tM))
    (el : l = (gb ++ tl) ++ (R, PySem.W.listOf (its.push (.ref a)) (k + 1)) :: news) (hsz : its.size = j) (hrs : rs.length = j) (hr : ∀ i r, rs[i]? = some r → ∃ a, its[i]? = some (.ref a) ∧ RowAt tl i a r) (hok : ∀ r ∈ rs, r.Ok) (hlb : LebIs rs lb) (hxy : ∀ (i : Nat) sg x y, rs[i]? = some (.leb sg x y) → x ≤ many ∧ y ≤ many)
    (hX : ∀ p ∈ tl, R < p.1) (hR : ∀ p ∈ news, p.1 < R) (hra : RowAt gb j a r) (ok : r.Ok) (hrl : ∀ sg x y, r = .leb sg x y → lb = none ∧ x ≤ many ∧ y ≤ many) (hXg : ∀ p ∈ gb, R < p.1) : JX CL R many tM news (j + 1) m' l := by
  have s1 : Sub tl (gb ++ tl) := fun p hp => List.mem_append_right _ hp
  have s2 : Sub gb (gb ++ tl) := fun p hp => List.mem_append_left _ hp
  have one : [r].length = 1 := rfl
  have key : ∃ lb', LebIs (rs ++ [r]) lb' := by
    by_cases h : ∃ sg x y, r = .leb sg x y
    · obtain ⟨sg, x, y, rfl⟩ := h
      obtain ⟨rfl, _⟩ := hrl _ _ _ rfl
      exact ⟨_, lebIs_snoc_yes hlb⟩
    · exact ⟨lb, lebIs_snoc_no hlb fun sg x y e => h ⟨sg, x, y, e⟩⟩
  obtain ⟨lb', hlb'⟩ := key
  have last : ∀ {i : Nat} {r' : Row}, (rs ++ [r])[i]? = some r' → ¬ i < j → i = j ∧ r' = r := by
    intro i r' e h
    have hl := (List.getElem?_eq_some_iff.mp e).1
    rw [List.length_append] at hl
    obtain rfl : i = rs.length := by omega
    rw [List.getElem?_append_right (Nat.le_refl _), Nat.sub_self] at e
    exact ⟨hrs, (Option.some.inj e).symm⟩
  refine ⟨its.push (.ref a), k + 1, gb ++ tl, rs ++ [r], lb', e1, e2, e3, el, by rw [Array.size_push, hsz], by rw [List.length_append, hrs]; rfl, ?_, ?_, hlb', ?_, all_app hXg hX, hR⟩
  · intro i r' e
    by_cases h : i < j
    · rw [List.getElem?_append_left (by omega)] at e
      obtain ⟨a', h1, h2⟩ := hr i r' e
      exact ⟨a', by rw [Array.getElem?_push_lt (by omega)]; rw [Array.getElem?_eq_getElem (by omega)] at h1; exact h1, h2.mono s1⟩
    · obtain ⟨rfl, rfl⟩ := last e h
      exact ⟨a, by rw [← hsz, Array.getElem?_push_size], hra.mono s2⟩
  · intro r' hm
    rcases List.mem_append.mp hm with hm | hm
    · exact hok r' hm
    · rw [List.mem_singleton.mp hm]; exact ok
  · intro i sg x y e
    by_cases h : i < j
    · rw [List.getElem?_append_left (by omega)] at e
      exact hxy i sg x y e
    · obtain ⟨rfl, e'⟩ := last e h
      exact (hrl sg x y e'.symm).2
theorem ne_off {l : Led} {a d : Addr} {o : Obj} (h : ∀ p ∈ l, p.1 ≠ d) (hm : (a, o) ∈ l) : d ≠ a := fun e => h _ hm e.symm
theorem news_drop {h₀ h : Heap} {L : Addr} {all r : Led} {x : Addr × Obj} (N : News h₀ L h all) (D : Del x all r) : News h₀ L h r := news_sub N fun p hp => D.sub p (.tail _ hp)
theorem fmod_nat {a : Int} {m : Nat} : ∃ n : Nat, Int.fmod a ((m : Int) + 1) = (n : Int) ∧ n ≤ m := by
  have h1 := Int.fmod_nonneg_of_pos a (b := (m : Int) + 1) (by omega)
  have h2 := Int.fmod_lt_of_pos a (b := (m : Int) + 1) (by omega)
  obtain ⟨n, hn⟩ := Int.eq_ofNat_of_zero_le h1
  exact ⟨n, hn, by omega⟩
theorem lebIs_nil : LebIs [] none := fun i => ⟨(fun ⟨_, _, _, h⟩ => by cases h), (fun h => by cases h)⟩
inductive Halt (P : Prop) : Prop
  | mk (h : P)
theorem halt_in {P : Prop} (h : Halt P) : P := by cases h; assumption
noncomputable def intOk (lo hi : Int) : Value → Bool
  | .int x _ => decide (lo ≤ x) && decide (x ≤ hi)
  | _ => false
theorem intOk_spec {lo hi : Int} {v : Value} (h : intOk lo hi v = true) : ∃ x t, v = .int x t ∧ lo ≤ x ∧ x ≤ hi := by
  cases v <;> simp only [intOk, Bool.and_eq_true, decide_eq_true_eq, Bool.false_eq_true] at h
  exact ⟨_, _, rfl, h.1, h.2⟩
section
variable {prog : Program} {w : World} {A : Around} {E : Value → Shared → Prop} {s : Shared} {h₀ : Heap} {L a : Addr} {n : Nat} {news : Led} {Q : Value → Shared → Prop} {value slice : Expr} {b : Int} {u : Tok}
theorem menu_int {its : Array Value} (lo hi : Int) {m : Int} (N : News h₀ L s.heap news) (hm : (a, PySem.W.listOf its n) ∈ news) (h0 : 0 < m) (hsz : (its.size : Int) = m) (hb : m ≤ 64) (hall : its.toList.all (intOk lo hi) = true) (h : ∀ x t, lo ≤ x → x ≤ hi → Q (.int x t) s)
    (hs : subscripted slice false (.ref a) (.int (Int.fmod b m) u) = operate [.ref a, .int (Int.fmod b m) u] (getItem (.ref a) (.int (Int.fmod b m) u)) := by with_unfolding_all rfl) : wpAny (model prog w) A (subscriptTail value slice (.ref a) (.int (Int.fmod b m) u)) Q E s := by
  have h1 := Int.fmod_nonneg_of_pos b h0
  have h2 := Int.fmod_lt_of_pos b h0
  have hlt : (Int.fmod b m).toNat < its.toList.length := by rw [Array.length_toList]; omega
  obtain ⟨x, t, e, h3, h4⟩ := intOk_spec (List.all_eq_true.mp hall _ (List.getElem_mem hlt))
  exact l_item N hm h1 (by omega) (by rw [List.getElem?_eq_getElem hlt, e]) (h x t h3 h4) hs
theorem menu_word {t0 t1 t2 t3 t4 t5 t6 t7 t8 : Tok} (i : Nat) (N : News h₀ L s.heap news) (hm : (a, PySem.W.listOf #[.str (Str.ofString "") t0, .str (Str.ofString "l" ++ Str.ofString (toString ((i : Nat) : Int))) t1, .str (Str.ofString "EQU") t2, .str (Str.ofString "EQU2") t3, .str (Str.ofString "l0") t4, .str (Str.ofString "PLAIN") t5, .str (Str.ofString "RING") t6, .str (Str.ofString "nowhere") t7, .str (Str.ofString "l" ++ Str.ofString (toString ((i : Int) + 1))) t8] n) ∈ news)
    (h : ∀ wd t, Q (.str (Word.text i wd) t) s)
    (hs : subscripted slice false (.ref a) (.int (Int.fmod b 9) u) = operate [.ref a, .int (Int.fmod b 9) u] (getItem (.ref a) (.int (Int.fmod b 9) u)) := by with_unfolding_all rfl) : wpAny (model prog w) A (subscriptTail value slice (.ref a) (.int (Int.fmod b 9) u)) Q E s := by
  have h1 := Int.fmod_nonneg_of_pos b (b := 9) (by decide)
  have h2 := Int.fmod_lt_of_pos b (b := 9) (by decide)
  obtain ⟨k, hk⟩ := Int.eq_ofNat_of_zero_le h1
  have hk9 : k < 9 := by omega
  rw [hk] at hs ⊢
  have all : ∀ v ∈ (#[Value.str (Str.ofString "") t0, .str (Str.ofString "l" ++ Str.ofString (toString ((i : Nat) : Int))) t1, .str (Str.ofString "EQU") t2, .str (Str.ofString "EQU2") t3, .str (Str.ofString "l0") t4, .str (Str.ofString "PLAIN") t5, .str (Str.ofString "RING") t6, .str (Str.ofString "nowhere") t7, .str (Str.ofString "l" ++ Str.ofString (toString ((i : Int) + 1))) t8] : Array Value).toList, ∃ wd t, v = Value.str (Word.text i wd) t := List.forall_mem_cons.mpr ⟨⟨.emp, _, rfl⟩, List.forall_mem_cons.mpr ⟨⟨.cur, _, rfl⟩, List.forall_mem_cons.mpr ⟨⟨.equ, _, rfl⟩, List.forall_mem_cons.mpr ⟨⟨.equ2, _, rfl⟩, List.forall_mem_cons.mpr ⟨⟨.l0, _, rfl⟩, List.forall_mem_cons.mpr ⟨⟨.pln, _, rfl⟩, List.forall_mem_cons.mpr ⟨⟨.ring, _, rfl⟩, List.forall_mem_cons.mpr ⟨⟨.nowh, _, rfl⟩, List.forall_mem_cons.mpr ⟨⟨.nxt, _, rfl⟩, List.forall_mem_nil _⟩⟩⟩⟩⟩⟩⟩⟩⟩
  obtain ⟨wd, t, e⟩ := all _ (List.getElem_mem (n := k) (by exact hk9))
  replace e := (List.getElem?_eq_getElem (i := k) (by exact hk9)).trans (congrArg some e)
  exact l_item N hm (by omega) (by omega) e (h wd t) hs
end
theorem words52 : True := by
  k_with "k_steps" => (repeat' (first | walk1 | k_extra "unq" | (dsimp only; walk1) | (leave1; walk_say "STEP leave1"; try dsimp only) | fail "no step"))
  trivial
section
variable {M : Model} {A : Around} {E : Value → Shared → Prop} {h₀ h : Heap} {L : Addr} {m : SMap} {env : Env} {G : Array GenState} {D : Drawn} {t : Nat} {O : OsState} {led : Led} {vals : List Expr} {p1 pos : Pos} {C Dd : List Stmt} {Q : Flow → Shared → Prop}
/-- both branches walked once, whatever the test did to the heap and the tokens -/
theorem wp_ifK (F : Fr h₀ L h m) (N : News h₀ L h led) (thn : ∀ h' tk', Fr h₀ L h' m → News h₀ L h' led → wpAny M A (execs C env) Q E ⟨h', G, D, tk', O⟩) (els : ∀ h' tk', Fr h₀ L h' m → News h₀ L h' led → wpAny M A (execs Dd env) Q E ⟨h', G, D, tk', O⟩)
    (tst : ∀ T X : Shared → Prop, (∀ h' tk', Fr h₀ L h' m → News h₀ L h' led → T ⟨h', G, D, tk', O⟩) → (∀ h' tk', Fr h₀ L h' m → News h₀ L h' led → X ⟨h', G, D, tk', O⟩) → wpAny M A (isTrue (.BoolOp .Or vals p1) env (eval (.BoolOp .Or vals p1) env)) (fun b s => if b = true then T s else X s) E ⟨h, G, D, t, O⟩) :
    wpAny M A (exec (.If (.BoolOp .Or vals p1) C Dd pos) env) Q E ⟨h, G, D, t, O⟩ := wpAny_If (tst _ _ thn els)
theorem wp_ifE (F : Fr h₀ L h m) (N : News h₀ L h led) (els : ∀ h' tk', Fr h₀ L h' m → News h₀ L h' led → wpAny M A (execs Dd env) Q E ⟨h', G, D, tk', O⟩)
    (tst : ∀ T X : Shared → Prop, (∀ s, wpAny M A (execs C env) Q E s → T s) → (∀ h' tk', Fr h₀ L h' m → News h₀ L h' led → X ⟨h', G, D, tk', O⟩) → wpAny M A (isTrue (.BoolOp .And vals p1) env (eval (.BoolOp .And vals p1) env)) (fun b s => if b = true then T s else X s) E ⟨h, G, D, t, O⟩) :
    wpAny M A (exec (.If (.BoolOp .And vals p1) C Dd pos) env) Q E ⟨h, G, D, t, O⟩ := wpAny_If (tst _ _ (fun _ x => x) els)
end
noncomputable def PMark : Prop := True
theorem words53 : True := by
  k_with "exec If BoolOp" => (((with_reducible rename PMark => hpm9); k_here; with_reducible first | (refine wp_ifK (G := G) (D := D) (O := O) (by k_asm) (by k_asm) (fun h9 tk9 F9 N9 => ?_) (fun h9 tk9 F9 N9 => ?_) (fun T9 X9 hT9 hX9 => ?_)) | (refine wp_ifE (G := G) (D := D) (O := O) (by k_asm) (by k_asm) (fun h9 tk9 F9 N9 => ?_) (fun T9 X9 hS9 hX9 => ?_))))
  k_with "unq" => (first | (with_reducible refine nx_next ?_) | (with_reducible refine nx_ret ?_) | (refine hS9 _ ?_; try clear hS9) | exact hT9 _ _ (by assumption) (by assumption) | exact hX9 _ _ (by assumption) (by assumption) | exact hX9 _ _ (by assumption) (news_tl (by assumption)) | exact hX9 _ _ (by assumption) (news_tl (news_tl (by assumption))) | (refine hq8 _ ?_; clear hq8 hr8 q8) | (refine hr8 _ _ ?_; clear hq8 hr8 q8))
  k_with "unpackItems ref!" => (((with_reducible rename PMark => hpm9); k_here; k_dflt (refine unpackItemsN_ (by k_asm) (by k_asm) (News.isTup (by k_asm) (.head _)) rfl rfl ?_); intro h' F' N'; have N8 := news_tl N'))
  k_with "subscriptTail List cons Call ref int" => ((k_here; k_dflt (first | (refine menu_int 1 16 (by k_asm) (by k_mem) (by decide) rfl (by decide) rfl ?_; intro x8 t8 hx8 hx9; have N8 := news_tl (by k_asm)) | (refine menu_int 0 300 (by k_asm) (by k_mem) (by decide) rfl (by decide) rfl ?_; intro x8 t8 hx8 hx9; have N8 := news_tl (by k_asm)) | (refine menu_int (-3) 500 (by k_asm) (by k_mem) (by decide) rfl (by decide) rfl ?_; intro x8 t8 hx8 hx9; have N8 := news_tl (by k_asm)))))
  k_with "subscriptTail List cons Call ref int" => ((k_here; (with_reducible show wpAny _ _ (subscriptTail _ _ _ (Value.int (Int.fmod _ 9) _)) _ _ _); k_dflt (refine menu_word j (by k_asm) (by k_mem) ?_; intro wd8 t9; have N8 := news_tl (by k_asm))))
  k_with "updz" => (first | exact UB _ | (apply upd_app; (focus (k_all)); (focus (k_extra "updz"))) | (apply Upd.tail; (focus (first | k_ne | exact ne_off oo (by k_extra "memz"))); (focus (k_extra "updz"))))
  k_with "call builtin:list.append!" => ((k_here; k_dflt (refine append_K (by k_asm) (by k_asm) (by k_extra "updz") ?_ (by assumption); intro h4 F4 N4)))
  k_with "callWith builtin:list.append cons nil" => ((k_here; k_dflt (refine callWith_method1 ?_)))
  k_with "eval ListComp!" => ((k_here; k_dflt (refine LCt.ListComp_T (F₀ := by assumption) (by with_unfolding_all rfl) (by decide) (by rfl) (by decide) (by rfl) ?_)))
  k_with "CompSrcT!" => ((k_here; k_dflt (refine LCt.CompSrcT.ledger rfl (by k_asm) (by k_asm) (by k_mem) (by assumption) ?_; intro g9zq; refine halt_in ?_)))
  trivial
inductive PiecesP (n : Nat) (tl : Led) (c : Addr) : Prop
  | mk (rows : List Row) (lb : Option Nat) (h1 : rows.length = n) (h2 : RowsAt tl c rows) (hok : ∀ r ∈ rows, r.Ok) (hlb : LebIs rows lb) (hxy : ∀ (i : Nat) sg x y, rows[i]? = some (.leb sg x y) → x ≤ n ∧ y ≤ n)
theorem pieces_ct {w : World} {news : Led} {CL : Addr} {cs : List Int} (hC : IntsAt news CL cs) (hlen : cs.length ≤ 10) :
    Ct w 20 300 618 [.ref CL] news (RefP (PiecesP cs.length)) False := by
  obtain ⟨cits, cn, hc1, hc2, hc3⟩ := hC
  have hc1' : (CL, PySem.W.listOf cits.toList.toArray cn) ∈ news := by rw [Array.toArray_toList]; exact hc1
  have hc4 : cits.toList.length = cs.length := by rw [Array.length_toList]; exact hc2
  have hpm : PMark := trivial
  refine ct_open1 (by k_is) (by k_is) (by kernel_rfl) rfl rfl rfl ?_; k_extra "ct_in"
  k_steps
  refine lp_enum (G := G) (D := D) (O := O) (vs := cits.toList) (JX CL _ cs.length _ news) rfl rfl (by assumption) (by assumption) (.tail _ hc1') ⟨#[], 0, [], [], none, rfl, rfl, rfl, rfl, rfl, rfl, (fun i r h => by cases h), List.forall_mem_nil _, lebIs_nil, (fun i sg x y h => by cases h), List.forall_mem_nil _, by assumption⟩ ?turn ?done
  case done =>
    rintro m₁ l₁ h tk ⟨its, k, tl, rs, lb, e1, e2, e3, rfl, hsz, hrs, hr', hok, hlb, hxy, hX, hR⟩ hmem F₁ N₁
    rw [hc4] at hsz hrs
    replace F₁ := fr_eta3 F₁ e1 e2 e3
    clear e1 e2 e3
    k_steps
    refine' hr _ (tl ++ [(_, _)]) _ _ _ (by assumption) ?N (lt_app (fun q hq p hp => Nat.lt_trans (hR q hq) (hX p hp)) (lt_cons hR lt_nilL)) ?yp
    case N => rw [List.append_assoc]; exact N₁
    case yp => exact ⟨_, rfl, rs, lb, hrs, ⟨its, k, List.mem_append_right _ (.head _), hsz.trans hrs.symm, fun i r e => let ⟨a, h1, h2⟩ := hr' i r e; ⟨a, h1, h2.mono fun p hp => List.mem_append_left _ hp⟩⟩, hok, hlb, hxy⟩
  case turn =>
    rintro I oI oJ j v TT tT m₁ l₁ h tk q7 hv hTup hmem ⟨its, k, tl, rs, lb, e1, e2, e3, rfl, hsz, hrs, hr', hok, hlb, hxy, hX, hR⟩ F₁ N₁ off hr7 hn7
    replace F₁ := fr_eta3 F₁ e1 e2 e3
    clear e1 e2 e3
    have hj : j < cs.length := by have := (List.getElem?_eq_some_iff.mp hv).1; omega
    obtain ⟨tc, hcv⟩ := hc3 j (cs[j]'hj) (List.getElem?_eq_getElem hj)
    generalize cs[j]'hj = c0 at hcv
    obtain rfl : v = .int c0 tc := by rw [Array.getElem?_toList, hcv] at hv; exact (Option.some.inj hv).symm
    have hj9 : j ≤ 10000 := Nat.le_trans (Nat.le_trans (Nat.le_of_lt hj) hlen) (by decide)
    have hz : its.size ≤ sizeLine := by rw [hsz]; exact Nat.le_trans (Nat.le_trans (Nat.le_of_lt hj) hlen) (by decide)
    have UB : ∀ x : Value, Upd _ (PySem.W.listOf its k) (PySem.W.listOf (its.push x) (k + 1)) ((I + 1, oI) :: (I, oJ) :: (tl ++ (_, PySem.W.listOf its k) :: news)) ((I + 1, oI) :: (I, oJ) :: (tl ++ (_, PySem.W.listOf (its.push x) (k + 1)) :: news)) := fun x =>
      .tail (fun e => (off (_, PySem.W.listOf its k) (List.mem_append_right _ (.head _))).2 e.symm) (.tail (fun e => (off (_, PySem.W.listOf its k) (List.mem_append_right _ (.head _))).1 e.symm) (upd_app (off_ge hX (Nat.le_refl _)) (.head fun p hp => Nat.ne_of_lt (hR p hp))))
    k_steps
    · refine' hn7 _ _ _ _ (by assumption) (news_del2 (by assumption) ?D1 ?D2) ?off ?mem ?ji
      case D1 => k_extra "k_del"
      case D2 => k_extra "k_del"
      case off => exact List.forall_mem_cons.mpr ⟨⟨ne_gt (by assumption) (by k_mem), ne_gt (by assumption) (by k_mem)⟩, fo_chg (P := fun a => a ≠ I ∧ a ≠ I + 1) off⟩
      case mem => k_mem
      case ji => exact jx_step (gb := [_]) (r := .ali _) rfl rfl rfl rfl hsz hrs hr' hok hlb hxy hX hR (.ali (.head _)) (⟨hx8, hx9⟩) (fun _ _ _ h => by cases h) (List.forall_mem_cons.mpr ⟨lt_of_led (by assumption) (by k_mem), List.forall_mem_nil _⟩)
    · refine' hn7 _ _ _ _ (by assumption) (news_del2 (by assumption) ?D1 ?D2) ?off ?mem ?ji
      case D1 => k_extra "k_del"
      case D2 => k_extra "k_del"
      case off => exact List.forall_mem_cons.mpr ⟨⟨ne_gt (by assumption) (by k_mem), ne_gt (by assumption) (by k_mem)⟩, fo_chg (P := fun a => a ≠ I ∧ a ≠ I + 1) off⟩
      case mem => k_mem
      case ji => exact jx_step (gb := [_]) (r := .org _ _) rfl rfl rfl rfl hsz hrs hr' hok hlb hxy hX hR (.org (.head _)) (⟨hx8, hx9⟩) (fun _ _ _ h => by cases h) (List.forall_mem_cons.mpr ⟨lt_of_led (by assumption) (by k_mem), List.forall_mem_nil _⟩)
    · refine' hn7 _ _ _ _ (by assumption) (news_del2 (by assumption) ?D1 ?D2) ?off ?mem ?ji
      case D1 => k_extra "k_del"
      case D2 => k_extra "k_del"
      case off => exact List.forall_mem_cons.mpr ⟨⟨ne_gt (by assumption) (by k_mem), ne_gt (by assumption) (by k_mem)⟩, fo_chg (P := fun a => a ≠ I ∧ a ≠ I + 1) off⟩
      case mem => k_mem
      case ji => exact jx_step (gb := [_]) (r := .gap _) rfl rfl rfl rfl hsz hrs hr' hok hlb hxy hX hR (.gap (.head _)) (⟨hx8, hx9⟩) (fun _ _ _ h => by cases h) (List.forall_mem_cons.mpr ⟨lt_of_led (by assumption) (by k_mem), List.forall_mem_nil _⟩)
    · refine Halt.mk ?_
      refine' comp_invT (fun i ys nw => nw = ?NW ∧ (lb = none → ys = []) ∧ (∀ q, lb = some q → q < i → ys ≠ [])) its.size ?cturn ?cdone its.size 0 [] _ (Nat.zero_add _) ⟨rfl, (fun _ => rfl), fun q _ h => absurd h (Nat.not_lt_zero _)⟩
      case cturn =>
        rintro i v ys nw I2 oI2 C2 oC DD m₂ h2 tk2 Y NN E2 hi hp hno hxr ⟨rfl, y1, y2⟩ F₂ N₂ off2 ne2 hY hN
        have hi' : i < rs.length := hrs.trans hsz.symm ▸ hi
        obtain ⟨r, hri⟩ : ∃ r, rs[i]? = some r := ⟨_, List.getElem?_eq_getElem hi'⟩
        obtain ⟨a, ha, hra⟩ := hr' i r hri
        obtain rfl : v = .ref a := Option.some.inj (hp.symm.trans ha)
        have step : (∀ sg x y, r ≠ .leb sg x y) → ∀ q, lb = some q → q < i + 1 → ys ≠ [] := fun hn q e hq => by
          rcases Nat.lt_or_ge q i with h | h
          · exact y2 q e h
          · obtain rfl : q = i := Nat.le_antisymm (Nat.le_of_lt_succ hq) h
            obtain ⟨sg, x, y, e'⟩ := (hlb q).mpr e
            exact absurd (Option.some.inj (hri.symm.trans e')) (hn sg x y)
        cases r with
        | gap k' =>
          cases hra with
          | gap hg =>
          k_steps
          exact hN _ _ _ (by assumption) (by assumption) off2 (.inr ⟨_, by k_mem, rfl, _, rfl⟩) ⟨rfl, y1, step (fun _ _ _ h => by cases h)⟩
        | ali k' =>
          cases hra with
          | ali hg =>
          k_steps
          exact hN _ _ _ (by assumption) (by assumption) off2 (.inr ⟨_, by k_mem, rfl, _, rfl⟩) ⟨rfl, y1, step (fun _ _ _ h => by cases h)⟩
        | org wd k' =>
          cases hra with
          | org hg =>
          k_steps
          exact hN _ _ _ (by assumption) (by assumption) off2 (.inr ⟨_, by k_mem, rfl, _, rfl⟩) ⟨rfl, y1, step (fun _ _ _ h => by cases h)⟩
        | leb sg x y =>
          cases hra with
          | leb hg =>
          k_steps
          exact hY _ _ _ _ (by assumption) (by assumption) off2 (.inr ⟨_, by k_mem, rfl, _, rfl⟩) ⟨rfl, (fun e => by have := (hlb i).mp ⟨_, _, _, hri⟩; rw [e] at this; cases this), fun _ _ _ h => by cases List.append_eq_nil_iff.mp h with | intro _ h2 => cases h2⟩
      case cdone =>
        rintro ys nw ⟨rfl, y1, y2⟩
        unfold LCg.FinE
        intro DD h2 tk2 F₂ N₂ o1
        cases hlb9 : lb with
        | none =>
          obtain rfl := y1 hlb9
          have oo := off1_all o1
          k_steps
          obtain ⟨nx, hnx, hnx2⟩ := fmod_nat (a := Int.fdiv (Int.fdiv (if c0 < 0 then -c0 else c0) 6) 2) (m := cs.length)
          obtain ⟨ny, hny, hny2⟩ := fmod_nat (a := Int.fdiv (Int.fdiv (if c0 < 0 then -c0 else c0) 6) 40) (m := cs.length)
          simp only [hnx, hny] at N4
          have N9 := news_drop (x := (DD, _)) (by assumption) (by k_extra "k_del")
          refine' hn7 _ _ _ _ (by assumption) (news_del2 N9 ?D1 ?D2) ?off ?mem ?ji
          case D1 => k_extra "k_del"
          case D2 => k_extra "k_del"
          case off => exact List.forall_mem_cons.mpr ⟨⟨ne_gt (by assumption) (by k_mem), ne_gt (by assumption) (by k_mem)⟩, List.forall_mem_cons.mpr ⟨⟨ne_gt (by assumption) (by k_mem), ne_gt (by assumption) (by k_mem)⟩, fo_chg (P := fun a => a ≠ I ∧ a ≠ I + 1) off⟩⟩
          case mem => k_mem
          case ji => exact jx_step (gb := [_, _]) (r := .leb _ nx ny) rfl rfl rfl rfl hsz hrs hr' hok hlb hxy hX hR (.leb (.head _)) (⟨Nat.le_trans hnx2 hlen, Nat.le_trans hny2 hlen⟩) (fun _ _ _ h => by injection h with _ h1 h2; exact ⟨hlb9, h1 ▸ hnx2, h2 ▸ hny2⟩) (List.forall_mem_cons.mpr ⟨lt_of_led (by assumption) (by k_mem), List.forall_mem_cons.mpr ⟨lt_of_led (by assumption) (by k_mem), List.forall_mem_nil _⟩⟩)
        | some q =>
          obtain ⟨sg9, x9, y9, hq⟩ := (hlb q).mpr hlb9
          obtain ⟨y', r', rfl⟩ := List.exists_cons_of_ne_nil (y2 q hlb9 (hsz.trans hrs.symm ▸ (List.getElem?_eq_some_iff.mp hq).1))
          have oo := off1_all o1
          k_steps
-- W1
theorem offR_one {ws : KL} {i : Nat} {W : Int} (h : OffR ws (specW (some i) W)) : ∃ kv t, kyAt ws (.inr [.inl (Str.ofString ".text"), .inr (i : Int)]) = some (kv, .int W t) :=
  offR_some h (.head _) fun v' hv => by
    have e := List.mem_singleton.mp hv
    injection e with _ e
    injection e with _ e
theorem width_ct {w : World} {news : Led} {q : LA} {rows : List Row} {W : Int} {i : Nat} (hq : LayAt w news q rows (some i) W) {t1 t2 : Tok} :
    Ct w 4 80 215 [.ref q.y, .str (Str.ofString ".text") t1, .int i t2] news (IntP W) False := by
  obtain ⟨_, _, _, hd⟩ := hq.hd
  have h1 := hq.hy
  have h2 := hq.hW
  have h3 := hq.lW
  obtain ⟨xs, k1, k2, k3⟩ := hq.kW
  obtain ⟨kv, t, hk⟩ := offR_one k3
  refine ct_open3 (by k_is) (by k_is) (by kernel_rfl) rfl rfl rfl ?_; k_extra "ct_in"
  k_steps
  refine hr _ [] _ _ _ (by assumption) (news_sub (by assumption) (by k_extra "subz")) lt_nilL ?_
  exact ⟨_, rfl⟩
-- C1
section
open PyProof.Rows.LCg
variable {w : World} {A : Around} {E : Value → Shared → Prop} {s : Shared} {h₀ : Heap} {L : Addr} {m : SMap} {env : Env}
theorem ecp_loop {elt target iter ct : Expr} {scope : Scope} {pos : Pos} {it acc : Value} {env : Env} {R : Result → Shared → Prop} (I : Nat → Shared → Prop)
    (turn : ∀ n s, I n s → wpAny (model PG w) A (pyNext it) (fun r s₁ => match r with
      | none => R (.ok .next) s₁
      | some v => wpAny (model PG w) A (letOwnedTupleGo target it v) (fun _ s₀ => wpAny (model PG w) A (assign target env v) (fun _ s₂ =>
          wpAny (model PG w) A (isTrue ct env (eval ct env)) (fun ok s₃ => if ok = true then wpAny (model PG w) A (eval elt env) (fun x s₄ =>
            wpAny (model PG w) A (call (.builtin "list.append") [acc, x]) (fun _ s₅ => ∃ m, m < n ∧ I m s₅) (notedBy (model PG w) A env fun e s' => R (.error e) s') s₄) (notedBy (model PG w) A env fun e s' => R (.error e) s') s₃
            else ∃ m, m < n ∧ I m s₃) (notedBy (model PG w) A env fun e s' => R (.error e) s') s₂)
          (notedBy (model PG w) A env fun e s' => R (.error e) s') s₀) (notedBy (model PG w) A env fun e s' => R (.error e) s') s₁) (notedBy (model PG w) A env fun e s' => R (.error e) s') s)
    (n : Nat) (h : I n s) : codeAny (model PG w) A (.compLoop (.ListComp elt [⟨target, iter, [ct], 0⟩] scope pos) 0 it acc env) R s := by
  refine codeAny_loop rfl I (fun n s hI => ?_) n h
  show wpAny _ A ((compTurn (.ListComp elt [⟨target, iter, [ct], 0⟩] scope pos) 0 it acc env).onRaise (fun x => do noteFrame x env; theTreesLotGoes x)) _ _ s
  refine wpAny_noted ?_
  rw [compTurn_list]
  refine wpAny_bind (wpAny_standAt (wpAny_bind (wpAny_mono (turn n s hI) (fun r s₁ h₁ => ?_) fun _ _ h' => h')))
  cases r with
  | none => exact wpAny_pure h₁
  | some v =>
    refine wpAny_bind (wpAny_mono h₁ (fun _ s₀ h₀' => ?_) fun _ _ h' => h')
    refine wpAny_bind (wpAny_mono h₀' (fun _ s₂ h₂ => ?_) fun _ _ h' => h')
    refine wpAny_bind (wpAny_tests_one (wpAny_mono h₂ (fun ok s₃ h₃ => ?_) fun _ _ h' => h'))
    cases ok with
    | false => exact wpAny_pure ⟨rfl, h₃⟩
    | true => exact wpAny_bind (wpAny_bind (wpAny_mono h₃ (fun x s₄ h₄ => wpAny_bind (wpAny_mono h₄ (fun _ s₅ h₅ => wpAny_pure (wpAny_pure ⟨rfl, h₅⟩)) fun _ _ h' => h')) fun _ _ h' => h'))
inductive EcpI (L : Addr) (s : Shared) (h₀ : Heap) (m : SMap) (its : Array Value) (l C DD : Addr) (news : Led) (J : Nat → List Value → Prop) (k' : Nat) (s' : Shared) : Prop
  | mk (h' : Heap) (tk i : Nat) (ys : List Value) (m' : SMap) (e : s' = { s with heap := h', toks := tk }) (hi : i ≤ its.size) (hk : k' = its.size + 1 - i) (hyl : ys.length ≤ i) (st : (∃ old, IsEnum h' (s.heap.objs.size + 1) s.heap.objs.size i old) ∧ h'.IsListIter s.heap.objs.size l i ∧ h'.IsList l its)
    (F : Fr h₀ L h' m) (hn : h'.Ns C m') (N : News h₀ L h' ((DD, lst ys) :: news)) (j : J i ys)
/-- [a for a, b in enumerate(l) if ct]: a test that changes nothing -/
theorem ecp_ListComp {ct fn : Expr} {a b : Str} {pa pb pe tp pf : Pos} {args : List Expr} {kk : Nat} {scope : Scope} {cl : List (Str × Addr)} {pos spos : Pos} {l : Addr} {its : Array Value} {k : Nat} {news : Led} {y : Str} {py : Pos} {Q : Flow → Shared → Prop} (J : Nat → List Value → Prop) (bt : Nat → Bool)
    (hh : A.handled = none) (hLe : env.locals = L) (hiter : ∀ (Q : Value → Shared → Prop), wpAny (model PG w) A (call (.type "enumerate") [.ref l]) Q E s → wpAny (model PG w) A (eval (.Call fn args [] pf) env) Q E s)
    (hsw : swapsWith (.ListComp (.Name a pe) [⟨.Tuple [.Name a pa, .Name b pb] kk tp, .Call fn args [] pf, [ct], 0⟩] scope pos) (some (.Name y py)) spos.line env = pure true)
    (hclos : closureFor scope env = pure cl) (hcell : ∀ y ∈ scope.names, y.2 ≠ .cell) (hkind : scope.kind = .function)
    (hnames : ∀ y ∈ scope.names, y.2 = .local → scope.names.lookup y.1 = some .local) (hxa : scope.names.lookup a = some .local) (hxb : scope.names.lookup b = some .local) (hab : ¬ a = b) (had : (a == ("__debug__" : Str)) = false)
    (hy : env.kindOf y = some .local) (hp : (env.scope.kind == .class || (env.scope.kind == .module && env.locals != env.globals)) = false)
    (F : Fr h₀ L s.heap m) (N : News h₀ L s.heap news) (hm : (l, PySem.W.listOf its k) ∈ news) (hsz : its.size ≤ sizeLine)
    (j0 : J 0 []) (jy : ∀ i ys t, i < its.size → bt i = true → J i ys → J (i + 1) (ys ++ [.int (i : Nat) t])) (jn : ∀ i ys, i < its.size → bt i = false → J i ys → J (i + 1) ys)
    (turn : ∀ i v C oC m₂ h tk (Q' : Bool → Shared → Prop) (E' : Value → Shared → Prop), its[i]? = some v → NsObj oC m₂ → m₂ b = some v → Fr h₀ L h m → News h₀ L h ((C, oC) :: news) → (∀ tk', Q' (bt i) { s with heap := h, toks := tk' }) →
      wpAny (model PG w) A (isTrue ct (compEnvC scope cl C env) (eval ct (compEnvC scope cl C env))) Q' E' { s with heap := h, toks := tk })
    (h : ∀ D h' tk ys, Fr h₀ L h' (setF y (.ref D) m) → News h₀ L h' ((D, lst ys) :: news) → (∀ p ∈ news, p.1 < D) → J its.size ys → Q .next { s with heap := h', toks := tk })
    (hs : ∀ x, foldedSetIterable (.Call fn args [] pf) env x = pure x := by intro _; rfl) :
    wpAny (model PG w) A (exec (.Assign [.Name y py] (.ListComp (.Name a pe) [⟨.Tuple [.Name a pa, .Name b pb] kk tp, .Call fn args [] pf, [ct], 0⟩] scope pos) spos) env) Q E s := by
  subst hLe
  rw [exec_Assign_Name_used _ _ _ _ hsw]
  refine wpAny_bind (wpAny_standAt (wpAny_bind ?_))
  show wpAny _ A (do let _ ← comprehension (.ListComp (.Name a pe) [⟨.Tuple [.Name a pa, .Name b pb] kk tp, .Call fn args [] pf, [ct], 0⟩] scope pos) scope env _ (newList []) false (eval (.Call fn args [] pf) env) (some (assign (.Name y py) env))) _ _ s
  refine wpAny_bind (wpAny_mono (wpAny_comprehension_free (use := some (assign (.Name y py) env)) (Q := fun _ s' => Q .next s') rfl hs hclos hkind hnames (hiter _ ?_)) (fun _ s' hq => wpAny_pure (wpAny_pure hq)) fun _ _ e => e)
  have hax := N _ hm
  have hl : s.heap.IsList l its := ⟨_, hax.1, rfl, k, rfl⟩
  have hlt : @LT.lt Nat _ l s.heap.objs.size := Heap.lt_size hax.1
  have hLlt : @LT.lt Nat _ env.locals s.heap.objs.size := F.ns.lt
  refine call_enumerate_list hl fun hE' hE hI hsz' hkE => ?_
  refine wpAny_pyIter_enum hE ?_
  have hI1 : s.heap.objs.size + 1 ≠ s.heap.objs.size := Nat.succ_ne_self _
  have W := WalksT.enumerate (prog := PG) (w := w) hh (s.heap.objs.size + 1) s.heap.objs.size l hI1 (Nat.ne_of_lt (Nat.lt_succ_of_lt hlt)) (Nat.ne_of_lt hlt) its
  refine wpAny_newObj_type (wpAny_newFunctionEnv hcell (by intro y hy; simp at hy) (fun h₁ hns₁ hsb₁ => ?_) hkind)
  dsimp only at hns₁ hsb₁ ⊢
  generalize hH2 : hE'.push { cls := .type "list", dict := none, data := .seq ([] : List Value).toArray } = H2 at hns₁ hsb₁ ⊢
  have hC : H2.objs.size = s.heap.objs.size + 3 := by rw [← hH2, Heap.size_push, hsz']
  have hD : hE'.objs.size = s.heap.objs.size + 2 := hsz'
  have oldE : ∀ b o, hE'.get? b = some o → h₁.get? b = some o := fun b o e => hsb₁.extBut b o (Nat.ne_of_lt (by have h9 : @LT.lt Nat _ b hE'.objs.size := Heap.lt_size e; rw [hC]; exact Nat.lt_of_lt_of_le h9 (by rw [hsz']; exact Nat.le_succ _))) (Heap.get?_push_of_some _ (hH2 ▸ Heap.get?_push_of_some _ e))
  have old : ∀ b o, s.heap.get? b = some o → h₁.get? b = some o := fun b o e => oldE b o (hkE b o e)
  have hacc : h₁.get? hE'.objs.size = some (lst []) := hsb₁.extBut _ _ (by rw [hC, hD]; exact Nat.ne_of_lt (Nat.lt_succ_self _)) (Heap.get?_push_of_some _ (hH2 ▸ Heap.get?_push_size _ rfl))
  have fresh₀ : ∀ a, s.heap.objs.size ≤ a → h₀.get? a = none := fun a ha => Heap.get?_none_of_le (Nat.le_trans F.above (Nat.le_trans (Nat.le_of_lt hLlt) ha))
  have hD₀ : h₀.get? hE'.objs.size = none := fresh₀ _ (by rw [hD]; omega)
  have hC₀ : h₀.get? H2.objs.size = none := fresh₀ _ (by rw [hC]; omega)
  have neq : ∀ {x : Addr}, @LT.lt Nat _ x s.heap.objs.size → x ≠ s.heap.objs.size ∧ x ≠ s.heap.objs.size + 1 ∧ x ≠ hE'.objs.size ∧ x ≠ H2.objs.size := fun {x} hx => by rw [hD, hC]; exact ar_far hx
  have hDC : hE'.objs.size ≠ H2.objs.size := by rw [hD, hC]; exact Nat.ne_of_lt (Nat.lt_succ_self _)
  have hCw : H2.objs.size ∉ [s.heap.objs.size + 1, s.heap.objs.size, l] := by
    rw [hC]; intro hm
    simp only [List.mem_cons, List.not_mem_nil, or_false] at hm
    omega
  have hDw : hE'.objs.size ∉ [s.heap.objs.size + 1, s.heap.objs.size, l] := by
    rw [hD]; intro hm
    simp only [List.mem_cons, List.not_mem_nil, or_false] at hm
    omega
  have hwr : ∀ {b : Addr}, b ≠ s.heap.objs.size → b ≠ s.heap.objs.size + 1 → b ∉ [s.heap.objs.size + 1, s.heap.objs.size] := fun h1 h2 hm => by
    simp only [List.mem_cons, List.not_mem_nil, or_false] at hm
    exact hm.elim h2 h1
  have hst₁ : ∃ old, IsEnum h₁ (s.heap.objs.size + 1) s.heap.objs.size 0 old := ⟨.none, oldE _ _ hE⟩
  have loop : ∀ s₃ : Shared, s₃ = { s with heap := h₁, toks := s.toks + ([] : List (Str × Value)).length } →
      codeAny (model PG w) A (.compLoop (.ListComp (.Name a pe) [⟨.Tuple [.Name a pa, .Name b pb] kk tp, .Call fn args [] pf, [ct], 0⟩] scope pos) 0 (.ref (s.heap.objs.size + 1)) (.ref hE'.objs.size) (compEnvC scope cl H2.objs.size env))
        (compPost (model PG w) A E (some (assign (.Name y py) env)) (fun _ s' => Q .next s') (.ref hE'.objs.size) H2.objs.size) s₃ := by
    rintro s₃ rfl
    refine ecp_loop
      (EcpI env.locals s h₀ m its l H2.objs.size hE'.objs.size news J) ?_ (its.size + 1)
      ⟨h₁, _, 0, [], _, rfl, Nat.zero_le _, rfl, Nat.le_refl _, ⟨hst₁, (let ⟨o, e, r⟩ := hI; ⟨o, oldE _ o e, r⟩), hl.at fun o e => old l o e⟩, F.keeps old, hns₁, fun p hp => ?_, j0⟩
    · rintro k' s' ⟨h', tk, i, ys, m', rfl, hi, rfl, hyl, hst', F', hn', N', j⟩
      have offn : ∀ p ∈ news, @LT.lt Nat _ p.1 s.heap.objs.size := fun p hp => Heap.lt_size (N p hp).1
      by_cases hlt' : i < its.size
      · refine W.item i _ _ _ hlt' hst' fun T vals h₂ tk₂ hPt _ hT hMd hk₂ => ?_
        obtain ⟨t, x, hx, rfl⟩ := hPt
        have hTw := W.apart i T h₂ hMd
        refine W.go _ _ _ i T _ _ _ hMd fun h₃ hst₃ hk₃ => ?_
        have hT₃ : h₃.IsTuple T #[.int i t, x] := hT.at fun o e => hk₃ T o hTw e
        have up₃ : ∀ c o, c ≠ s.heap.objs.size → c ≠ s.heap.objs.size + 1 → h'.get? c = some o → h₃.get? c = some o := fun c o h1 h2 e => hk₃ c o (hwr h1 h2) (hk₂ c o (hwr h1 h2) e)
        have hCs : H2.objs.size ≠ s.heap.objs.size ∧ H2.objs.size ≠ s.heap.objs.size + 1 := by rw [hC]; exact ⟨Nat.ne_of_gt (Nat.lt_add_of_pos_right (by decide)), Nat.ne_of_gt (Nat.add_lt_add_left (by decide) _)⟩
        have hDs : hE'.objs.size ≠ s.heap.objs.size ∧ hE'.objs.size ≠ s.heap.objs.size + 1 := by rw [hD]; exact ⟨Nat.ne_of_gt (Nat.lt_add_of_pos_right (by decide)), Nat.ne_of_gt (Nat.add_lt_add_left (by decide) _)⟩
        refine kcp_assign (env := compEnvC scope cl H2.objs.size env) hh hT₃ (lookup_relabel_local hxa) (lookup_relabel_local hxb) (by simp [compEnvC, relabel, hkind]) (hn'.at' fun o e => up₃ _ o hCs.1 hCs.2 e) fun h₄ tk₄ hn₄ hs₄ => ?_
        have up : ∀ c o, c ≠ s.heap.objs.size → c ≠ s.heap.objs.size + 1 → c ≠ H2.objs.size → h'.get? c = some o → h₄.get? c = some o := fun c o h1 h2 h3 e => hs₄ c o h3 (up₃ c o h1 h2 e)
        have hst₄ := W.frame _ _ h₄ hst₃ fun b hb o e => hs₄ b o (fun q => hCw (by have q' : b = H2.objs.size := q; rw [← q']; exact hb)) e
        obtain ⟨oC, heC, hoC⟩ := ns_obj hn₄
        have F₄ : Fr h₀ env.locals h₄ m := ⟨F'.ns.at' fun o e => up _ o (neq hLlt).1 (neq hLlt).2.1 (neq hLlt).2.2.2 e, fun c o e => up c o (fun q => by rw [q, fresh₀ _ (Nat.le_refl _)] at e; cases e) (fun q => by rw [q, fresh₀ _ (Nat.le_succ _)] at e; cases e) (fun q => by rw [q, hC₀] at e; cases e) (F'.keep c o e), F'.above⟩
        have Nn : News h₀ env.locals h₄ news := fun q hq => ⟨up _ _ (neq (offn q hq)).1 (neq (offn q hq)).2.1 (neq (offn q hq)).2.2.2 (N' q (.tail _ hq)).1, (N' q (.tail _ hq)).2⟩
        have hCL : H2.objs.size ≠ env.locals := Ne.symm (neq hLlt).2.2.2
        have hDL : hE'.objs.size ≠ env.locals := Ne.symm (neq hLlt).2.2.1
        have ND : h₄.get? hE'.objs.size = some (lst ys) := up _ _ hDs.1 hDs.2 hDC (N' _ (.head _)).1
        have NC : News h₀ env.locals h₄ ((H2.objs.size, oC) :: news) := fun q hq => by
          rcases List.mem_cons.mp hq with rfl | hq
          · exact ⟨heC, hCL, hC₀⟩
          · exact Nn q hq
        refine turn i x H2.objs.size oC _ h₄ tk₄ _ _ hx hoC (by simp) F₄ NC fun tk₅ => ?_
        cases hb : bt i with
        | false =>
          simp only [Bool.false_eq_true, if_false]
          refine ⟨its.size + 1 - (i + 1), ar_dec hlt', h₄, tk₅, i + 1, ys, _, rfl, hlt', rfl, Nat.le_succ_of_le hyl, hst₄, F₄, hn₄, fun q hq => ?_, jn i ys hlt' hb j⟩
          rcases List.mem_cons.mp hq with rfl | hq
          · exact ⟨ND, hDL, hD₀⟩
          · exact Nn q hq
        | true =>
          simp only [if_true]
          refine wpAny_Name (wpAny_loadName_local (by show (relabel scope env).kind = _; simpa [relabel] using hkind) (lookup_relabel_local hxa) (hn₄ : h₄.Ns (compEnvC scope cl H2.objs.size env).locals _) (v := .int (i : Nat) t) (by simp [hab]) ?_) had
          refine append_at (hsz := by show ys.toArray.size ≤ sizeLine; rw [List.size_toArray]; exact Nat.le_trans (Nat.le_trans hyl hi) hsz) ND fun h₆ hs₆ hD₆ => ?_
          refine ⟨its.size + 1 - (i + 1), ar_dec hlt', h₆, _, i + 1, ys ++ [.int i t], _, rfl, hlt', rfl, by rw [List.length_append, List.length_singleton]; exact Nat.succ_le_succ hyl, W.frame _ _ h₆ hst₄ fun b hb o e => hs₆.extBut b o (fun q => hDw (q ▸ hb)) e, F₄.change hs₆ hDL hD₀, hn₄.sameBut hs₆ (Ne.symm hDC), fun q hq => ?_, jy i ys t hlt' hb j⟩
          rcases List.mem_cons.mp hq with rfl | hq
          · exact ⟨hD₆.trans (congrArg some (lst_snoc ys _)), hDL, hD₀⟩
          · exact ⟨hs₆.extBut _ _ (neq (offn q hq)).2.2.1 (Nn q hq).1, (Nn q hq).2⟩
      · obtain rfl : i = its.size := Nat.le_antisymm hi (Nat.not_lt.mp hlt')
        refine W.done _ _ _ hst' fun h₂ tk₂ hk₂ => ?_
        have hCs : H2.objs.size ≠ s.heap.objs.size ∧ H2.objs.size ≠ s.heap.objs.size + 1 := by rw [hC]; exact ⟨Nat.ne_of_gt (Nat.lt_add_of_pos_right (by decide)), Nat.ne_of_gt (Nat.add_lt_add_left (by decide) _)⟩
        have hDs : hE'.objs.size ≠ s.heap.objs.size ∧ hE'.objs.size ≠ s.heap.objs.size + 1 := by rw [hD]; exact ⟨Nat.ne_of_gt (Nat.lt_add_of_pos_right (by decide)), Nat.ne_of_gt (Nat.add_lt_add_left (by decide) _)⟩
        have up : ∀ c o, c ≠ s.heap.objs.size → c ≠ s.heap.objs.size + 1 → h'.get? c = some o → h₂.get? c = some o := fun c o h1 h2 e => hk₂ c o (hwr h1 h2) e
        have F₂ : Fr h₀ env.locals h₂ m := ⟨F'.ns.at' fun o e => up _ o (neq hLlt).1 (neq hLlt).2.1 e, fun c o e => up c o (fun q => by rw [q, fresh₀ _ (Nat.le_refl _)] at e; cases e) (fun q => by rw [q, fresh₀ _ (Nat.le_succ _)] at e; cases e) (F'.keep c o e), F'.above⟩
        have hn₂ : h₂.Ns H2.objs.size m' := hn'.at' fun o e => up _ o hCs.1 hCs.2 e
        have hCL : H2.objs.size ≠ env.locals := Ne.symm (neq hLlt).2.2.2
        have N₂ : News h₀ env.locals h₂ ((hE'.objs.size, lst ys) :: news) := fun q hq => by
          refine ⟨up _ _ ?_ ?_ (N' q hq).1, (N' q hq).2⟩
          · rcases List.mem_cons.mp hq with rfl | hq
            · exact hDs.1
            · exact (neq (offn q hq)).1
          · rcases List.mem_cons.mp hq with rfl | hq
            · exact hDs.2
            · exact (neq (offn q hq)).2.1
        show wpAny _ A (assign (.Name y py) env (.ref hE'.objs.size)) _ _ _
        refine wpAny_assign_Name (wpAny_storeName_local hy F₂.ns (fun h₃ hn₃ hs₃ => ?_) hp)
        have hL₀ : h₀.get? env.locals = none := Heap.get?_none_of_le F₂.above
        have F₃ : Fr h₀ env.locals h₃ (setF y (.ref hE'.objs.size) m) := ⟨hn₃, fun b o e => hs₃.extBut b o (fun q => by rw [q, hL₀] at e; cases e) (F₂.keep b o e), F₂.above⟩
        refine ⟨m', hn₂.sameBut hs₃ hCL, fun h'' hs'' => h _ h'' _ ys (F₃.change hs'' hCL hC₀) (fun p hp => ?_) (fun p hp => by rw [hD]; exact Nat.lt_of_lt_of_le (offn p hp) (Nat.le_add_right _ _)) j⟩
        have z : h₃.get? p.1 = some p.2 := hs₃.extBut _ _ (N₂ p hp).2.1 (N₂ p hp).1
        refine ⟨hs''.extBut _ _ ?_ z, (N₂ p hp).2⟩
        rcases List.mem_cons.mp hp with rfl | hp
        · exact hDC
        · exact (neq (offn p hp)).2.2.2
    · rcases List.mem_cons.mp hp with rfl | hp
      · exact ⟨hacc, Ne.symm (neq hLlt).2.2.1, hD₀⟩
      · exact ⟨old _ _ (N p hp).1, (N p hp).2⟩
  exact codeAny_compStart_list (loop _ rfl) (W.self 0 _ _ _ ⟨hst₁, (let ⟨o, e, r⟩ := hI; ⟨o, oldE _ o e, r⟩), hl.at fun o e => old l o e⟩ (loop _ rfl))
end
-- K1
noncomputable def kasRun {α : Type} : KasT α → (Nat → Nat → Bool) → α
  | .ret a, _ => a
  | .ask i j k, c => kasRun (k (c i j)) c
noncomputable def kasOk {α : Type} (N : Nat) : KasT α → (Nat → Nat → Bool) → Bool
  | .ret _, _ => true
  | .ask i j k, c => decide (i < N) && (decide (j < N) && (decide (i ≠ j) && kasOk N (k (c i j)) c))
theorem kas_go {α : Type} {ask : Nat → Nat → (Bool → Shared → Prop) → Shared → Prop} {c : Nat → Nat → Bool} {N : Nat} {I : Shared → Prop} (hask : ∀ i j, i < N → j < N → i ≠ j → ∀ (C : Bool → Shared → Prop) s, I s → (∀ s', I s' → C (c i j) s') → ask i j C s) {G : α → Shared → Prop} :
    ∀ (t : KasT α) (s : Shared), kasOk N t c = true → I s → (∀ s', I s' → G (kasRun t c) s') → t.kasWp ask G s
  | .ret _, s, _, hi, hg => hg s hi
  | .ask i j k, s, ho, hi, hg => by
    unfold kasOk at ho
    simp only [Bool.and_eq_true, decide_eq_true_eq] at ho
    exact hask i j ho.1 ho.2.1 ho.2.2.1 _ s hi fun s' hi' => kas_go hask (k (c i j)) s' ho.2.2.2 hi' hg
/-- the order of a layout's keys: the last one (.data) ahead of all others, those by their number -/
noncomputable def keyLt (n i j : Nat) : Bool := if i + 1 = n then decide (j + 1 ≠ n) else if j + 1 = n then false else decide (i < j)
theorem kas_ok : ∀ n : Fin 12, 2 ≤ n.1 → kasOk n.1 (kas_sort n.1) (keyLt n.1) = true := by decide +kernel
theorem kas_in : ∀ n : Fin 12, 2 ≤ n.1 → (kasRun (kas_sort n.1) (keyLt n.1)).toList.all (fun i => decide (i < n.1)) = true := by decide +kernel
-- K2
section
variable {w : World} {A : Around} {E : Value → Shared → Prop} {s : Shared} {h₀ : Heap} {L d : Addr} {m : SMap} {news : Led} {o : Obj} {xs : KL}
theorem ky_method {name : Str} {id : String} {pl : Sem Bool} {Q : Value × List Value → Shared → Prop} (slot : Slot "dict" name id) (ty : typeOf (.builtin id) = pure (.type "method_descriptor")) (N : News h₀ L s.heap news) (hp : (d, o) ∈ news) (hd : KyObj w o xs) (h : Q (.builtin id, [.ref d]) s) :
    wpAny (model PG w) A (getMethod (.ref d) name pl) Q E s :=
  getMethod_builtin (ky_type N hp hd) PySem.F.plainAttrs_dict slot ty (fun a e => by injection e with e; subst e; exact ⟨o, (N _ hp).1, hd.1.2.1⟩) h
theorem ky_view {Q : Value → Shared → Prop} (F : Fr h₀ L s.heap m) (N : News h₀ L s.heap news) (hp : (d, o) ∈ news) (hd : KyObj w o xs) (lo : (d == sysModules) = false)
    (h : ∀ (D : Addr) h', Fr h₀ L h' m → News h₀ L h' ((D, { cls := .type "dict_items", data := .fields #[.ref d] }) :: news) → (∀ q ∈ news, q.1 < D) → Q (.ref D) { s with heap := h' }) :
    wpAny (model PG w) A (call (.builtin "dict.items") [.ref d]) Q E s := by
  have hT := ky_type N hp hd
  refine wpAny_call_entry PySem.F.slot_dict_items hT PySem.F.entry_dict_items ?_ (PySem.F.args_dict_items_1 _)
  unfold Builtin.«dict.items»
  refine wpAny_bind ?_
  unfold Builtin.Dict.noArgs
  refine wpAny_bind (wpAny_notOrdered_dict hT ?_)
  show wpAny _ _ (pure d) _ _ s
  refine wpAny_pure ?_
  show wpAny _ _ (Builtin.Dict.showsAll d >>= _) _ _ s
  unfold Builtin.Dict.showsAll
  rw [if_neg (by rw [lo]; exact Bool.false_ne_true)]
  refine wpAny_bind (wpAny_pure ?_)
  exact wpAny_bind (wpAny_newObj_type (wpAny_pure ⟨_, rfl, h _ _ (F.push _) (News.push F N _ rfl) fun q hq => Heap.lt_size (N q hq).1⟩))
end
-- K3
section
open PySem.F
variable {w : World} {A : Around} {E : Value → Shared → Prop} {hp : Heap} {g : Array GenState} {dr : Drawn} {tk : Nat} {os : OsState} {it d : Addr} {i ep : Nat} {od : Obj} {es : Array DictEntry} {ok ov : Value} {Q : Option Value → Shared → Prop}
noncomputable abbrev ItAt (h : Heap) (it d : Addr) (f0 f1 : Value) (i n ep : Nat) (ok ov : Value) : Prop := h.get? it = some { cls := .type "dict_itemiterator", dict := none, data := .fields #[f0, f1, .ref d, .int i 0, .int n 0, .int ep 0, ok, ov], slots := #[] }
/-- the next pair of an items iterator, over a dict whatever its keys: up to the pair's own tuple -/
theorem it_next {f0 f1 : Value} (hod : hp.get? d = some od) (hdd : od.data = .dict es ep) (hi : i < es.size) (hit : ItAt hp it d f0 f1 i es.size ep ok ov)
    (h : ∀ h₂ : Heap, ItAt h₂ it d f0 f1 (i + 1) es.size ep ok ov → h₂.get? hp.objs.size = some { cls := .type "tuple", data := .seq #[es[i].key, es[i].val] } → h₂.objs.size = hp.objs.size + 1 → (∀ b o, b ≠ it → hp.get? b = some o → h₂.get? b = some o) →
      wpAny (model PG w) A.in1 (Builtin.Dict_items.ownedTupleIsFree (.ref it)) (fun b s' => if b = true then wpAny (model PG w) A.in1 (do
          let old := [← field (.ref it) 6, ← field (.ref it) 7]
          setField (.ref it) 6 es[i].key; setField (.ref it) 7 es[i].val
          setField (.ref it) 0 (rawInt hp.objs.size); setField (.ref it) 1 (.bool false)
          letGo old [.ref hp.objs.size]
          pure (Value.ref hp.objs.size)) (fun v s'' => Q (some v) s'') (fun _ _ => False) s' else Q (some (.ref hp.objs.size)) s') (fun _ _ => False) ⟨h₂, g, dr, tk, os⟩) :
    wpAny (model PG w) A (pyNext (.ref it)) Q E ⟨hp, g, dr, tk, os⟩ := by
  have hT : Shared.TypeIs ⟨hp, g, dr, tk, os⟩ (.ref it) "dict_itemiterator" := ⟨_, hit, rfl⟩
  unfold pyNext
  refine wpAny_bind (wpAny_attempt (wpAny_callSpecial?_slot (name := Str.ofString "__next__") hT slot_dict_itemiterator_next
    (wpAny_call_entry slot_dict_itemiterator_next hT entry_dict_itemiterator_next ?_ (args_dict_itemiterator_next_1 _))))
  refine wpAny_bind (wpAny_pure ?_)
  refine wpAny_bind ?_
  refine wpAny_bind ?_
  first | refine wpAny_bind (wpAny_typeNameOfWhole_itemiter hT (wpAny_pure ?_)) | refine wpAny_bind (wpAny_typeNameOf_itemiter hT (wpAny_pure ?_))
  refine wpAny_bind (wpAny_fieldsOf hit rfl ?_)
  have hown : Builtin.Dict_items.ownsTuple "dict_itemiterator" = true := by decide
  simp only [hown, if_true]
  show wpAny _ _ (if (Value.ref d == Value.none) = true then _ else _) _ _ _
  rw [if_neg (show ¬ ((Value.ref d == Value.none) = true) from Bool.false_ne_true)]
  refine wpAny_bind (wpAny_pure ?_)
  refine wpAny_bind (wpAny_dictEntries hod hdd ?_)
  rw [if_neg (by simp)]
  refine wpAny_bind (wpAny_pure ?_)
  refine wpAny_bind (wpAny_dictEpoch hod hdd ?_)
  rw [if_neg (by simp)]
  refine wpAny_pure ?_
  simp only [show ¬ ((i : Int) < 0) from by omega, if_false, Int.toNat_natCast, Array.getElem?_eq_getElem hi]
  refine wpAny_bind ?_
  first | refine wpAny_bind (wpAny_typeNameOfWhole_itemiter hT (wpAny_pure ?_)) | refine wpAny_bind (wpAny_typeNameOf_itemiter hT (wpAny_pure ?_))
  refine wpAny_bind (wpAny_isOneOf_itemiter hT ?_)
  show wpAny _ _ (setField (.ref it) 3 (rawInt ((i : Int) + 1)) >>= _) _ _ ⟨hp, g, dr, tk, os⟩
  refine wpAny_bind (wpAny_setField_rec hit (by simp) fun h₁ he₁ hs₁ => ?_)
  replace hs₁ : Heap.SameBut it hp h₁ := hs₁
  replace he₁ : ItAt h₁ it d f0 f1 (i + 1) es.size ep ok ov := by
    have e : ((i + 1 : Nat) : Int) = (i : Int) + 1 := by omega
    unfold ItAt; rw [e]; simpa [rawInt] using he₁
  have hT₁ : Shared.TypeIs ⟨h₁, g, dr, tk, os⟩ (.ref it) "dict_itemiterator" := ⟨_, he₁, rfl⟩
  refine wpAny_bind (wpAny_holding ?_)
  refine wpAny_bind (wpAny_isOneOf_itemiter hT₁ ?_)
  refine wpAny_bind (wpAny_isOneOf_itemiter hT₁ ?_)
  show wpAny _ _ (Builtin.Dict_items.pairFromOwner (.ref it) 6 es[i].key es[i].val) _ _ ⟨h₁, g, dr, tk, os⟩
  have hz₁ : h₁.objs.size = hp.objs.size := hs₁.1
  have hil : it < hp.objs.size := Heap.lt_size hit
  unfold Builtin.Dict_items.pairFromOwner
  refine wpAny_bind (wpAny_newTuple ?_)
  have h2 := h (h₁.push { cls := .type "tuple", data := .seq #[es[i].key, es[i].val] }) (Heap.get?_push_of_some _ he₁) (by rw [← hz₁]; exact Heap.get?_push_size _ rfl) (by rw [Heap.size_push, hz₁]) (fun b o hb e => Heap.get?_push_of_some _ (hs₁.extBut b o hb e))
  show wpAny _ _ (Builtin.Dict_items.ownedTupleIsFree (.ref it) >>= _) _ _ _
  rw [hz₁]
  refine wpAny_bind (wpAny_mono h2 (fun b s' hb => ?_) fun _ _ x => x.elim)
  cases b with
  | false =>
    simp only [Bool.false_eq_true, if_false] at hb ⊢
    exact wpAny_pure (wpAny_pure ⟨_, rfl, wpAny_pure hb⟩)
  | true =>
    simp only [if_true] at hb ⊢
    exact wpAny_mono hb (fun v s'' hq => wpAny_pure ⟨_, rfl, wpAny_pure hq⟩) fun _ _ x => x.elim
theorem it_first (hod : hp.get? d = some od) (hdd : od.data = .dict es ep) (hi : i < es.size) (hit : ItAt hp it d .none (.bool false) i es.size ep ok ov)
    (h : ∀ h' : Heap, ItAt h' it d (rawInt hp.objs.size) (.bool false) (i + 1) es.size ep es[i].key es[i].val → h'.get? hp.objs.size = some { cls := .type "tuple", data := .seq #[es[i].key, es[i].val] } → h'.objs.size = hp.objs.size + 1 → (∀ b o, b ≠ it → hp.get? b = some o → h'.get? b = some o) → Q (some (.ref hp.objs.size)) ⟨h', g, dr, tk, os⟩) :
    wpAny (model PG w) A (pyNext (.ref it)) Q E ⟨hp, g, dr, tk, os⟩ := by
  have hil : it < hp.objs.size := Heap.lt_size hit
  refine it_next hod hdd hi hit fun h₂ he ht hz hk => ?_
  unfold Builtin.Dict_items.ownedTupleIsFree
  refine wpAny_bind (wpAny_field he rfl (x := .none) rfl (wpAny_pure ?_))
  simp only [if_true]
  refine wpAny_bind (wpAny_field he rfl (x := ok) rfl ?_)
  refine wpAny_bind (wpAny_field he rfl (x := ov) rfl ?_)
  refine wpAny_bind (wpAny_setField_rec he (by simp) fun h₃ he₃ hs₃ => ?_)
  replace hs₃ : Heap.SameBut it h₂ h₃ := hs₃
  replace he₃ : ItAt h₃ it d .none (.bool false) (i + 1) es.size ep es[i].key ov := he₃
  refine wpAny_bind (wpAny_setField_rec he₃ (by simp) fun h₄ he₄ hs₄ => ?_)
  replace hs₄ : Heap.SameBut it h₃ h₄ := hs₄
  replace he₄ : ItAt h₄ it d .none (.bool false) (i + 1) es.size ep es[i].key es[i].val := he₄
  refine wpAny_bind (wpAny_setField_rec he₄ (by simp) fun h₅ he₅ hs₅ => ?_)
  replace hs₅ : Heap.SameBut it h₄ h₅ := hs₅
  replace he₅ : ItAt h₅ it d (rawInt hp.objs.size) (.bool false) (i + 1) es.size ep es[i].key es[i].val := he₅
  refine wpAny_bind (wpAny_setField_rec he₅ (by simp) fun h₆ he₆ hs₆ => ?_)
  replace hs₆ : Heap.SameBut it h₅ h₆ := hs₆
  replace he₆ : ItAt h₆ it d (rawInt hp.objs.size) (.bool false) (i + 1) es.size ep es[i].key es[i].val := he₆
  have up : ∀ b o, b ≠ it → h₂.get? b = some o → h₆.get? b = some o := fun b o hb e => hs₆.extBut b o hb (hs₅.extBut b o hb (hs₄.extBut b o hb (hs₃.extBut b o hb e)))
  exact wpAny_bind (wpAny_letGo (wpAny_pure (h h₆ he₆ (up _ _ (Nat.ne_of_gt hil) ht) (by rw [hs₆.1, hs₅.1, hs₄.1, hs₃.1, hz]) fun b o hb e => up b o hb (hk b o hb e))))
theorem it_later {a : Addr} {f : Bool} {oa : Obj} (hod : hp.get? d = some od) (hdd : od.data = .dict es ep) (hi : i < es.size) (hit : ItAt hp it d (rawInt a) (.bool f) i es.size ep ok ov) (ha : hp.get? a = some oa) (hai : a ≠ it)
    (h : ∀ h' : Heap, ItAt h' it d (rawInt a) (.bool true) (i + 1) es.size ep ok ov → h'.get? hp.objs.size = some { cls := .type "tuple", data := .seq #[es[i].key, es[i].val] } → h'.objs.size = hp.objs.size + 1 → (∀ b o, b ≠ it → hp.get? b = some o → h'.get? b = some o) → Q (some (.ref hp.objs.size)) ⟨h', g, dr, tk, os⟩) :
    wpAny (model PG w) A (pyNext (.ref it)) Q E ⟨hp, g, dr, tk, os⟩ := by
  have hil : it < hp.objs.size := Heap.lt_size hit
  refine it_next hod hdd hi hit fun h₂ he ht hz hk => ?_
  unfold Builtin.Dict_items.ownedTupleIsFree
  refine wpAny_bind (wpAny_field he rfl (x := rawInt a) rfl ?_)
  show wpAny _ _ (loadIfAlive ((a : Int).toNat) >>= _) _ _ _
  rw [Int.toNat_natCast]
  refine wpAny_bind (kdx_alive (hk a oa hai ha) ?_)
  simp only [Option.isNone_some, Bool.false_eq_true, if_false]
  refine wpAny_bind (wpAny_field he rfl (x := .bool f) rfl ?_)
  cases f with
  | true =>
    rw [if_neg (show ¬ ((Value.bool true != Value.bool true) = true) from Bool.false_ne_true)]
    refine wpAny_pure ?_
    simp only [Bool.false_eq_true, if_false]
    exact h h₂ he ht hz hk
  | false =>
    rw [if_pos (show (Value.bool false != Value.bool true) = true from rfl)]
    refine wpAny_bind (wpAny_setField_rec he (by simp) fun h₃ he₃ hs₃ => wpAny_pure ?_)
    replace hs₃ : Heap.SameBut it h₂ h₃ := hs₃
    replace he₃ : ItAt h₃ it d (rawInt a) (.bool true) (i + 1) es.size ep ok ov := he₃
    simp only [Bool.false_eq_true, if_false]
    exact h h₃ he₃ (hs₃.extBut _ _ (Nat.ne_of_gt hil) ht) (by rw [hs₃.1, hz]) fun b o hb e => hs₃.extBut b o hb (hk b o hb e)
end
-- K4
section
open PySem.F
variable {w : World} {A : Around} {E : Value → Shared → Prop} {s : Shared} {it d : Addr} {i ep : Nat} {od : Obj} {es : Array DictEntry} {ok ov f0 f1 : Value} {Q : Option Value → Shared → Prop}
theorem it_end (hh : A.handled = none) (hod : s.heap.get? d = some od) (hdd : od.data = .dict es ep) (hi : es.size ≤ i) (hit : ItAt s.heap it d f0 f1 i es.size ep ok ov)
    (hQ : ∀ h', Heap.ExtBut it s.heap h' → Q none { s with heap := h' }) : wpAny (model PG w) A (pyNext (.ref it)) Q E s := by
  have hT : s.TypeIs (.ref it) "dict_itemiterator" := ⟨_, hit, rfl⟩
  unfold pyNext
  refine wpAny_bind (wpAny_attempt (wpAny_callSpecial?_slot (name := Str.ofString "__next__") hT slot_dict_itemiterator_next
    (wpAny_call_entry slot_dict_itemiterator_next hT entry_dict_itemiterator_next ?_ (args_dict_itemiterator_next_1 _))))
  refine wpAny_bind (wpAny_pure ?_)
  refine wpAny_bind ?_
  refine wpAny_bind ?_
  first | refine wpAny_bind (wpAny_typeNameOfWhole_itemiter hT (wpAny_pure ?_)) | refine wpAny_bind (wpAny_typeNameOf_itemiter hT (wpAny_pure ?_))
  refine wpAny_bind (wpAny_fieldsOf hit rfl ?_)
  have hown : Builtin.Dict_items.ownsTuple "dict_itemiterator" = true := by decide
  simp only [hown, if_true]
  show wpAny _ _ (if (Value.ref d == Value.none) = true then _ else _) _ _ s
  rw [if_neg (show ¬ ((Value.ref d == Value.none) = true) from Bool.false_ne_true)]
  refine wpAny_bind (wpAny_pure ?_)
  refine wpAny_bind (wpAny_dictEntries hod hdd ?_)
  rw [if_neg (by simp)]
  refine wpAny_bind (wpAny_pure ?_)
  refine wpAny_bind (wpAny_dictEpoch hod hdd ?_)
  rw [if_neg (by simp)]
  refine wpAny_pure ?_
  simp only [show ¬ ((i : Int) < 0) from by omega, if_false, Int.toNat_natCast, Array.getElem?_eq_none hi]
  refine wpAny_bind ?_
  first | refine wpAny_bind (wpAny_typeNameOfWhole_itemiter hT (wpAny_pure ?_)) | refine wpAny_bind (wpAny_typeNameOf_itemiter hT (wpAny_pure ?_))
  show wpAny _ _ (setField (.ref it) 2 .none >>= _) _ _ s
  refine wpAny_bind (wpAny_setField hit rfl (by simp) ?_)
  show wpAny _ _ (newExc (.type "StopIteration") [] >>= _) _ _ _
  refine wpAny_bind ?_
  simp only [newExc, newTuple]
  refine wpAny_bind (wpAny_newObj_type ?_ (by size_fits))
  refine wpAny_bind (m := firstArgMember _ _) (wpAny_of_eq (a := Value.none) (by first | rfl | (simp only [firstArgMember]; rfl)) ?_)
  refine wpAny_newObj_type ?_ (by size_fits)
  simp only [raiseNew]
  refine wpAny_bind (wpAny_handled ?_)
  rw [show A.in1.handled = none from hh]
  refine wpAny_bind (wpAny_pure (wpAny_throw ?_))
  refine wpAny_bind (wpAny_isInstance (T := "StopIteration") (b := true) ⟨_, Heap.get?_push_size _ rfl, rfl⟩ isSubtype_stop ?_)
  exact wpAny_pure (hQ _ (((Heap.SameBut.update ..).extBut.push _).push _))
/-- where the iterator stands before item i; S: the list that is being filled -/
noncomputable def ItSt (h : Heap) (it d S : Addr) (i n ep : Nat) : Prop :=
  (i = 0 ∧ ∃ ok ov, ItAt h it d .none (.bool false) 0 n ep ok ov) ∨ ∃ (ok ov : Value) (a : Addr) (f : Bool) (oa : Obj), ItAt h it d (rawInt a) (.bool f) i n ep ok ov ∧ h.get? a = some oa ∧ a ≠ it ∧ a ≠ S
theorem ItSt.keep {h h' : Heap} {it d S : Addr} {i n ep : Nat} (x : ItSt h it d S i n ep) (hk : ∀ b o, b ≠ S → h.get? b = some o → h'.get? b = some o) (hI : it ≠ S) : ItSt h' it d S i n ep := by
  rcases x with ⟨e, ok, ov, hit⟩ | ⟨ok, ov, a, f, oa, hit, ha, hai, haS⟩
  · exact .inl ⟨e, ok, ov, hk _ _ hI hit⟩
  · exact .inr ⟨ok, ov, a, f, oa, hk _ _ hI hit, hk _ _ haS ha, hai, haS⟩
theorem it_item {S : Addr} (hst : ItSt s.heap it d S i es.size ep) (hS : S < s.heap.objs.size) (hod : s.heap.get? d = some od) (hdd : od.data = .dict es ep) (hi : i < es.size)
    (hQ : ∀ h', ItSt h' it d S (i + 1) es.size ep → h'.get? s.heap.objs.size = some { cls := .type "tuple", data := .seq #[es[i].key, es[i].val] } → h'.objs.size = s.heap.objs.size + 1 → (∀ b o, b ≠ it → s.heap.get? b = some o → h'.get? b = some o) → Q (some (.ref s.heap.objs.size)) { s with heap := h' }) :
    wpAny (model PG w) A (pyNext (.ref it)) Q E s := by
  obtain ⟨hp, g, dr, tk, os⟩ := s
  rcases hst with ⟨rfl, ok, ov, hit⟩ | ⟨ok, ov, a, f, oa, hit, ha, hai, haS⟩
  · exact it_first hod hdd hi hit fun h' hit' ht hz hk => hQ h' (.inr ⟨_, _, _, false, _, hit', ht, Nat.ne_of_gt (Heap.lt_size hit), Nat.ne_of_gt hS⟩) ht hz hk
  · exact it_later hod hdd hi hit ha hai fun h' hit' ht hz hk => hQ h' (.inr ⟨ok, ov, a, true, oa, hit', hk a oa hai ha, hai, haS⟩) ht hz hk
theorem it_done {S : Addr} (hh : A.handled = none) (hst : ItSt s.heap it d S i es.size ep) (hod : s.heap.get? d = some od) (hdd : od.data = .dict es ep) (hi : es.size ≤ i)
    (hQ : ∀ h', Heap.ExtBut it s.heap h' → Q none { s with heap := h' }) : wpAny (model PG w) A (pyNext (.ref it)) Q E s := by
  rcases hst with ⟨rfl, ok, ov, hit⟩ | ⟨ok, ov, a, f, oa, hit, _, _, _⟩
  · exact it_end hh hod hdd hi hit hQ
  · exact it_end hh hod hdd hi hit hQ
end
-- K5
structure ItG (es : Array DictEntry) (lo : Addr) (h : Heap) (as : List Addr) : Prop where
  rise : as.Pairwise (· < ·)
  above : ∀ a ∈ as, lo < a
  pairs : ∀ (j : Nat) (a : Addr), as[j]? = some a → ∃ e, es[j]? = some e ∧ h.get? a = some { cls := .type "tuple", data := .seq #[e.key, e.val] }
theorem ItG.there {es : Array DictEntry} {lo : Addr} {h : Heap} {as : List Addr} (g : ItG es lo h as) {a : Addr} (ha : a ∈ as) : a < h.objs.size := by
  obtain ⟨j, hj⟩ := List.mem_iff_getElem?.mp ha
  obtain ⟨_, _, e⟩ := g.pairs j a hj
  exact Heap.lt_size e
theorem ItG.snoc {es : Array DictEntry} {lo : Addr} {h h' : Heap} {as : List Addr} {i : Nat} {b : Addr} (g : ItG es lo h as) (hl : as.length = i) (hi : i < es.size) (hb : h.objs.size = b) (hlo : lo < b) (ht : h'.get? b = some { cls := .type "tuple", data := .seq #[es[i].key, es[i].val] })
    (hk : ∀ a ∈ as, ∀ o, h.get? a = some o → h'.get? a = some o) : ItG es lo h' (as ++ [b]) := by
  refine ⟨?_, ?_, ?_⟩
  · exact List.pairwise_append.mpr ⟨g.rise, List.pairwise_singleton _ _, fun a ha c hc => by rw [List.mem_singleton.mp hc, ← hb]; exact g.there ha⟩
  · intro a ha
    rcases List.mem_append.mp ha with ha | ha
    · exact g.above a ha
    · rw [List.mem_singleton.mp ha]; exact hlo
  · intro j c hj
    rcases Nat.lt_or_ge j as.length with h1 | h1
    · rw [List.getElem?_append_left h1] at hj
      obtain ⟨e, e1, e2⟩ := g.pairs j c hj
      exact ⟨e, e1, hk c (List.mem_of_getElem? hj) _ e2⟩
    · have hlt := (List.getElem?_eq_some_iff.mp hj).1
      rw [List.length_append] at hlt
      have one : [b].length = 1 := rfl
      obtain rfl : j = as.length := by first | exact Nat.le_antisymm (Nat.le_of_lt_succ (by assumption)) (by assumption) | omega
      rw [List.getElem?_append_right (Nat.le_refl _), Nat.sub_self] at hj
      obtain rfl := Option.some.inj hj
      subst hl
      exact ⟨_, Array.getElem?_eq_getElem hi, ht⟩
section
variable {w : World} {A : Around} {s : Shared} {R : Result → Shared → Prop} {es : Array DictEntry} {ep : Nat} {od : Obj}
theorem it_loop {S I d : Addr} (hh : A.handled = none) (hdd : od.data = .dict es ep) (hSI : S < I) (hSd : d ≠ S) (hId : d ≠ I) (hn : es.size ≤ sizeLine) (res : Value) {h₁ : Heap}
    (hR : ∀ h' tk acc c as, (∀ b o, b ≠ S → b ≠ I → h₁.get? b = some o → h'.get? b = some o) → h'.get? S = some { cls := .type "list", dict := none, data := .seq acc c, slots := #[] } → as.length = es.size → ItG es I h' as →
      acc.toList = as.map Value.ref → R (.ok (.ret res)) { s with heap := h', toks := tk }) :
    ∀ (k i : Nat) (h : Heap) (tk c : Nat) (acc : Array Value) (as : List Addr), es.size - i = k → i ≤ es.size → ItSt h I d S i es.size ep → h.get? d = some od → (∀ b o, b ≠ S → b ≠ I → h₁.get? b = some o → h.get? b = some o) →
      h.get? S = some { cls := .type "list", dict := none, data := .seq acc c, slots := #[] } → acc.toList = as.map Value.ref → as.length = i → ItG es I h as → I < h.objs.size →
      codeAny (model PG w) A (.builtin "list.extend.loop" ⟨[.ref S, .ref I, res], []⟩) R { s with heap := h, toks := tk } := by
  have hne : S ≠ I := Nat.ne_of_lt hSI
  intro k
  induction k with
  | zero =>
    intro i h tk c acc as hk hi hst hD hkeep hS hacc hal hG hIs
    refine codeAny_builtin PySem.F.entry_extend_loop ?_
    rw [Around.under_plainId PySem.F.plain_extend_loop _]
    show wpAny _ A.in1 (pyNext (.ref I) >>= _) _ _ _
    refine wpAny_bind (it_done (s := { s with heap := h, toks := tk }) (A := A.in1) hh hst hD hdd (by first | exact ar_s0 (by assumption) (by assumption) | exact (ar_s0 (by assumption) (by assumption)).ge | omega) fun h' he => ?_)
    refine wpAny_pure (hR h' tk acc c as (fun b o h1 h2 e => he b o h2 (hkeep b o h1 h2 e)) (he S _ hne hS) (by omega) ⟨hG.rise, hG.above, fun j a hj => ?_⟩ hacc)
    obtain ⟨e, e1, e2⟩ := hG.pairs j a hj
    exact ⟨e, e1, he a _ (Nat.ne_of_gt (hG.above a (List.mem_of_getElem? hj))) e2⟩
  | succ k ih =>
    intro i h tk c acc as hk hi hst hD hkeep hS hacc hal hG hIs
    have hlt : i < es.size := by first | exact ar_s2 (by assumption) | omega
    have hsz : acc.size = i := by rw [← Array.length_toList, hacc, List.length_map, hal]
    have hSl : S < h.objs.size := Heap.lt_size hS
    refine codeAny_builtin PySem.F.entry_extend_loop ?_
    rw [Around.under_plainId PySem.F.plain_extend_loop _]
    show wpAny _ A.in1 (pyNext (.ref I) >>= _) _ _ _
    refine wpAny_bind (it_item (s := { s with heap := h, toks := tk }) (S := S) hst hSl hD hdd hlt fun h' hst' ht hz hkp => ?_)
    dsimp only at ht hz hkp ⊢
    have hS' := hkp S _ hne hS
    have up : ∀ b o, b ≠ S → h'.get? b = some o → (h'.update S (Obj.mapSeq (·.push (Value.ref h.objs.size)))).get? b = some o := fun b o hb e => (Heap.get?_update_other _ _ (Ne.symm hb)).trans e
    have htu := up _ _ (Nat.ne_of_gt hSl) ht
    show wpAny _ A.in1 (updateSeq S (·.push (Value.ref h.objs.size)) >>= _) _ _ _
    refine wpAny_bind ?_
    refine wpAny_updateSeq hS' rfl (wpAny_pure ⟨plainId_quiet PySem.F.plain_extend_loop _, ih (i + 1) _ tk _ (acc.push (Value.ref h.objs.size)) (as ++ [h.objs.size]) (by first | exact ar_s1 (by assumption) | omega) hlt (hst'.keep up (Ne.symm hne)) (up d _ hSd (hkp d _ hId hD))
      (fun b o h1 h2 e => up b o h1 (hkp b o h2 (hkeep b o h1 h2 e))) (Heap.get?_update_self _ hS' rfl) (by rw [Array.toList_push, hacc, List.map_append]; rfl) (by rw [List.length_append, hal]; rfl)
      (hG.snoc hal hlt rfl hIs htu fun a ha o e => up a o (Nat.ne_of_gt (Nat.lt_trans hSI (hG.above a ha))) (hkp a o (Nat.ne_of_gt (hG.above a ha)) e)) (Nat.lt_trans hIs (Heap.lt_size htu))⟩) (by rw [hsz]; omega) (by show (acc.push (Value.ref h.objs.size)).size ≤ sizeLine + 1; rw [Array.size_push, hsz]; omega)
end
-- K6
section
open PySem.F
variable {w : World} {A : Around} {E : Value → Shared → Prop} {s : Shared} {es : Array DictEntry} {ep : Nat} {od : Obj} {r d : Addr}
theorem it_iter {Q : Value → Shared → Prop} (hv : s.heap.IsItemsView r d) (hod : s.heap.get? d = some od) (hdd : od.data = .dict es ep)
    (hQ : Q (.ref s.heap.objs.size) { s with heap := s.heap.push { cls := .type "dict_itemiterator", data := .fields #[.none, .bool false, .ref d, .int 0 0, .int es.size 0, .int ep 0, .none, .none] } }) :
    wpAny (model PG w) A (pyIter (.ref r)) Q E s := by
  obtain ⟨ov, hov, hcv, hdv⟩ := id hv
  refine wpAny_pyIter_slot hv.typeIs slot_dict_items_iter (wpAny_call_entry slot_dict_items_iter hv.typeIs entry_dict_items_iter ?_ (args_dict_items_iter_1 _))
  unfold Builtin.«dict_items.__iter__»
  refine wpAny_bind (wpAny_pure ?_)
  refine wpAny_bind ?_
  unfold Builtin.Dict_items.dictOf
  refine wpAny_bind (wpAny_field hov hdv (x := .ref d) rfl (wpAny_pure ?_))
  refine wpAny_bind ?_
  unfold Builtin.Dict_items.newIterator
  refine wpAny_bind (wpAny_dictEntries hod hdd ?_)
  refine wpAny_bind (wpAny_dictEpoch hod hdd ?_)
  have hown : Builtin.Dict_items.ownsTuple "dict_itemiterator" = true := by decide
  simp only [hown, if_true]
  refine wpAny_newObj_type (wpAny_pure ⟨_, rfl, "dict_itemiterator", _, ⟨_, Heap.get?_push_size _ rfl, rfl⟩, slot_dict_itemiterator_next.lookup, ?_⟩)
    (by simp only [sizeOk, Builtin.Dict_items.ownedTupleFields, List.size_toArray, List.length_append, List.length_cons, List.length_nil, sizeLine_eq]; omega)
  simpa [rawInt, Builtin.Dict_items.ownedTupleFields] using hQ
theorem it_extend {R : Result → Shared → Prop} (hh : A.handled = none) (hv : s.heap.IsItemsView r d) (hod : s.heap.get? d = some od) (hdd : od.data = .dict es ep) (S : Addr) (hSr : S ≠ r) (hSd : d ≠ S) (res : Value) (c₀ : Nat) (hS : s.heap.get? S = some { cls := .type "list", data := .seq #[] c₀ })
    (hR : ∀ h' tk acc c as, (∀ b o, b ≠ S → s.heap.get? b = some o → h'.get? b = some o) → h'.get? S = some { cls := .type "list", dict := none, data := .seq acc c, slots := #[] } → as.length = es.size → ItG es s.heap.objs.size h' as →
      acc.toList = as.map Value.ref → R (.ok (.ret res)) { s with heap := h', toks := tk }) (hn : es.size ≤ sizeLine) :
    wpAny (model PG w) A.in1 (Builtin.List.listExtendWith (.ref S) (.ref r) res)
      (fun fin s' => match fin with | .done f => R (.ok f) s' | .again c' => c'.quiet = true ∧ codeAny (model PG w) A c' R s') (fun e s' => R (.error e) s') s := by
  have hSI : S < s.heap.objs.size := Heap.lt_size hS
  have hdI : d < s.heap.objs.size := Heap.lt_size hod
  have key : ∀ (h : Heap) (c₁ tk : Nat), (∀ b o, b ≠ S → (s.heap.push { cls := .type "dict_itemiterator", data := .fields #[.none, .bool false, .ref d, .int 0 0, .int es.size 0, .int ep 0, .none, .none] }).get? b = some o → h.get? b = some o) →
      h.get? S = some { cls := .type "list", data := .seq #[] c₁ } → codeAny (model PG w) A (.builtin "list.extend.loop" ⟨[.ref S, .ref s.heap.objs.size, res], []⟩) R { s with heap := h, toks := tk } := by
    intro h c₁ tk hk hS₁
    have hI := hk s.heap.objs.size _ (Nat.ne_of_gt hSI) (Heap.get?_push_size _ rfl)
    refine it_loop (s := s) (h₁ := s.heap) hh hdd hSI hSd (Nat.ne_of_lt hdI) hn res (fun h' tk' acc c as hk' hS' hl hG hacc => hR h' tk' acc c as (fun b o hb e => hk' b o hb (Nat.ne_of_lt (Heap.lt_size e)) e) hS' hl hG hacc)
      es.size 0 h tk c₁ #[] [] (Nat.sub_zero _) (Nat.zero_le _) (.inl ⟨rfl, .none, .none, hI⟩) (hk d _ hSd (Heap.get?_push_of_some _ hod)) (fun b o hb _ e => hk b o hb (Heap.get?_push_of_some _ e)) hS₁ rfl rfl
      ⟨List.Pairwise.nil, (fun _ ha => nomatch ha), (fun j a hj => by simp at hj)⟩ (Heap.lt_size hI)
  unfold Builtin.List.listExtendWith
  refine wpAny_bind (wpAny_typeOf (T := "dict_items") hv.typeIs ?_)
  have h1 : Builtin.List.listSameRef (.ref S) (.ref r) = false := by simp [Builtin.List.listSameRef, hSr]
  have h2 : (Value.type "dict_items" == Value.type "list") = false := by decide
  have h3 : (Value.type "dict_items" == Value.type "tuple") = false := by decide
  simp only [h1, h2, h3, Bool.or_false, Bool.false_eq_true, if_false]
  refine wpAny_bind (it_iter hv hod hdd ?_)
  have hS₁ := Heap.get?_push_of_some { cls := .type "dict_itemiterator", data := .fields #[.none, .bool false, .ref d, .int 0 0, .int es.size 0, .int ep 0, .none, .none] } hS
  refine wpAny_bind (wpAny_holding (kdx_hint (let ⟨o, ho, hc, _⟩ := hv; ⟨o, Heap.get?_push_of_some _ ho, hc⟩) ?_))
  refine wpAny_ite_split (fun _ => ?_) (fun _ => wpAny_pure ⟨plainId_quiet PySem.F.plain_extend_loop _, key _ c₀ _ (fun b o _ e => e) hS₁⟩)
  refine wpAny_bind (wpAny_rule ?_)
  refine wpAny_bind ?_
  show wpAny _ _ (updateSeq S (·.push .none) >>= fun _ => updateSeq S (·.pop)) _ _ _
  refine wpAny_bind (wpAny_updateSeq hS₁ rfl ?_)
  have hS₂ := Heap.get?_update_self (Obj.mapSeq (·.push Value.none)) hS₁ rfl
  refine wpAny_updateSeq (hz := by seq_fits) hS₂ rfl ?_
  have hS₃ := Heap.get?_update_self (Obj.mapSeq (·.pop)) hS₂ rfl
  refine wpAny_pure ⟨plainId_quiet PySem.F.plain_extend_loop _, key _ _ _ (fun b o hb e => ?_) hS₃⟩
  exact (Heap.get?_update_other _ _ (Ne.symm hb)).trans ((Heap.get?_update_other _ _ (Ne.symm hb)).trans e)
end
-- K7
section
open PySem.F
variable {w : World} {A : Around} {E : Value → Shared → Prop} {s : Shared} {es : Array DictEntry} {ep : Nat} {od : Obj} {r d : Addr}
theorem it_collect {R : List Value → Shared → Prop} (hh : A.handled = none) (hv : s.heap.IsItemsView r d) (hod : s.heap.get? d = some od) (hdd : od.data = .dict es ep) (hn : es.size ≤ sizeLine)
    (h : ∀ (h' : Heap) (tk : Nat) (as : List Addr), (∀ b o, s.heap.get? b = some o → h'.get? b = some o) → as.length = es.size → ItG es s.heap.objs.size h' as → R (as.map Value.ref) { s with heap := h', toks := tk }) :
    wpAny (model PG w) A (collect (.ref r)) R E s := by
  have hr : r < s.heap.objs.size := let ⟨_, ho, _⟩ := hv; Heap.lt_size ho
  have hd : d < s.heap.objs.size := Heap.lt_size hod
  unfold collect
  refine wpAny_bind (wpAny_runValue (codeAny_builtin entry_proto_collect' ?_))
  rw [Around.under_plainId PySem.F.plain_proto_collect _]
  show wpAny _ A.in1 (newList [] >>= fun l => again (.builtin "list.__iadd__" ⟨[l, .ref r], []⟩)) _ _ s
  refine wpAny_bind (wpAny_newObj_type ?_)
  refine wpAny_pure ⟨plainId_quiet PySem.F.plain_list_iadd _, codeAny_builtin entry_list_iadd' ?_⟩
  rw [Around.under_plainId PySem.F.plain_list_iadd _]
  have hS₁ : (s.heap.push { cls := .type "list", data := .seq ([] : List Value).toArray }).get? s.heap.objs.size = some { cls := .type "list", data := .seq #[] } := Heap.get?_push_size _ rfl
  show wpAny _ A.in1 (Builtin.List.listExtendWith (.ref s.heap.objs.size) (.ref r) (.ref s.heap.objs.size)) _ _ _
  have key := it_extend (w := w) (A := A) (s := { s with heap := s.heap.push { cls := .type "list", data := .seq ([] : List Value).toArray } })
    (R := fun (q : Result) (s' : Shared) => ∃ (h' : Heap) (tk : Nat) (acc' : Array Value) (c' : Nat) (as : List Addr), q = .ok (.ret (.ref s.heap.objs.size)) ∧ s' = { s with heap := h', toks := tk } ∧
      (∀ b o, s.heap.get? b = some o → h'.get? b = some o) ∧ h'.get? s.heap.objs.size = some { cls := .type "list", dict := none, data := .seq acc' c', slots := #[] } ∧ as.length = es.size ∧ ItG es s.heap.objs.size h' as ∧ acc'.toList = as.map Value.ref)
    hh (let ⟨o, ho, x⟩ := hv; ⟨o, Heap.get?_push_of_some _ ho, x⟩) (Heap.get?_push_of_some _ hod) hdd s.heap.objs.size (Nat.ne_of_gt hr) (Nat.ne_of_lt hd) (.ref s.heap.objs.size) 0 hS₁
    (fun h' tk acc' c' as hk hS' hl hG hacc => ⟨h', tk, acc', c', as, rfl, rfl, fun b o e => hk b o (Nat.ne_of_lt (Heap.lt_size e)) (Heap.get?_push_of_some _ e), hS', hl, ⟨hG.rise, fun a ha => Nat.lt_of_le_of_lt (by show s.heap.objs.size ≤ (s.heap.push _).objs.size; rw [Heap.size_push]; exact Nat.le_succ _) (hG.above a ha), hG.pairs⟩, hacc⟩) hn
  refine wpAny_mono key (fun fin s' x => ?_) fun e s' x => ?_
  · cases fin with
    | done f =>
      obtain ⟨h', tk, acc', c', as, e, rfl, hk, hS', hl, hG, hacc⟩ := x
      cases e
      show wpAny _ A (load s.heap.objs.size >>= _) _ _ _
      refine wpAny_bind (wpAny_load hS' ?_)
      refine wpAny_pure ?_
      show R acc'.toList _
      rw [hacc]
      exact h h' tk as hk hl hG
    | again c₁ =>
      refine ⟨x.1, codeAny_mono x.2 fun q s₂ y => ?_⟩
      obtain ⟨h', tk, acc', c', as, rfl, rfl, hk, hS', hl, hG, hacc⟩ := y
      show wpAny _ A (load s.heap.objs.size >>= _) _ _ _
      refine wpAny_bind (wpAny_load hS' ?_)
      refine wpAny_pure ?_
      show R acc'.toList _
      rw [hacc]
      exact h h' tk as hk hl hG
  · obtain ⟨_, _, _, _, _, e', _⟩ := x
    cases e'
end
/-- what sorted(d.items()) has made before it sorts: one tuple an entry -/
inductive TupsAt (es : Array DictEntry) (tups : Led) (as : List Addr) : Prop
  | mk (hl : as.length = es.size) (hp : ∀ (j : Nat) e, es[j]? = some e → ∃ a, as[j]? = some a ∧ (a, tupObj #[e.key, e.val] 0) ∈ tups) (hr : as.Pairwise (· < ·))
section
variable {w : World} {A : Around} {E : Value → Shared → Prop} {s : Shared} {h₀ : Heap} {L v d : Addr} {m : SMap} {news : Led} {o : Obj} {xs : KL} {Q : Value → Shared → Prop}
theorem ky_sorted (hh : A.handled = none) (F : Fr h₀ L s.heap m) (N : News h₀ L s.heap news) (hvw : (v, ({ cls := .type "dict_items", data := .fields #[.ref d] } : Obj)) ∈ news) (hp : (d, o) ∈ news) (hd : KyObj w o xs) (hn : xs.length ≤ 16777216)
    (h : ∀ es tups as (B : Addr) h' tk, es.toList = xs.map (kyEnt w) → TupsAt es tups as → Lt news tups → (∀ q ∈ tups ++ news, q.1 < B) → Fr h₀ L h' m → News h₀ L h' ((B, PySem.W.listOf (as.map Value.ref).toArray 0) :: (tups ++ news)) →
      wpAny (model PG w) A.in1 (call (.builtin "list.sort") [.ref B]) (fun _ s' => Q (.ref B) s') E { s with heap := h', toks := tk }) :
    wpAny (model PG w) A (call (.builtin "sorted") [.ref v]) Q E s := by
  obtain ⟨hc, es, ep, hdt, he, hnd⟩ := hd
  have hsz : es.size = xs.length := by rw [← Array.length_toList, he, List.length_map]
  have hn' : es.size ≤ sizeLine := by rw [hsz]; exact kdl_size hn
  refine PySem.Calls.call_function_entry kind_sorted plain_sorted entry_sorted (args_sorted1 _) ?_
  unfold Builtin.«sorted»
  refine wpAny_bind (m := checkCount "sorted" 1 1 _) (wpAny_pure ?_)
  refine wpAny_bind (it_collect (A := A.in1) hh ⟨_, (N _ hvw).1, rfl, rfl⟩ (N _ hp).1 hdt hn' fun h' tk as hk hl hG => ?_)
  refine wpAny_bind (wpAny_newList ?_ (by rw [List.length_map, hl]; exact hn'))
  have tupat : ∀ a ∈ as, ∃ e : DictEntry, h'.get? a = some { cls := .type "tuple", data := .seq #[e.key, e.val] } := fun a ha => by
    obtain ⟨j, hj⟩ := List.mem_iff_getElem?.mp ha
    obtain ⟨e, _, h2⟩ := hG.pairs j a hj
    exact ⟨e, h2⟩
  have hlt : ∀ q ∈ news, ∀ a ∈ as, @LT.lt Nat _ q.1 a := fun q hq a ha => Nat.lt_trans (Heap.lt_size (N q hq).1) (hG.above a ha)
  have Nt : News h₀ L h' ((as.map fun a => (a, (h'.get? a).getD o)) ++ news) := fun q hq => by
    rcases List.mem_append.mp hq with hq | hq
    · obtain ⟨a, ha, rfl⟩ := List.mem_map.mp hq
      obtain ⟨e, he'⟩ := tupat a ha
      exact ⟨by show h'.get? a = some ((h'.get? a).getD o); rw [he']; rfl, kdx_fresh F (Nat.le_of_lt (hG.above a ha))⟩
    · exact ⟨hk _ _ (N q hq).1, (N q hq).2⟩
  have hg := h es (as.map fun a => (a, (h'.get? a).getD o)) as h'.objs.size (h'.push { cls := .type "list", data := .seq (as.map Value.ref).toArray }) tk he ⟨hl, fun j e hj => ?_, hG.rise⟩ (fun q hq p hp' => ?_) (fun q hq => Heap.lt_size (Nt q hq).1) ((F.keeps hk).push _) (News.push (F.keeps hk) Nt _ rfl)
  · refine wpAny_bind (wpAny_holding (wpAny_mono hg (fun _ s' x => ?_) fun _ _ e => e))
    exact wpAny_pure ⟨_, rfl, x⟩
  · have hja : j < as.length := by rw [hl]; exact (Array.getElem?_eq_some_iff.mp hj).1
    obtain ⟨e', h1, h2⟩ := hG.pairs j as[j] (List.getElem?_eq_getElem hja)
    rw [hj] at h1
    obtain rfl := Option.some.inj h1
    refine ⟨as[j], List.getElem?_eq_getElem hja, List.mem_map.mpr ⟨as[j], List.getElem_mem hja, ?_⟩⟩
    rw [h2]; rfl
  · obtain ⟨a, ha, rfl⟩ := List.mem_map.mp hp'
    exact hlt q hq a ha
end
-- K8
theorem tup_lt_tree {w : World} {A : Around} {E : Value → Shared → Prop} {s : Shared} {a b : Addr} {x y : Str} {i j : Int} {t1 t2 t3 t4 n n' : Nat} {P : PySem.Fin → Shared → Prop} (hoa : s.heap.get? a = some (tupObj #[.str x t1, .int i t2] n)) (hob : s.heap.get? b = some (tupObj #[.str y t3, .int j t4] n'))
    (h : P (.done (.ret (.bool (if x = y then decide (i < j) else decide (x.cps.toList < y.cps.toList))))) s) : wpAny (model PG w) A (Builtin.«tuple.__lt__» ⟨[.ref a, .ref b], []⟩) P E s := by
  show wpAny _ _ (isInstance (.ref b) (.type "tuple") >>= _) _ _ s
  refine wpAny_bind (wpAny_isInstance (T := "tuple") (b := true) ⟨_, hob, rfl⟩ isSubtype_tuple_tuple ?_)
  simp only [Bool.not_true, Bool.false_eq_true, if_false]
  refine wpAny_bind (wpAny_tupleItemsOf hoa rfl ?_)
  refine wpAny_bind (wpAny_tupleItemsOf hob rfl ?_)
  refine wpAny_bind ?_
  simp only [List.zip_cons_cons, List.zip_nil_right, List.forIn_cons, List.forIn_nil]
  by_cases hxy : x = y
  · subst hxy
    rw [if_pos rfl] at h
    refine wpAny_bind (wpAny_bind (wpAny_eqBool_str ?_))
    simp only [beq_self_eq_true, Bool.not_true, Bool.false_eq_true, if_false]
    refine wpAny_pure (wpAny_bind (wpAny_bind (wpAny_eqBool_int ?_)))
    by_cases hij : i = j
    · subst hij
      simp only [beq_self_eq_true, decide_true, Bool.not_true, Bool.false_eq_true, if_false]
      rw [decide_eq_false (Int.lt_irrefl i)] at h
      exact wpAny_pure (wpAny_pure (wpAny_pure h))
    · simp only [beq_eq_false_iff_ne.mpr hij, decide_eq_false hij, Bool.not_false, if_true]
      refine wpAny_bind (wpAny_rule (wpAny_bind ?_))
      show wpAny _ _ (compareOp .Lt (.int i t2) (.int j t4)) _ _ _
      exact lt_int (wpAny_bind (wpAny_pure (wpAny_pure (wpAny_pure (wpAny_pure h)))))
  · rw [if_neg hxy] at h
    refine wpAny_bind (wpAny_bind (wpAny_eqBool_str ?_))
    simp only [beq_eq_false_iff_ne.mpr hxy, decide_eq_false hxy, Bool.not_false, if_true]
    refine wpAny_bind (wpAny_rule (wpAny_bind ?_))
    show wpAny _ _ (compareOp .Lt (.str x t1) (.str y t3)) _ _ _
    exact lt_str (wpAny_bind (wpAny_pure (wpAny_pure (wpAny_pure (wpAny_pure h)))))
theorem tup_lt {w : World} {A : Around} {E : Value → Shared → Prop} {s : Shared} {a b : Addr} {x y : Str} {i j : Int} {t1 t2 t3 t4 n n' : Nat} {Q : Value → Shared → Prop} (hu : A.units < cLine) (hoa : s.heap.get? a = some (tupObj #[.str x t1, .int i t2] n)) (hob : s.heap.get? b = some (tupObj #[.str y t3, .int j t4] n'))
    (h : Q (.bool (if x = y then decide (i < j) else decide (x.cps.toList < y.cps.toList))) s) : wpAny (model PG w) A (compareOp .Lt (.ref a) (.ref b)) Q E s := by
  have ha : s.TypeIs (.ref a) "tuple" := ⟨_, hoa, rfl⟩
  have hb : s.TypeIs (.ref b) "tuple" := ⟨_, hob, rfl⟩
  show wpAny _ _ (richCompare .Lt (.ref a) (.ref b)) _ _ _
  exact wpAny_richCompare_same_room (op := .Lt) ha hb PySem.F.slot_tuple_lt
    (wpAny_call_entry PySem.F.slot_tuple_lt ha PySem.F.entry_tuple_lt (tup_lt_tree hoa hob ⟨_, rfl, (fun e => nomatch e), h⟩) (PySem.F.args_tuple_lt_2 _ _)) hu
-- K9
theorem kyk_pair {w : World} {news : Led} {x : Str} {i : Int} {v : Value} (h : KyK w news (.inr [.inl x, .inr i]) v) : ∃ a t1 t2 n, v = .ref a ∧ (a, tupObj #[.str x t1, .int i t2] n) ∈ news := by
  obtain ⟨a, vs, n, rfl, hm, hi⟩ := h
  obtain ⟨l⟩ := vs
  cases hi with
  | @cons k1 v1 _ _ h1 h2 =>
    cases h2 with
    | @cons k2 v2 _ _ h3 h4 =>
      cases h4
      have h1 : siIs (.inl x) v1 = true := h1
      have h3 : siIs (.inr i) v2 = true := h3
      rcases siIs_shape h1 with ⟨y, t, e1, rfl⟩ | ⟨j, t, e1, rfl⟩ <;> rcases siIs_shape h3 with ⟨z, u, e2, rfl⟩ | ⟨j', u, e2, rfl⟩ <;> cases e1 <;> cases e2
      exact ⟨a, _, _, n, rfl, hm⟩
-- K10
/-- one question of the sort on pairs whose keys are (text, number) pairs that differ -/
theorem pair_lt {w : World} {A : Around} {E : Value → Shared → Prop} {s : Shared} {a b ka kb : Addr} {va vb : Value} {x y : Str} {i j : Int} {t1 t2 t3 t4 n n' : Nat} {Q : Bool → Shared → Prop} (hu : A.units < cLine) (ha : s.heap.get? a = some (tupObj #[.ref ka, va] 0)) (hb : s.heap.get? b = some (tupObj #[.ref kb, vb] 0))
    (hoa : s.heap.get? ka = some (tupObj #[.str x t1, .int i t2] n)) (hob : s.heap.get? kb = some (tupObj #[.str y t3, .int j t4] n'))
    (he : ∀ R : Bool → Shared → Prop, R false s → wpAny (model PG w) A (eqBool (.ref ka) (.ref kb)) R (fun _ _ => False) s)
    (h : Q (if x = y then decide (i < j) else decide (x.cps.toList < y.cps.toList)) s) : wpAny (model PG w) A (keyLt' (tuples' false) (.ref a) (.ref b)) Q E s := by
  refine kat_lt ha rfl hb rfl ?_
  refine kat_cons (he _ (kat_no ?_))
  exact kat_one _ _ (tup_lt hu hoa hob h)
theorem spair_lt {w : World} {A : Around} {E : Value → Shared → Prop} {s : Shared} {a b : Addr} {va vb : Value} {x y : Str} {t1 t3 : Tok} {Q : Bool → Shared → Prop} (ha : s.heap.get? a = some (tupObj #[.str x t1, va] 0)) (hb : s.heap.get? b = some (tupObj #[.str y t3, vb] 0)) (hne : x ≠ y)
    (h : Q (decide (x.cps.toList < y.cps.toList)) s) : wpAny (model PG w) A (keyLt' (tuples' true) (.ref a) (.ref b)) Q E s := by
  refine kat_lt ha rfl hb rfl ?_
  refine kat_cons (wpAny_eqBool_str ?_)
  rw [decide_eq_false hne]
  refine kat_no ?_
  exact oneLt_str h
-- K11
/-- list.sort of 2 to 11 tuples under a comparison that is known -/
theorem srt_go {w : World} {A : Around} {E : Value → Shared → Prop} {s : Shared} {h₀ : Heap} {L B : Addr} {m : Str → Option Value} {rest : Led} {vs fs : List Value} {n : Nat} {T : Value} {fl : Bool} {c : Nat → Nat → Bool} {Q : Value → Shared → Prop} (F : Fr h₀ L s.heap m) (N : News h₀ L s.heap ((B, PySem.W.listOf vs.toArray n) :: rest)) (hB : ∀ q ∈ rest, q.1 ≠ B) (h2 : 2 ≤ vs.length) (h12 : vs.length < 12)
    (ht : ∀ h', News h₀ L h' rest → KatTups h' vs fs) (hfs : 0 < fs.length) (hT : ∀ h', News h₀ L h' rest → ∀ v ∈ fs, Looks (model PG w) h' (typeOf v) T) (hT2 : (T == T) = true) (hfl : (T != Value.type "tuple") = fl)
    (hask : ∀ h', News h₀ L h' rest → ∀ i j, i < vs.length → j < vs.length → i ≠ j → ∀ C : Bool → Shared → Prop, C (c i j) { s with heap := h' } → wpAny (model PG w) A.in1 (keyLt' (tuples' fl) (vs.getD i Value.none) (vs.getD j Value.none)) C (fun _ _ => False) { s with heap := h' })
    (hc : kasOk vs.length (kas_sort vs.length) c = true)
    (h : ∀ h' k, Fr h₀ L h' m → News h₀ L h' ((B, PySem.W.listOf ((kasRun (kas_sort vs.length) c).toList.map fun i => vs.getD i Value.none).toArray k) :: rest) → Q .none { s with heap := h' }) :
    wpAny (model PG w) A (call (.builtin "list.sort") [.ref B]) Q E s := by
  refine kat_lsort F N (.head hB) rfl h2 (Nat.lt_of_lt_of_le h12 (by decide)) fun e1 h' F' N' => ?_
  have Nr : News h₀ L h' rest := fun p hp => N' p (.tail _ hp)
  refine kat_kind (s := { s with heap := h' }) (ht h' Nr) hfs (hT h' Nr) hT2 ?_
  rw [hfl]
  refine kas_go (N := vs.length) (I := fun s' => s' = { s with heap := h' }) (c := c) (fun i j hi hj hij C s' e hC => ?_) _ _ hc rfl fun s' e => ?_
  · cases e
    exact hask h' Nr i j hi hj hij C (hC _ rfl)
  · cases e
    exact KasFin.intro F' N' (.head hB) fun h'' k F'' N'' => h h'' k F'' N''
-- K12
theorem srt_tiny {w : World} {A : Around} {E : Value → Shared → Prop} {s : Shared} {h₀ : Heap} {L a : Addr} {m : Str → Option Value} {rest : Led} {vs : List Value} {n : Nat} {Q : Value → Shared → Prop} (F : Fr h₀ L s.heap m) (N : News h₀ L s.heap ((a, PySem.W.listOf vs.toArray n) :: rest)) (hB : ∀ q ∈ rest, q.1 ≠ a) (h2 : vs.length < 2)
    (h : ∀ h' k, Fr h₀ L h' m → News h₀ L h' ((a, PySem.W.listOf vs.toArray k) :: rest) → Q .none { s with heap := h' }) :
    wpAny (model PG w) A (call (.builtin "list.sort") [.ref a]) Q E s := by
  have nz := N _ (.head _)
  have ho : s.heap.get? a = some (seqObj "list" vs.toArray n) := nz.1
  have s1 := Heap.SameBut.update s.heap a (Obj.mapSeq fun _ => (#[] : Array Value))
  obtain ⟨e1, ho1⟩ : ∃ e1, (s.heap.update a (Obj.mapSeq fun _ => (#[] : Array Value))).get? a = some (seqObj "list" #[] e1) := ⟨_, get?_update_seq ho fun _ => #[]⟩
  have F3 : Fr h₀ L (((s.heap.update a (Obj.mapSeq fun _ => (#[] : Array Value))).push (seqObj "tuple" vs.toArray 0)).push (seqObj "list" #[] 0)) m := ((kas_fr F s1 nz.2.1 nz.2.2).push _).push _
  have N2 : News h₀ L (((s.heap.update a (Obj.mapSeq fun _ => (#[] : Array Value))).push (seqObj "tuple" vs.toArray 0)).push (seqObj "list" #[] 0)) rest :=
    (kas_news (fun q hq => N q (.tail _ hq)) s1 hB).grown fun b x e => Heap.get?_push_of_some _ (Heap.get?_push_of_some _ e)
  have N3 : News h₀ L (((s.heap.update a (Obj.mapSeq fun _ => (#[] : Array Value))).push (seqObj "tuple" vs.toArray 0)).push (seqObj "list" #[] 0)) ((a, seqObj "list" #[] e1) :: rest) := fun p hp => by
    rcases List.mem_cons.mp hp with rfl | hp
    · exact ⟨Heap.get?_push_of_some _ (Heap.get?_push_of_some _ ho1), nz.2.1, nz.2.2⟩
    · exact N2 p hp
  refine wpAny_call_entry slot_list_sort ⟨_, ho, rfl⟩ entry_list_sort ?_ (args_list_sort _)
  rw [list_sort_plain]
  refine wpAny_bind (listItems_at ho rfl ?_)
  refine wpAny_bind (listUpdate_at ho rfl ?_ (by rw [List.size_toArray, sizeLine_eq]; omega) (Nat.zero_le _))
  refine wpAny_bind (seqEpoch_at ho1 rfl ?_)
  refine wpAny_bind (wpAny_newTuple ?_ (by show vs.length ≤ _; rw [sizeLine_eq]; omega))
  refine wpAny_bind (wpAny_newList ?_ (Nat.zero_le _))
  refine wpAny_holding ?_
  have hn2 : vs.toArray.size < 2 := by rw [List.size_toArray]; omega
  rw [if_pos hn2, if_pos hn2]
  refine wpAny_bind (wpAny_pure (wpAny_bind (wpAny_pure ?_)))
  dsimp only
  have hout : (arrOf (SortSt.mk' general' (vs.toArray.zip vs.toArray) #[] 7 none)).map (·.2) = vs.toArray := by
    show (vs.toArray.zip vs.toArray).map (·.2) = vs.toArray
    apply Array.toList_inj.mp
    simp only [Array.toList_map, Array.toList_zip]
    exact List.map_snd_zip (Nat.le_refl _)
  have na := N3 _ (.head _)
  rw [hout]
  have s2 := Heap.SameBut.update (((s.heap.update a (Obj.mapSeq fun _ => (#[] : Array Value))).push (seqObj "tuple" vs.toArray 0)).push (seqObj "list" #[] 0)) a (Obj.mapSeq fun _ => vs.toArray)
  obtain ⟨c2, hc2⟩ : ∃ c2, ((((s.heap.update a (Obj.mapSeq fun _ => (#[] : Array Value))).push (seqObj "tuple" vs.toArray 0)).push (seqObj "list" #[] 0)).update a (Obj.mapSeq fun _ => vs.toArray)).get? a = some (seqObj "list" vs.toArray c2) := ⟨_, get?_update_seq na.1 fun _ => vs.toArray⟩
  refine wpAny_bind (seqEpoch_at na.1 rfl ?_)
  refine wpAny_bind (listUpdate_at na.1 rfl ?_ (Nat.zero_le _) (by rw [List.size_toArray, sizeLine_eq]; omega))
  simp only [bne_self_eq_false, Bool.false_eq_true, if_false]
  refine wpAny_pure ⟨_, rfl, h _ c2 (kas_fr F3 s2 na.2.1 na.2.2) ?_⟩
  exact news_set (pre := []) N3 (fun _ h => nomatch h) hB s2 hc2
-- K13
noncomputable def siData : SI → PyData
  | .inl x => .str x
  | .inr i => .int i
noncomputable def kyData : KY → PyData
  | .inl x => .str x
  | .inr ks => .tuple (ks.map siData)
noncomputable def intData : Value → PyData
  | .int i _ => .int i
  | _ => .none
noncomputable def entD (x : KY × Value × Value) : PyData := .tuple [kyData x.1, intData x.2.2]
noncomputable def srtD (ds : List PyData) : List PyData := if ds.length < 2 then ds else (kasRun (kas_sort ds.length) (keyLt ds.length)).toList.map fun i => ds.getD i .none
noncomputable def RdL (led : Led) (v : Value) (D : PyData) : Prop := ∀ h₀ L h, News h₀ L h led → ∃ as, Reads h v D as
noncomputable def RdLs (led : Led) (vs : List Value) (Ds : List PyData) : Prop := ∀ h₀ L h, News h₀ L h led → ∃ as, ReadsAll h vs Ds as
theorem RdL.mono {n n' : Led} (s : ∀ p ∈ n, p ∈ n') {v : Value} {D : PyData} (x : RdL n v D) : RdL n' v D := fun h₀ L h N => x h₀ L h (news_sub N s)
section
variable {led : Led} {v : Value} {D : PyData} {vs : List Value} {Ds : List PyData} {a : Addr} {its : Array Value} {n : Nat}
theorem rds_nil : RdLs led [] [] := fun _ _ _ _ => ⟨_, .nil⟩
theorem rds_cons (x : RdL led v D) (y : RdLs led vs Ds) : RdLs led (v :: vs) (D :: Ds) := fun h₀ L h N => let ⟨_, r⟩ := x h₀ L h N; let ⟨_, r'⟩ := y h₀ L h N; ⟨_, .cons r r'⟩
theorem rd_tup (hm : (a, tupObj its n) ∈ led) (x : RdLs led its.toList Ds) : RdL led (.ref a) (.tuple Ds) := fun h₀ L h N => let ⟨_, r⟩ := x h₀ L h N; ⟨_, .tuple (N _ hm).1 rfl rfl r⟩
theorem rd_list (hm : (a, PySem.W.listOf its n) ∈ led) (x : RdLs led its.toList Ds) : RdL led (.ref a) (.list Ds) := fun h₀ L h N => let ⟨_, r⟩ := x h₀ L h N; ⟨_, .list (N _ hm).1 rfl rfl r⟩
theorem rd_int {i : Int} {t : Tok} : RdL led (.int i t) (.int i) := fun _ _ _ _ => ⟨_, .int ..⟩
theorem rd_str {x : Str} {t : Tok} : RdL led (.str x t) (.str x) := fun _ _ _ _ => ⟨_, .str ..⟩
theorem rds_map {f : Nat → Value} {g : Nat → PyData} : ∀ {l : List Nat}, (∀ i ∈ l, RdL led (f i) (g i)) → RdLs led (l.map f) (l.map g)
  | [], _ => rds_nil
  | i :: r, h => rds_cons (h i (.head _)) (rds_map (l := r) fun j hj => h j (.tail _ hj))
theorem rd_si {k : SI} (h : siIs k v = true) : RdL led v (siData k) := by
  rcases siIs_shape h with ⟨x, t, rfl, rfl⟩ | ⟨i, t, rfl, rfl⟩
  · exact rd_str
  · exact rd_int
theorem rds_items {w : World} {ks : List SI} (h : ItemsAre (siKind PG w) ks vs) : RdLs led vs (ks.map siData) := by
  induction h with
  | nil => exact rds_nil
  | cons h _ ih => exact rds_cons (rd_si h) ih
theorem rd_ky {w : World} {k : KY} (h : KyK w led k v) : RdL led v (kyData k) := by
  cases k with
  | inl x => obtain ⟨t, rfl⟩ := h; exact rd_str
  | inr ks => obtain ⟨a, items, n, rfl, hm, hi⟩ := h; exact rd_tup hm (rds_items hi)
end
/-- the tuples of a sorted list of items, beside the entries -/
inductive ZipT (tups : Led) : List Addr → KL → Prop
  | nil : ZipT tups [] []
  | cons {a : Addr} {x : KY × Value × Value} {as : List Addr} {xs : KL} (h : (a, tupObj #[x.2.1, x.2.2] 0) ∈ tups) (t : ZipT tups as xs) : ZipT tups (a :: as) (x :: xs)
theorem zip_of {tups : Led} : ∀ {as : List Addr} {xs : KL}, as.length = xs.length → (∀ (j : Nat) x, xs[j]? = some x → ∃ a, as[j]? = some a ∧ (a, tupObj #[x.2.1, x.2.2] 0) ∈ tups) → ZipT tups as xs
  | [], [], _, _ => .nil
  | [], _ :: _, h, _ => nomatch h
  | _ :: _, [], h, _ => nomatch h
  | a :: as, x :: xs, h, k => by
    obtain ⟨b, hb, hm⟩ := k 0 x rfl
    obtain rfl := Option.some.inj hb
    exact .cons hm (zip_of (Nat.succ.inj h) fun j y hy => k (j + 1) y hy)
theorem zip_get {tups : Led} {as : List Addr} {xs : KL} (z : ZipT tups as xs) : ∀ {j : Nat}, j < xs.length → ∃ a x, as[j]? = some a ∧ xs[j]? = some x ∧ (a, tupObj #[x.2.1, x.2.2] 0) ∈ tups := by
  induction z with
  | nil => intro j h; exact absurd h (Nat.not_lt_zero _)
  | cons h _ ih =>
    intro j hj
    cases j with
    | zero => exact ⟨_, _, rfl, rfl, h⟩
    | succ j => exact ih (Nat.lt_of_succ_lt_succ hj)
theorem zip_tups {tups : Led} {h : Heap} (hN : ∀ p ∈ tups, h.get? p.1 = some p.2) {as : List Addr} {xs : KL} (z : ZipT tups as xs) : KatTups h (as.map Value.ref) (xs.map (·.2.1)) := by
  induction z with
  | nil => exact .nil
  | cons hm _ ih => exact .cons (hN _ hm) rfl rfl rfl ih
theorem zip_rds {w : World} {tups led : Led} (hs : ∀ p ∈ tups, p ∈ led) {as : List Addr} {xs : KL} (hk : KyKs w led xs) (hv : ∀ x ∈ xs, ∃ i t, x.2.2 = Value.int i t) (z : ZipT tups as xs) : RdLs led (as.map Value.ref) (xs.map entD) := by
  induction z with
  | nil => exact rds_nil
  | cons hm _ ih =>
    rename_i a x as xs _
    refine rds_cons (rd_tup (hs _ hm) (rds_cons (rd_ky (hk _ (.head _))) (rds_cons ?_ rds_nil))) (ih (fun y hy => hk y (.tail _ hy)) fun y hy => hv y (.tail _ hy))
    obtain ⟨i, t, e⟩ := hv x (.head _)
    rw [e]
    exact rd_int
theorem zip_rd {w : World} {tups led : Led} (hs : ∀ p ∈ tups, p ∈ led) {as : List Addr} {xs : KL} (hk : KyKs w led xs) (hv : ∀ x ∈ xs, ∃ i t, x.2.2 = Value.int i t) (z : ZipT tups as xs) {i : Nat} (hi : i < xs.length) : RdL led ((as.map Value.ref).getD i .none) ((xs.map entD).getD i .none) := by
  obtain ⟨a, x, h1, h2, hm⟩ := zip_get z hi
  have e1 : (as.map Value.ref).getD i .none = .ref a := by rw [List.getD_eq_getElem?_getD, List.getElem?_map, h1]; rfl
  have e2 : (xs.map entD).getD i .none = entD x := by rw [List.getD_eq_getElem?_getD, List.getElem?_map, h2]; rfl
  rw [e1, e2]
  have hx := List.mem_of_getElem? h2
  refine rd_tup (hs _ hm) (rds_cons (rd_ky (hk _ hx)) (rds_cons ?_ rds_nil))
  obtain ⟨i, t, e⟩ := hv x hx
  rw [e]
  exact rd_int
-- K14
noncomputable def kyKd (fl : Bool) : KY → Bool
  | .inl _ => fl
  | .inr [.inl _, .inr _] => !fl
  | _ => false
noncomputable def kyLt : KY → KY → Bool
  | .inl x, .inl y => decide (x.cps.toList < y.cps.toList)
  | .inr [.inl x, .inr i], .inr [.inl y, .inr j] => if x = y then decide (i < j) else decide (x.cps.toList < y.cps.toList)
  | _, _ => false
theorem kyKd_shape {fl : Bool} {k : KY} (h : kyKd fl k = true) : (fl = true ∧ ∃ x, k = .inl x) ∨ (fl = false ∧ ∃ x i, k = .inr [.inl x, .inr i]) := by
  rcases k with x | ks
  · exact .inl ⟨h, x, rfl⟩
  · rcases ks with _ | ⟨a | a, _ | ⟨b | b, _ | ⟨c, r⟩⟩⟩
    all_goals first
      | exact nomatch (show false = true from h)
      | (refine .inr ⟨?_, _, _, rfl⟩; cases fl <;> first | rfl | exact nomatch (show false = true from h))
section
variable {w : World} {A : Around} {E : Value → Shared → Prop} {s : Shared} {h₀ h : Heap} {L d v : Addr} {m : SMap} {led news : Led} {o : Obj} {xs : KL}
theorem ky_ask {fl : Bool} {a b : Addr} {x y : KY × Value × Value} {Q : Bool → Shared → Prop} (hu : A.units < cLine) (N : News h₀ L s.heap led) (ha : (a, tupObj #[x.2.1, x.2.2] 0) ∈ led) (hb : (b, tupObj #[y.2.1, y.2.2] 0) ∈ led) (hx : KyK w led x.1 x.2.1) (hy : KyK w led y.1 y.2.1) (k1 : kyKd fl x.1 = true) (k2 : kyKd fl y.1 = true) (hne : x.1 ≠ y.1)
    (h : Q (kyLt x.1 y.1) s) : wpAny (model PG w) A (keyLt' (tuples' fl) (.ref a) (.ref b)) Q E s := by
  obtain ⟨k, kv, vv⟩ := x
  obtain ⟨k', kv', vv'⟩ := y
  dsimp only at ha hb hx hy k1 k2 hne h
  have ix := kyIs_of N hx
  have iy := kyIs_of N hy
  rcases kyKd_shape k1 with ⟨rfl, x, rfl⟩ | ⟨rfl, x, i, rfl⟩ <;> rcases kyKd_shape k2 with ⟨e, y, rfl⟩ | ⟨e, y, j, rfl⟩
  · obtain ⟨t, rfl⟩ := hx
    obtain ⟨t', rfl⟩ := hy
    exact spair_lt (N _ ha).1 (N _ hb).1 (fun e => hne (by rw [e])) h
  · cases e
  · cases e
  · obtain ⟨ka, t1, t2, n, rfl, hm⟩ := kyk_pair hx
    obtain ⟨kb, t3, t4, n', rfl, hm'⟩ := kyk_pair hy
    refine pair_lt hu (N _ ha).1 (N _ hb).1 (N _ hm).1 (N _ hm').1 (fun R hR => eqBool_ky hu ix iy ?_) h
    rw [decide_eq_false hne]
    exact hR
theorem ky_fst {fl : Bool} {x : KY × Value × Value} (N : News h₀ L h led) (hx : KyK w led x.1 x.2.1) (k1 : kyKd fl x.1 = true) : Looks (model PG w) h (typeOf x.2.1) (if fl = true then .type "str" else .type "tuple") := by
  obtain ⟨k, kv, vv⟩ := x
  dsimp only at hx k1 ⊢
  rcases kyKd_shape k1 with ⟨rfl, x, rfl⟩ | ⟨rfl, x, i, rfl⟩
  · obtain ⟨t, rfl⟩ := hx
    exact Looks.of_pure rfl
  · obtain ⟨ka, t1, t2, n, rfl, hm⟩ := kyk_pair hx
    exact (Looks.ld (N _ hm).1).andThen .now
theorem ky_srt {fl : Bool} {Q : Value → Shared → Prop} (hu : A.in1.in1.units < cLine) (hh : A.handled = none) (F : Fr h₀ L s.heap m) (N : News h₀ L s.heap news) (hvw : (v, ({ cls := .type "dict_items", data := .fields #[.ref d] } : Obj)) ∈ news) (hp : (d, o) ∈ news) (hd : KyObj w o xs) (hks : KyKs w news xs) (hn : xs.length < 12)
    (hv : ∀ x ∈ xs, ∃ i t, x.2.2 = Value.int i t) (hkd : ∀ x ∈ xs, kyKd fl x.1 = true) (hc : ∀ i j x y, xs[i]? = some x → xs[j]? = some y → i ≠ j → kyLt x.1 y.1 = keyLt xs.length i j)
    (h : ∀ B tl h' tk, Fr h₀ L h' m → News h₀ L h' (tl ++ news) → Lt news tl → RdL (tl ++ news) (.ref B) (.list (srtD (xs.map entD))) → Q (.ref B) { s with heap := h', toks := tk }) :
    wpAny (model PG w) A (call (.builtin "sorted") [.ref v]) Q E s := by
  have hnd := hd.2
  obtain ⟨_, _, _, _, hnd⟩ := hnd
  refine ky_sorted hh F N hvw hp hd (Nat.le_trans (Nat.le_of_lt hn) (by decide)) fun es tups as B h' tk hes htu hlt hB F' N' => ?_
  obtain ⟨hal, hpr, hrise⟩ := htu
  have hsz : es.size = xs.length := by rw [← Array.length_toList, hes, List.length_map]
  have z : ZipT tups as xs := zip_of (hal.trans hsz) fun j x hx => by
    have : es[j]? = some (kyEnt w x) := by rw [← Array.getElem?_toList, hes, List.getElem?_map, hx]; rfl
    exact hpr j _ this
  have hvl : (as.map Value.ref).length = xs.length := by rw [List.length_map, hal, hsz]
  have hsub : ∀ p ∈ tups, p ∈ tups ++ news := fun p hp => List.mem_append_left _ hp
  have hks' : KyKs w (tups ++ news) xs := hks.mono fun p hp => List.mem_append_right _ hp
  have hBn : ∀ q ∈ tups ++ news, q.1 ≠ B := fun q hq => Nat.ne_of_lt (hB q hq)
  have fin : ∀ (k : Nat) (out : List Value) h'' (tk' : Nat), Fr h₀ L h'' m → News h₀ L h'' ((B, PySem.W.listOf out.toArray k) :: (tups ++ news)) → RdLs (tups ++ news) out (srtD (xs.map entD)) → Q (.ref B) { s with heap := h'', toks := tk' } := fun k out h'' tk' F'' N'' r => by
    refine h B ((B, PySem.W.listOf out.toArray k) :: tups) h'' tk' F'' N'' (lt_cons (fun q hq => hB q (List.mem_append_right _ hq)) hlt) (rd_list (.head _) ?_)
    exact fun a b c d => r a b c (news_sub d fun p hp => .tail _ hp)
  rcases Nat.lt_or_ge xs.length 2 with h2 | h2
  · refine srt_tiny (s := { s with heap := h', toks := tk }) F' N' hBn (by rw [hvl]; exact h2) fun h'' k F'' N'' => fin k _ h'' tk F'' N'' ?_
    have e : srtD (xs.map entD) = xs.map entD := by unfold srtD; rw [if_pos (by rw [List.length_map]; exact h2)]
    rw [e]
    exact zip_rds hsub hks' hv z
  · have hN : ∀ h'', News h₀ L h'' (tups ++ news) → ∀ p ∈ tups, h''.get? p.1 = some p.2 := fun h'' N'' p hp => (N'' p (hsub p hp)).1
    refine srt_go (s := { s with heap := h', toks := tk }) (fs := xs.map (·.2.1)) (T := if fl = true then .type "str" else .type "tuple") (fl := fl) (c := keyLt xs.length) F' N' hBn (by rw [hvl]; exact h2) (by rw [hvl]; exact hn) (fun h'' N'' => zip_tups (hN h'' N'') z) (by rw [List.length_map]; omega) (fun h'' N'' u hu' => ?_) (by cases fl <;> rfl) (by cases fl <;> rfl) (fun h'' N'' i j hi hj hij C hC => ?_) (by rw [hvl]; exact kas_ok ⟨xs.length, hn⟩ h2) fun h'' k F'' N'' => fin k _ h'' tk F'' N'' ?_
    · obtain ⟨x, hx, rfl⟩ := List.mem_map.mp hu'
      exact ky_fst N'' (hks' x hx) (hkd x hx)
    · rw [hvl] at hi hj
      obtain ⟨a, x, a1, a2, a3⟩ := zip_get z hi
      obtain ⟨b, y, b1, b2, b3⟩ := zip_get z hj
      have e1 : (as.map Value.ref).getD i .none = .ref a := by rw [List.getD_eq_getElem?_getD, List.getElem?_map, a1]; rfl
      have e2 : (as.map Value.ref).getD j .none = .ref b := by rw [List.getD_eq_getElem?_getD, List.getElem?_map, b1]; rfl
      rw [e1, e2]
      refine ky_ask (s := { s with heap := h'', toks := tk }) hu N'' (hsub _ a3) (hsub _ b3) (hks' x (List.mem_of_getElem? a2)) (hks' y (List.mem_of_getElem? b2)) (hkd x (List.mem_of_getElem? a2)) (hkd y (List.mem_of_getElem? b2)) (fun e => hij ?_) ?_
      · have h1 : (xs.map (·.1))[i]? = some x.1 := by rw [List.getElem?_map, a2]; rfl
        have h2' : (xs.map (·.1))[j]? = some x.1 := by rw [List.getElem?_map, b2, e]; rfl
        exact (List.getElem?_inj (List.getElem?_eq_some_iff.mp h1).1 hnd).mp (h1.trans h2'.symm)
      · rw [hc i j x y a2 b2 hij]
        exact hC
    · have e : srtD (xs.map entD) = (kasRun (kas_sort xs.length) (keyLt xs.length)).toList.map fun i => (xs.map entD).getD i .none := by unfold srtD; rw [if_neg (by rw [List.length_map]; omega), List.length_map]
      rw [e, hvl]
      refine rds_map fun i hi => zip_rd hsub hks' hv z ?_
      have := List.all_eq_true.mp (kas_in ⟨xs.length, hn⟩ h2) i hi
      exact of_decide_eq_true this
end
-- K15
noncomputable def viewObj (d : Addr) : Obj := { cls := .type "dict_items", data := .fields #[.ref d] }
inductive SrtAt (w : World) (led : Led) (d : Addr) (ds : List PyData) : Prop
  | mk (o : Obj) (xs : KL) (fl : Bool) (hm : (d, o) ∈ led) (lo : (d == sysModules) = false) (hd : KyObj w o xs) (hks : KyKs w led xs) (hn : xs.length < 12) (hv : ∀ x ∈ xs, ∃ i t, x.2.2 = Value.int i t) (hkd : ∀ x ∈ xs, kyKd fl x.1 = true) (hc : ∀ i j x y, xs[i]? = some x → xs[j]? = some y → i ≠ j → kyLt x.1 y.1 = keyLt xs.length i j) (he : xs.map entD = ds)
theorem SrtAt.mono {w : World} {n n' : Led} (s : ∀ p ∈ n, p ∈ n') {d : Addr} {ds : List PyData} (h : SrtAt w n d ds) : SrtAt w n' d ds := by
  obtain ⟨o, xs, fl, hm, lo, hd, hks, hn, hv, hkd, hc, he⟩ := h
  exact ⟨o, xs, fl, s _ hm, lo, hd, hks.mono s, hn, hv, hkd, hc, he⟩
section
variable {w : World} {A : Around} {E : Value → Shared → Prop} {s : Shared} {h₀ : Heap} {L d v : Addr} {m : SMap} {led : Led} {ds : List PyData}
theorem srt_method {pl : Sem Bool} {Q : Value × List Value → Shared → Prop} (N : News h₀ L s.heap led) (S : SrtAt w led d ds) (h : Q (.builtin "dict.items", [.ref d]) s) : wpAny (model PG w) A (getMethod (.ref d) (Str.ofString "items") pl) Q E s := by
  obtain ⟨o, xs, fl, hm, lo, hd, hks, hn, hv, hkd, hc, he⟩ := S
  exact ky_method PySem.F.slot_dict_items PySem.F.type_dict_items N hm hd h
theorem srt_view {Q : Value → Shared → Prop} (F : Fr h₀ L s.heap m) (N : News h₀ L s.heap led) (S : SrtAt w led d ds) (h : ∀ (D : Addr) h', Fr h₀ L h' m → News h₀ L h' ((D, viewObj d) :: led) → (∀ q ∈ led, q.1 < D) → Q (.ref D) { s with heap := h' }) : wpAny (model PG w) A (call (.builtin "dict.items") [.ref d]) Q E s := by
  obtain ⟨o, xs, fl, hm, lo, hd, hks, hn, hv, hkd, hc, he⟩ := S
  exact ky_view F N hm hd lo h
theorem srt_sorted {Q : Value → Shared → Prop} (hu : A.in1.in1.units < cLine) (hh : A.handled = none) (F : Fr h₀ L s.heap m) (N : News h₀ L s.heap led) (hvw : (v, viewObj d) ∈ led) (S : SrtAt w led d ds)
    (h : ∀ B tl h' tk, Fr h₀ L h' m → News h₀ L h' (tl ++ led) → Lt led tl → RdL (tl ++ led) (.ref B) (.list (srtD ds)) → Q (.ref B) { s with heap := h', toks := tk }) : wpAny (model PG w) A (call (.builtin "sorted") [.ref v]) Q E s := by
  obtain ⟨o, xs, fl, hm, lo, hd, hks, hn, hv, hkd, hc, rfl⟩ := S
  exact ky_srt (fl := fl) hu hh F N hvw hm hd hks hn hv hkd hc h
end
theorem ky_of_str {w : World} {o : Obj} {kvs : List (Str × Value)} (h : Obj.IsDictOf (PySem.strKind PG w) o kvs) : ∃ xs : KL, KyObj w o xs ∧ (∀ led, KyKs w led xs) ∧ xs.map (fun x => (x.1, x.2.2)) = kvs.map (fun kv => ((.inl kv.1 : KY), kv.2)) := by
  obtain ⟨es, ep, h1, h2, h3, h4, h5⟩ := h
  have key : ∀ (l : List DictEntry) (kvs : List (Str × Value)), Pairs (PySem.strKind PG w) l kvs → (∀ e ∈ l, ∃ k, Value.isStrOf k e.key = true ∧ e.hash = hashStr w k) → ∃ xs : KL, l = xs.map (kyEnt w) ∧ (∀ led, KyKs w led xs) ∧ xs.map (fun x => (x.1, x.2.2)) = kvs.map (fun kv => ((.inl kv.1 : KY), kv.2)) := by
    intro l kvs hp
    induction hp with
    | nil => exact fun _ => ⟨[], rfl, fun _ => List.forall_mem_nil _, rfl⟩
    | cons hk hv _ ih =>
      rename_i e kv es' kvs' _
      intro hh
      obtain ⟨xs, a1, a2, a3⟩ := ih fun e he => hh e (.tail _ he)
      obtain ⟨k, b1, b2⟩ := hh e (.head _)
      have hk : Value.isStrOf kv.1 e.key = true := hk
      obtain rfl : k = kv.1 := Value.isStrOf_inj _ _ _ b1 hk
      obtain ⟨t, et⟩ := Value.isStrOf_shape hk
      refine ⟨(.inl kv.1, e.key, e.val) :: xs, ?_, fun led => List.forall_mem_cons.mpr ⟨⟨t, et⟩, a2 led⟩, ?_⟩
      · rw [List.map_cons, ← a1]
        obtain ⟨eh, ek, ev⟩ := e
        dsimp only at b2
        subst b2
        rfl
      · rw [List.map_cons, List.map_cons, a3, hv]
  obtain ⟨xs, a1, a2, a3⟩ := key es.toList kvs h4 fun e he => h3 e (Array.mem_toList_iff.mp he)
  refine ⟨xs, ⟨h1, es, ep, h2, a1, ?_⟩, a2, a3⟩
  have e1 : xs.map (·.1) = (xs.map (fun x => (x.1, x.2.2))).map (·.1) := by rw [List.map_map]; rfl
  rw [e1, a3, List.map_map]
  have e2 : kvs.map ((fun x : KY × Value => x.1) ∘ fun kv => ((.inl kv.1 : KY), kv.2)) = (kvs.map (·.1)).map (Sum.inl : Str → KY) := by rw [List.map_map]; rfl
  rw [e2]
  exact List.Pairwise.map _ (fun a b hab e => hab (Sum.inl.inj e)) h5
noncomputable def offD (x : Str × Nat × Int) : PyData := .tuple [.tuple [.str x.1, .int x.2.1], .int x.2.2]
theorem offR_ent {xs : KL} {sp : List (Str × Nat × Int)} (h : OffR xs sp) : xs.map entD = sp.map offD := by
  induction h with
  | nil => rfl
  | snoc _ ih => rw [List.map_append, List.map_append, ih]; rfl
theorem offR_val {xs : KL} {sp : List (Str × Nat × Int)} (h : OffR xs sp) : ∀ x ∈ xs, ∃ i t, x.2.2 = Value.int i t := by
  induction h with
  | nil => exact List.forall_mem_nil _
  | snoc _ ih => exact fun x hx => (List.mem_append.mp hx).elim (ih x) fun hx => by rw [List.mem_singleton.mp hx]; exact ⟨_, _, rfl⟩
theorem offR_kd {xs : KL} {sp : List (Str × Nat × Int)} (h : OffR xs sp) : ∀ x ∈ xs, kyKd false x.1 = true := by
  induction h with
  | nil => exact List.forall_mem_nil _
  | snoc _ ih => exact fun x hx => (List.mem_append.mp hx).elim (ih x) fun hx => by rw [List.mem_singleton.mp hx]; rfl
theorem offR_get {xs : KL} {sp : List (Str × Nat × Int)} (h : OffR xs sp) : ∀ {j : Nat} {x : KY × Value × Value}, xs[j]? = some x → ∃ y, sp[j]? = some y ∧ x.1 = .inr [.inl y.1, .inr (y.2.1 : Int)] := by
  induction h with
  | nil => intro j x h; cases h
  | snoc h ih =>
    rename_i xs sp nm i v kv t
    intro j x hx
    have hl := offR_len h
    rcases Nat.lt_or_ge j xs.length with hj | hj
    · rw [List.getElem?_append_left hj] at hx
      rw [List.getElem?_append_left (hl ▸ hj)]
      exact ih hx
    · have hlt := (List.getElem?_eq_some_iff.mp hx).1
      rw [List.length_append] at hlt
      have one : ∀ {α : Type} (a : α), [a].length = 1 := fun _ => rfl
      rw [one] at hlt
      obtain rfl : j = xs.length := by omega
      rw [List.getElem?_append_right (Nat.le_refl _), Nat.sub_self] at hx
      obtain rfl := Option.some.inj hx
      rw [hl, List.getElem?_append_right (Nat.le_refl _), Nat.sub_self]
      exact ⟨_, rfl, rfl⟩
theorem specO_get {rows : List Row} {W : Int} {j : Nat} {y : Str × Nat × Int} (h : (specO rows W)[j]? = some y) : (j < rows.length ∧ y.1 = Str.ofString ".text" ∧ y.2.1 = j) ∨ (j = rows.length ∧ y.1 = Str.ofString ".data") := by
  unfold specO specT at h
  rcases Nat.lt_or_ge j rows.length with hj | hj
  · rw [List.getElem?_append_left (by simpa using hj), List.getElem?_map, List.getElem?_range hj] at h
    obtain rfl := Option.some.inj h
    exact .inl ⟨hj, rfl, rfl⟩
  · have hlt := (List.getElem?_eq_some_iff.mp h).1
    simp only [List.length_append, List.length_map, List.length_range, List.length_cons, List.length_nil] at hlt
    obtain rfl : j = rows.length := by omega
    rw [List.getElem?_append_right (by simp)] at h
    simp only [List.length_map, List.length_range, Nat.sub_self, List.getElem?_cons_zero, Option.some.injEq] at h
    subst h
    exact .inr ⟨rfl, rfl⟩
theorem specO_len {rows : List Row} {W : Int} : (specO rows W).length = rows.length + 1 := by simp [specO, specT]
theorem str_lt1 : decide ((Str.ofString ".data").cps.toList < (Str.ofString ".text").cps.toList) = true := by decide +kernel
theorem str_lt2 : decide ((Str.ofString ".text").cps.toList < (Str.ofString ".data").cps.toList) = false := by decide +kernel
theorem td_ne : (Str.ofString ".text" : Str) ≠ Str.ofString ".data" := by decide +kernel
section
variable {w : World} {led : Led} {q : LA} {rows : List Row} {lb : Option Nat} {W : Int}
theorem srt_offs (hq : LayAt w led q rows lb W) (hlen : rows.length ≤ 10) : SrtAt w led q.dO ((specO rows W).map offD) := by
  obtain ⟨xs, k1, k2, k3⟩ := hq.kO
  have hl : xs.length = rows.length + 1 := (offR_len k3).trans specO_len
  refine ⟨q.oO, xs, false, hq.hO, hq.lO, k1, k2, (by rw [hl]; exact Nat.succ_le_succ (Nat.succ_le_succ hlen)), offR_val k3, offR_kd k3, fun i j x y hx hy hij => ?_, offR_ent k3⟩
  obtain ⟨a, ha, ea⟩ := offR_get k3 hx
  obtain ⟨b, hb, eb⟩ := offR_get k3 hy
  rw [ea, eb, hl]
  unfold kyLt keyLt
  dsimp only
  rcases specO_get ha with ⟨h1, h2, h3⟩ | ⟨h1, h2⟩ <;> rcases specO_get hb with ⟨g1, g2, g3⟩ | ⟨g1, g2⟩
  · rw [if_pos (h2.trans g2.symm), if_neg (by first | exact fun e => absurd (Nat.succ.inj e) (Nat.ne_of_lt h1) | exact fun e => absurd (Nat.succ.inj e) (Nat.ne_of_lt g1) | omega), if_neg (by first | exact fun e => absurd (Nat.succ.inj e) (Nat.ne_of_lt h1) | exact fun e => absurd (Nat.succ.inj e) (Nat.ne_of_lt g1) | omega), h3, g3]
    exact decide_eq_decide.mpr Int.ofNat_lt
  · rw [h2, g2, if_neg td_ne, if_neg (by first | exact fun e => absurd (Nat.succ.inj e) (Nat.ne_of_lt h1) | exact fun e => absurd (Nat.succ.inj e) (Nat.ne_of_lt g1) | omega), if_pos (by first | exact congrArg Nat.succ h1 | exact congrArg Nat.succ g1 | omega), str_lt2]
  · rw [h2, g2, if_neg (fun e => td_ne e.symm), if_pos (by first | exact congrArg Nat.succ h1 | exact congrArg Nat.succ g1 | omega), str_lt1]
    exact (decide_eq_true (by first | exact g1 ▸ h1 | exact h1 ▸ g1 | omega)).symm
  · exact absurd (h1.trans g1.symm) (by first | assumption | exact hij | exact Nat.ne_of_lt hij | omega)
theorem srt_wids (hq : LayAt w led q rows lb W) : SrtAt w led q.dW ((specW lb W).map offD) := by
  obtain ⟨xs, k1, k2, k3⟩ := hq.kW
  have hl : xs.length ≤ 1 := by rw [offR_len k3]; cases lb <;> simp [specW]
  refine ⟨q.oW, xs, false, hq.hW, hq.lW, k1, k2, by omega, offR_val k3, offR_kd k3, fun i j x y hx hy hij => ?_, offR_ent k3⟩
  have := (List.getElem?_eq_some_iff.mp hx).1
  have := (List.getElem?_eq_some_iff.mp hy).1
  omega
theorem srt_lens (hq : LayAt w led q rows lb W) : SrtAt w led q.dL [.tuple [.str (Str.ofString ".text"), .int (posn rows W rows.length)], .tuple [.str (Str.ofString ".data"), .int 2]] := by
  obtain ⟨t1, t2, k⟩ := hq.kL
  obtain ⟨xs, k1, k2, k3⟩ := ky_of_str k
  match xs, k3, k1, k2 with
  | [], k3, _, _ => simp at k3
  | [_], k3, _, _ => simp at k3
  | _ :: _ :: _ :: _, k3, _, _ => simp at k3
  | [⟨a1, a2, a3⟩, ⟨b1, b2, b3⟩], k3, k1, k2 =>
    simp only [List.map_cons, List.map_nil, List.cons.injEq, Prod.mk.injEq, and_true] at k3
    obtain ⟨⟨rfl, rfl⟩, rfl, rfl⟩ := k3
    refine ⟨q.oL, _, true, hq.hL, hq.lL, k1, k2 led, (show 2 < 12 from by decide), ?_, ?_, fun i j x y hx hy hij => ?_, rfl⟩
    · intro x hx
      rcases List.mem_cons.mp hx with rfl | hx
      · exact ⟨_, _, rfl⟩
      · rw [List.mem_singleton.mp hx]; exact ⟨_, _, rfl⟩
    · intro x hx
      rcases List.mem_cons.mp hx with rfl | hx
      · rfl
      · rw [List.mem_singleton.mp hx]; rfl
    · match i, j, hx, hy, hij with
      | 0, 0, _, _, h => exact absurd rfl h
      | 1, 1, _, _, h => exact absurd rfl h
      | 0, 1, hx, hy, _ =>
        obtain rfl := Option.some.inj hx
        obtain rfl := Option.some.inj hy
        exact str_lt2
      | 1, 0, hx, hy, _ =>
        obtain rfl := Option.some.inj hx
        obtain rfl := Option.some.inj hy
        exact str_lt1
end
noncomputable def toldD (rows : List Row) (lb : Option Nat) (W : Int) : PyData := .tuple [.list (srtD ((specO rows W).map offD)), .list (srtD ((specW lb W).map offD)), .list (srtD [.tuple [.str (Str.ofString ".text"), .int (posn rows W rows.length)], .tuple [.str (Str.ofString ".data"), .int 2]])]
theorem words54 : True := by
  k_with "srtm" => (first | assumption | (refine SrtAt.mono ?_ (by assumption); show Sub _ _; k_extra "subz"))
  k_with "getMethod ref!" => ((k_here; k_dflt (refine srt_method (by k_asm) (by k_extra "srtm") ?_)))
  k_with "call builtin:dict.items!" => ((k_here; k_dflt (refine srt_view (by k_asm) (by k_asm) (by k_extra "srtm") ?_; intro Dzq hzq Fzq Nzq l1zq)))
  k_with "call builtin:sorted!" => ((k_here; k_dflt (refine srt_sorted (by k_extra "ct_room") (by first | assumption | rfl) (by k_asm) (by k_asm) (by k_mem) (by k_extra "srtm") ?_; intro Bzq tlzq hzq tkzq Fzq Nzq l1zq hrzq)))
  trivial
noncomputable def ToldP (news : Led) (D : PyData) : Led → Value → Prop := fun tl r => RdL (tl ++ news) r D
theorem told_ct {w : World} {news : Led} {q : LA} {rows : List Row} {lb : Option Nat} {W : Int} (hq : LayAt w news q rows lb W) (hlen : rows.length ≤ 10) :
    Ct w 4 80 222 [.ref q.y] news (ToldP news (toldD rows lb W)) False := by
  obtain ⟨_, _, _, hd⟩ := hq.hd
  have h1 := hq.hy
  have h2 := srt_offs hq hlen
  have h3 := srt_wids hq
  have h4 := srt_lens hq
  refine ct_open1 (by k_is) (by k_is) (by kernel_rfl) rfl rfl rfl ?_; k_extra "ct_in"
  k_steps
  refine' hr _ _ _ _ _ (by assumption) (ret_spl (by assumption) (by k_extra "k_spl")) (by k_extra "ltz") ?_
  refine rd_tup (List.mem_append_left _ (.head _)) (rds_cons (RdL.mono ?_ (by assumption)) (rds_cons (RdL.mono ?_ (by assumption)) (rds_cons (RdL.mono ?_ (by assumption)) rds_nil)))
  all_goals (show Sub _ _; k_extra "subz")
-- K16
section
open PySem.F
theorem dl_entry : entryFor table "dict.update.loop" = some Builtin.«dict.update.loop» := entryFor_of_tree (by kernel_rfl)
theorem dl_plain : plainId "dict.update.loop" = true := by decide +kernel
theorem dl_keys_miss : typeLookup (.type "list") "keys" = pure none := am_miss_of_fast (by decide +kernel)
variable {w : World} {A : Around} {E : Value → Shared → Prop} {s : Shared}
theorem keys_miss {l : Addr} {its : Array Value} {k : Nat} {Q : Option Value → Shared → Prop} (hx : s.heap.get? l = some (PySem.W.listOf its k)) (hA : A.handled = none)
    (h : ∀ h' tk, (∀ b o, s.heap.get? b = some o → h'.get? b = some o) → Q none { s with heap := h', toks := tk }) : wpAny (model PG w) A (getAttr? (.ref l) "keys") Q E s := by
  obtain ⟨hp, g, d, tk, os⟩ := s
  have hT : ∀ tk', (⟨hp, g, d, tk', os⟩ : Shared).TypeIs (.ref l) "list" := fun _ => ⟨_, hx, rfl⟩
  have f1 := sub_AttributeError
  have f3 := F.slot_list_getattribute.lookup
  have f4 := F.slot_list_getattribute.bind (.ref l)
  have f5 := am_list_getattr_none
  unfold getAttr? getAttrBy? getAttrBy
  repeat (any_goals (first | assumption | exact hT _ | ((with_reducible show wpAny _ _ (call (Value.builtin "list.__getattribute__") _ _) _ _ _); refine call_meets F.slot_list_getattribute (hT _) am_entry_list_getattribute (F.args_list_getattribute_2 _ _) (meets_getattribute_miss_list l its k #[] "keys" _ dl_keys_miss (by decide +kernel) (by decide)) ⟨hx, hA, fun h' tk' e hx' => ?_⟩) | wp_step))
  obtain ⟨t', u', he⟩ := hx'.there
  show wpAny _ _ (getattributeRaised _ _ _ _ _ _ _) _ _ _
  unfold getattributeRaised
  repeat (any_goals (first | assumption | wp_step))
  exact h _ _ hx'.keeps
variable {h₀ : Heap} {L : Addr} {m : SMap} {led : Led} {xs : KL}
theorem dl_nodup {xs : KL} (hnd : (xs.map (·.1)).Nodup) {i : Nat} {x : KY × Value × Value} (hx : xs[i]? = some x) : kyAt (xs.take i) x.1 = none := kyAt_none fun j p hj => by
  have hji : j < i := by
    have := (List.getElem?_eq_some_iff.mp hj).1
    rw [List.length_take] at this; omega
  rw [List.getElem?_take_of_lt hji] at hj
  have a1 : (xs.map (·.1))[j]? = some x.1 := by rw [List.getElem?_map, hj]; rfl
  have a2 : (xs.map (·.1))[i]? = some x.1 := by rw [List.getElem?_map, hx]; rfl
  have := (List.getElem?_inj (List.getElem?_eq_some_iff.mp a1).1 hnd).mp (a1.trans a2.symm)
  omega
theorem dl_take {xs : KL} (hnd : (xs.map (·.1)).Nodup) {i : Nat} {x : KY × Value × Value} (hx : xs[i]? = some x) : kyStored (xs.take i) x.1 x.2.1 x.2.2 = xs.take (i + 1) := by
  rw [ky_new (dl_nodup hnd hx), List.take_add_one, hx]; rfl
theorem dl_loop {d I l : Addr} {its : Array Value} {k : Nat} {R : Result → Shared → Prop} (hh : A.handled = none) (hu : A.in1.units < cLine) (hIl : l ≠ I) (hdI : d ≠ I) (hIL : I ≠ L) (hI₀ : h₀.get? I = none) (hdL : d ≠ L) (hd₀ : h₀.get? d = none) (hoff : ∀ p ∈ led, p.1 ≠ I ∧ p.1 ≠ d) (hm : (l, PySem.W.listOf its k) ∈ led) (hsz : its.size ≤ 1000) (hlen : xs.length = its.size) (hit : ∀ (i : Nat) (x : KY × Value × Value), xs[i]? = some x → ∃ a n, its[i]? = some (.ref a) ∧ (a, tupObj #[x.2.1, x.2.2] n) ∈ led) (hks : KyKs w led xs) (hnd : (xs.map (·.1)).Nodup)
    (hR : ∀ o h' tk, Fr h₀ L h' m → News h₀ L h' ((d, o) :: led) → KyObj w o xs → R (.ok (.ret .none)) { s with heap := h', toks := tk }) :
    ∀ (j i : Nat) (h : Heap) (tk : Nat) (o : Obj) (t : Tok), its.size - i = j → i ≤ its.size → h.IsListIter I l i → Fr h₀ L h m → News h₀ L h ((d, o) :: led) → KyObj w o (xs.take i) →
      codeAny (model PG w) A (.builtin "dict.update.loop" ⟨[.ref d, .ref I, .int (i : Nat) t, .none], []⟩) R { s with heap := h, toks := tk } := by
  have W := Walks.list (prog := PG) (w := w) (A := A.in1) hh I l hIl its
  have keepN : ∀ {h h' : Heap} {o : Obj}, News h₀ L h ((d, o) :: led) → (∀ b o, b ∉ [I] → h.get? b = some o → h'.get? b = some o) → News h₀ L h' ((d, o) :: led) := fun {h h' o} N hk p hp => ⟨hk _ _ (fun q => by
    have q := List.mem_singleton.mp q
    rcases List.mem_cons.mp hp with rfl | hp
    · exact hdI q
    · exact (hoff p hp).1 q) (N p hp).1, (N p hp).2⟩
  have keepF : ∀ {h h' : Heap}, Fr h₀ L h m → (∀ b o, b ∉ [I] → h.get? b = some o → h'.get? b = some o) → Fr h₀ L h' m := fun F hk => ⟨F.ns.at' fun o e => hk L o (fun q => hIL (List.mem_singleton.mp q).symm) e, fun b o e => hk b o (fun q => by rw [List.mem_singleton.mp q, hI₀] at e; cases e) (F.keep b o e), F.above⟩
  intro j
  induction j with
  | zero =>
    intro i h tk o t hj hi hst F N hd
    obtain rfl : i = its.size := by first | exact ar_s0 (by assumption) (by assumption) | omega
    have hl : h.IsList l its := ⟨_, (N _ (.tail _ hm)).1, rfl, k, rfl⟩
    refine codeAny_builtin dl_entry ?_
    rw [Around.under_plainId dl_plain _]
    show wpAny _ A.in1 (pyNext (.ref I) >>= _) _ _ _
    refine wpAny_bind (W.done { s with heap := h, toks := tk } _ _ ⟨hst, hl⟩ fun h' tk' hk => ?_)
    show wpAny _ _ (Builtin.Dict.addKeywords d [] >>= _) _ _ _
    rw [List.take_of_length_le (Nat.le_of_eq hlen)] at hd
    exact wpAny_bind (wpAny_pure (wpAny_pure (hR o h' tk' (keepF F hk) (keepN N hk) hd)))
  | succ j ih =>
    intro i h tk o t hj hi hst F N hd
    have hlt : i < its.size := by first | exact ar_s2 (by assumption) | omega
    have hl : h.IsList l its := ⟨_, (N _ (.tail _ hm)).1, rfl, k, rfl⟩
    obtain ⟨x, hx⟩ : ∃ x, xs[i]? = some x := ⟨_, List.getElem?_eq_getElem (by omega)⟩
    obtain ⟨a, n, ha, hat⟩ := hit i x hx
    refine codeAny_builtin dl_entry ?_
    rw [Around.under_plainId dl_plain _]
    show wpAny _ A.in1 (pyNext (.ref I) >>= _) _ _ _
    refine wpAny_bind (W.item i { s with heap := h, toks := tk } _ _ hlt ⟨hst, hl⟩ fun v h' tk' hv hst' hk => ?_)
    obtain rfl : v = .ref a := Option.some.inj (hv.symm.trans ha)
    have F' := keepF F hk
    have N' := keepN N hk
    have ho := (N' _ (.tail _ hat)).1
    show wpAny _ _ (holding _ _ >>= _) _ _ _
    refine wpAny_bind (wpAny_holding (wpAny_bind (wpAny_tryCatch ?_)))
    unfold Builtin.Dict.pairItems
    refine wpAny_bind (wpAny_typeOf (T := "tuple") ⟨_, ho, rfl⟩ ?_)
    rw [if_pos (by decide)]
    refine wpAny_bind (wpAny_seqItems ho rfl ?_)
    refine wpAny_pure ?_
    show wpAny _ _ (holding [x.2.1, x.2.2] (dictSet d x.2.1 x.2.2)) _ _ _
    refine wpAny_holding ?_
    refine dset_ky (s := { s with heap := h', toks := tk' }) hu N' (.head _) hd (fun y hy => (hks y (List.mem_of_mem_take hy)).mono fun p hp => .tail _ hp) ((hks x (List.mem_of_getElem? hx)).mono fun p hp => .tail _ hp) (by rw [List.length_take]; exact Nat.le_trans (Nat.min_le_left _ _) (Nat.le_trans (Nat.le_trans hi hsz) (by decide))) fun h₂ o' ho' hs hd' => ?_
    rw [dl_take hnd hx] at hd'
    have N₂ : News h₀ L h₂ ((d, o') :: led) := fun p hp => by
      rcases List.mem_cons.mp hp with rfl | hp
      · exact ⟨ho', hdL, hd₀⟩
      · exact ⟨hs.extBut _ _ (hoff p hp).2 (N' p (.tail _ hp)).1, (N' p (.tail _ hp)).2⟩
    have hst₂ : h₂.IsListIter I l (i + 1) := by
      obtain ⟨oi, hoi, r⟩ := hst'.1
      exact ⟨oi, hs.extBut _ _ (Ne.symm hdI) hoi, r⟩
    exact wpAny_pure ⟨plainId_quiet dl_plain _, ih (i + 1) h₂ _ o' _ (by first | exact ar_s1 (by assumption) | omega) hlt hst₂ (F'.change hs hdL hd₀) N₂ hd'⟩
theorem dict_of_list {l : Addr} {its : Array Value} {k : Nat} {Q : Value → Shared → Prop} (hh : A.handled = none) (hu : A.in1.in1.units < cLine) (hbig : sysModules < h₀.objs.size) (F : Fr h₀ L s.heap m) (N : News h₀ L s.heap led) (hm : (l, PySem.W.listOf its k) ∈ led) (hsz : its.size ≤ 1000) (hlen : xs.length = its.size) (hit : ∀ (i : Nat) (x : KY × Value × Value), xs[i]? = some x → ∃ a n, its[i]? = some (.ref a) ∧ (a, tupObj #[x.2.1, x.2.2] n) ∈ led) (hks : KyKs w led xs) (hnd : (xs.map (·.1)).Nodup)
    (h : ∀ d o h' tk, Fr h₀ L h' m → News h₀ L h' ((d, o) :: led) → (∀ p ∈ led, p.1 < d) → (d == sysModules) = false → KyObj w o xs → Q (.ref d) { s with heap := h', toks := tk }) :
    wpAny (model PG w) A (call (.type "dict") [.ref l]) Q E s := by
  have lo : (s.heap.objs.size == sysModules) = false := F.notModules hbig
  refine callType_codes (Q₁ := fun obj s₁ => obj = .ref s.heap.objs.size ∧ s₁ = { s with heap := s.heap.push { cls := .type "dict", data := .dict #[] } }) PySem.F.kt_called_dict (PySem.F.kt_typeCall_dict_1 _) PySem.F.entry_dict_init (kt_code_dict_new _ ⟨rfl, rfl⟩) ?_
  rintro obj s₁ ⟨rfl, rfl⟩
  have hnew : (s.heap.push { cls := .type "dict", data := .dict #[] }).get? s.heap.objs.size = some { cls := .type "dict", data := .dict #[] } := Heap.get?_push_size _ rfl
  have F1 : Fr h₀ L (s.heap.push { cls := .type "dict", data := .dict #[] }) m := F.push _
  have N1 : News h₀ L (s.heap.push { cls := .type "dict", data := .dict #[] }) ((s.heap.objs.size, { cls := .type "dict", data := .dict #[] }) :: led) := News.push F N _ rfl
  refine ⟨⟨_, hnew, rfl⟩, PySem.F.args_dict_init_2 _ _, ?_⟩
  unfold Builtin.«dict.__init__»
  refine wpAny_bind ?_
  unfold Builtin.Dict.selfAndRest
  refine wpAny_bind (wpAny_notOrdered_dict ⟨_, hnew, rfl⟩ ?_)
  show wpAny _ _ (pure (s.heap.objs.size, [Value.ref l])) _ _ _
  refine wpAny_pure ?_
  show wpAny _ _ (Builtin.Dict.updateFrom "dict.__init__" s.heap.objs.size (.ref l) [] .none) _ _ _
  unfold Builtin.Dict.updateFrom
  have hl1 := (N1 _ (.tail _ hm)).1
  refine wpAny_bind (wpAny_typeOf (T := "list") ⟨_, hl1, rfl⟩ ?_)
  rw [if_pos (by decide)]
  refine wpAny_bind (keys_miss hl1 hh fun h' tk hk => ?_)
  rw [if_pos (by decide)]
  refine wpAny_bind (wpAny_rule ?_)
  have hl' : h'.IsList l its := ⟨_, hk _ _ hl1, rfl, k, rfl⟩
  refine wpAny_bind (wpAny_pyIter_list hl' ?_)
  have up : ∀ b o, (s.heap.push { cls := .type "dict", data := .dict #[] }).get? b = some o → (h'.push { cls := .type "list_iterator", data := .fields #[.ref l, .int 0 0] }).get? b = some o := fun b o e => Heap.get?_push_of_some _ (hk b o e)
  have lt : ∀ {b o}, (s.heap.push { cls := .type "dict", data := .dict #[] }).get? b = some o → b ≠ h'.objs.size := fun {b o} e => Nat.ne_of_lt (Heap.lt_size (hk b o e))
  have hlt : ∀ p ∈ led, @LT.lt Nat _ p.1 s.heap.objs.size := fun p hp => Heap.lt_size (N p hp).1
  have hge : @LE.le Nat _ s.heap.objs.size h'.objs.size := Nat.le_of_lt (Heap.lt_size (hk _ _ hnew))
  refine wpAny_pure ⟨plainId_quiet dl_plain _, dl_loop (s := s) (xs := xs) (led := led) (d := s.heap.objs.size) (I := h'.objs.size) (l := l) (its := its) (k := k) (L := L) (h₀ := h₀) (m := m) (A := A.in1) hh hu (lt hl1) (lt hnew) (Nat.ne_of_gt (Nat.lt_of_lt_of_le F.ns.lt hge)) (Heap.get?_none_of_le (Nat.le_trans F.above (Nat.le_of_lt (Nat.lt_of_lt_of_le F.ns.lt hge)))) (N1 _ (.head _)).2.1 (N1 _ (.head _)).2.2 (fun p hp => ⟨lt (N1 _ (.tail _ hp)).1, Nat.ne_of_lt (hlt p hp)⟩) hm hsz hlen hit hks hnd (fun o h₂ tk₂ F₂ N₂ hd => ⟨rfl, h _ o h₂ tk₂ F₂ N₂ hlt lo hd⟩) its.size 0 _ _ _ _ (Nat.sub_zero _) (Nat.zero_le _) ⟨_, Heap.get?_push_size _ rfl, rfl, rfl⟩ (F1.keeps up) (N1.grown up) ?_⟩
  rw [List.take_zero]
  exact ⟨⟨rfl, rfl, rfl⟩, #[], 0, rfl, rfl, List.nodup_nil⟩
end
-- K17
section
variable {w : World} {A : Around} {E : Value → Shared → Prop} {s : Shared} {h₀ : Heap} {L a b : Addr} {led : Led} {oa ob : Obj} {xs ys : KL}
theorem ky_same {nm : String} {Q : Bool → Shared → Prop} (hu : A.units < cLine) (N : News h₀ L s.heap led) (ha : (a, oa) ∈ led) (hb : (b, ob) ∈ led) (la : (a == sysModules) = false) (lb : (b == sysModules) = false) (da : KyObj w oa xs) (db : KyObj w ob ys) (ka : KyKs w led xs) (kb : KyKs w led ys) (hlen : xs.length = ys.length)
    (hv : ∀ (i : Nat) (x y : KY × Value × Value), xs[i]? = some x → ys[i]? = some y → x.1 = y.1 ∧ SeqAt.EqAt A s x.2.2 y.2.2 true) (h : Q true s) : wpAny (model PG w) A (Builtin.Dict.samePairs nm a b) Q E s := by
  obtain ⟨_, es, ep, hda, he, hn⟩ := da
  obtain ⟨_, es', ep', hdb, he', hn'⟩ := db
  have hoa := (N _ ha).1
  have hob := (N _ hb).1
  have hla : es.size = xs.length := by rw [← Array.length_toList, he, List.length_map]
  have hlb : es'.size = ys.length := by rw [← Array.length_toList, he', List.length_map]
  have ent : ∀ j : Nat, es[j]? = (xs[j]?).map (kyEnt w) := fun j => by rw [← Array.getElem?_toList, he, List.getElem?_map]
  have ent' : ∀ j : Nat, es'[j]? = (ys[j]?).map (kyEnt w) := fun j => by rw [← Array.getElem?_toList, he', List.getElem?_map]
  unfold Builtin.Dict.samePairs Builtin.Dict.showsAll
  rw [if_neg (show ¬ (a == sysModules) = true by rw [la]; exact Bool.false_ne_true), if_neg (show ¬ (b == sysModules) = true by rw [lb]; exact Bool.false_ne_true)]
  refine wpAny_bind (wpAny_pure (wpAny_bind (wpAny_pure ?_)))
  refine wpAny_bind (wpAny_dictEntries hoa hda ?_)
  dsimp only
  refine wpAny_bind (wpAny_dictEntries hob hdb ?_)
  rw [if_neg (by rw [hla, hlb, hlen]; simp)]
  refine wpAny_bind (wpAny_dictEpoch hoa hda ?_)
  refine wpAny_bind ?_
  rw [Std.Legacy.Range.forIn_eq_forIn_range']
  simp only [Std.Legacy.Range.size, Nat.sub_zero, Nat.add_sub_cancel, Nat.div_one]
  refine wpAny_forIn_list _ (fun rest q s' => s' = s ∧ q = (none, ()) ∧ ∃ i, rest = List.range' i (es.size - i) ∧ i ≤ es.size) _ ?_ ?_ _ _ ⟨rfl, rfl, 0, by simp, Nat.zero_le _⟩
  · rintro x rest q s' ⟨rfl, rfl, i, hr, hi⟩
    have hlt : i < es.size := by
      rcases Nat.lt_or_ge i es.size with h | h
      · exact h
      · rw [Nat.sub_eq_zero_of_le h] at hr; simp at hr
    obtain ⟨rfl, hrest⟩ : x = i ∧ rest = List.range' (i + 1) (es.size - (i + 1)) := by
      have e : es.size - i = (es.size - (i + 1)) + 1 := by first | exact ar_ss (by assumption) | omega
      rw [e, List.range'_succ] at hr
      injection hr with h1 h2
      exact ⟨h1, h2⟩
    obtain ⟨u, hu'⟩ : ∃ u, xs[x]? = some u := ⟨_, List.getElem?_eq_getElem (by omega)⟩
    obtain ⟨v, hv'⟩ : ∃ v, ys[x]? = some v := ⟨_, List.getElem?_eq_getElem (by omega)⟩
    obtain ⟨ek, eq⟩ := hv x u v hu' hv'
    refine wpAny_bind (wpAny_dictEntries hoa hda ?_)
    rw [ent x, hu']
    show wpAny _ _ (holding [u.2.1, u.2.2] _ >>= _) _ _ _
    refine wpAny_bind (wpAny_holding (wpAny_bind (find_ky hu (kyIs_of N (ka u (List.mem_of_getElem? hu'))) hob hdb he' (fun y hy => kyIs_of N (kb y hy)) hn' (fun hno => absurd (show ys[x]? = some (u.1, v.2) by rw [hv', ek]) (hno x v.2)) (fun j p hj => ?_))))
    obtain rfl : j = x := by
      have a1 : (ys.map (·.1))[j]? = some u.1 := by rw [List.getElem?_map, hj]; rfl
      have a2 : (ys.map (·.1))[x]? = some u.1 := by rw [List.getElem?_map, hv', ek]; rfl
      exact (List.getElem?_inj (List.getElem?_eq_some_iff.mp a1).1 hn').mp (a1.trans a2.symm)
    refine wpAny_bind (wpAny_dictEntries hob hdb ?_)
    rw [ent' j, hv']
    refine wpAny_holding (eq _ w _ _ ?_)
    show wpAny _ _ (if (!true) = true then _ else _) _ _ _
    rw [if_neg (by decide)]
    refine wpAny_bind (wpAny_dictEpoch hoa hda ?_)
    rw [if_neg (by simp)]
    exact wpAny_pure ⟨rfl, rfl, j + 1, hrest, hlt⟩
  · rintro q s' ⟨rfl, rfl, i, hr, hi⟩
    exact wpAny_pure h
theorem ky_eq {Q : Value → Shared → Prop} (hu : A.in1.units < cLine) (N : News h₀ L s.heap led) (ha : (a, oa) ∈ led) (hb : (b, ob) ∈ led) (la : (a == sysModules) = false) (lb : (b == sysModules) = false) (da : KyObj w oa xs) (db : KyObj w ob ys) (ka : KyKs w led xs) (kb : KyKs w led ys) (hlen : xs.length = ys.length)
    (hv : ∀ (i : Nat) (x y : KY × Value × Value), xs[i]? = some x → ys[i]? = some y → x.1 = y.1 ∧ SeqAt.EqAt A.in1 s x.2.2 y.2.2 true) (h : Q (.bool true) s) : wpAny (model PG w) A (compareOp .Eq (.ref a) (.ref b)) Q E s := by
  have ta := ky_type N ha da
  have tb := ky_type N hb db
  refine wpAny_richCompare_same_room (op := .Eq) ta tb PySem.F.slot_dict_eq (wpAny_call_entry PySem.F.slot_dict_eq ta PySem.F.entry_dict_eq ?_ (PySem.F.args_dict_eq_2 _ _)) (Nat.lt_of_succ_lt hu)
  show wpAny _ _ (Builtin.Dict.dictSlotArgs "__eq__" ⟨[.ref a, .ref b], []⟩ >>= _) _ _ s
  refine wpAny_bind ?_
  unfold Builtin.Dict.dictSlotArgs
  refine wpAny_bind (wpAny_notOrdered_dict ta ?_)
  show wpAny _ _ (pure (Value.ref a, Value.ref b)) _ _ s
  refine wpAny_pure ?_
  refine wpAny_bind (wpAny_isInstance (T := "dict") tb PySem.F.sub_dict_dict ?_)
  simp only [Bool.not_true, Bool.false_eq_true, if_false]
  refine wpAny_bind (wpAny_pure (wpAny_bind (wpAny_pure ?_)))
  refine wpAny_bind (ky_same hu N ha hb la lb da db ka kb hlen hv ?_)
  exact wpAny_pure ⟨_, rfl, (fun x => nomatch x), h⟩
theorem ky_ne {Q : Value → Shared → Prop} (hu : A.in1.units < cLine) (N : News h₀ L s.heap led) (ha : (a, oa) ∈ led) (hb : (b, ob) ∈ led) (la : (a == sysModules) = false) (lb : (b == sysModules) = false) (da : KyObj w oa xs) (db : KyObj w ob ys) (ka : KyKs w led xs) (kb : KyKs w led ys) (hlen : xs.length = ys.length)
    (hv : ∀ (i : Nat) (x y : KY × Value × Value), xs[i]? = some x → ys[i]? = some y → x.1 = y.1 ∧ SeqAt.EqAt A.in1 s x.2.2 y.2.2 true) (h : Q (.bool false) s) : wpAny (model PG w) A (compareOp .NotEq (.ref a) (.ref b)) Q E s := by
  have ta := ky_type N ha da
  have tb := ky_type N hb db
  refine wpAny_richCompare_same_room (op := .NotEq) ta tb PySem.F.slot_dict_ne (wpAny_call_entry PySem.F.slot_dict_ne ta PySem.F.entry_dict_ne ?_ (PySem.F.args_dict_ne_2 _ _)) (Nat.lt_of_succ_lt hu)
  show wpAny _ _ (Builtin.Dict.dictSlotArgs "__ne__" ⟨[.ref a, .ref b], []⟩ >>= _) _ _ s
  refine wpAny_bind ?_
  unfold Builtin.Dict.dictSlotArgs
  refine wpAny_bind (wpAny_notOrdered_dict ta ?_)
  show wpAny _ _ (pure (Value.ref a, Value.ref b)) _ _ s
  refine wpAny_pure ?_
  refine wpAny_bind (wpAny_isInstance (T := "dict") tb PySem.F.sub_dict_dict ?_)
  simp only [Bool.not_true, Bool.false_eq_true, if_false]
  refine wpAny_bind (wpAny_pure (wpAny_bind (wpAny_pure ?_)))
  refine wpAny_bind (ky_same hu N ha hb la lb da db ka kb hlen hv ?_)
  exact wpAny_pure ⟨_, rfl, (fun x => nomatch x), h⟩
/-- two values that read as the same data are equal -/
theorem eq_rd {x y : Value} {D : PyData} (hu : A.units + 64 < cLine) (N : News h₀ L s.heap led) (hx : RdL led x D) (hy : RdL led y D) (hD : SeqAt.shaped D = true) : SeqAt.EqAt A s x y true := by
  obtain ⟨as, rx⟩ := hx _ _ _ N
  obtain ⟨bs, ry⟩ := hy _ _ _ N
  have := SeqAt.eqAt_reads D D A s x y as bs rx ry (SeqAt.canLay_of_shaped hD) (SeqAt.canLay_of_shaped hD) (SeqAt.room_of_shaped hD hu)
  rwa [SeqAt.eqv_refl D (SeqAt.canLay_of_shaped hD)] at this
theorem rd_eq {x y : Value} {D : PyData} {Q : Value → Shared → Prop} (hu : A.units + 64 < cLine) (N : News h₀ L s.heap led) (hx : RdL led x D) (hy : RdL led y D) (hD : SeqAt.shaped D = true) (h : Q (.bool true) s) : wpAny (model PG w) A (compareOp .Eq x y) Q E s := by
  obtain ⟨as, rx⟩ := hx _ _ _ N
  obtain ⟨bs, ry⟩ := hy _ _ _ N
  refine SeqAt.compareEq_shaped rx ry hD hD hu ?_
  rw [SeqAt.eqv_refl D (SeqAt.canLay_of_shaped hD)]
  exact h
theorem rd_ne {x y : Value} {D : PyData} {Q : Value → Shared → Prop} (hu : A.units + 64 < cLine) (N : News h₀ L s.heap led) (hx : RdL led x D) (hy : RdL led y D) (hD : SeqAt.shaped D = true) (h : Q (.bool false) s) : wpAny (model PG w) A (compareOp .NotEq x y) Q E s := by
  obtain ⟨as, rx⟩ := hx _ _ _ N
  obtain ⟨bs, ry⟩ := hy _ _ _ N
  refine SeqAt.compareNe_shaped rx ry hD hD hu ?_
  rw [SeqAt.eqv_refl D (SeqAt.canLay_of_shaped hD)]
  exact h
end
-- Q4
noncomputable def lebT (rows : List Row) (q x y : Nat) : List Row := rows.set q (.leb true x y)
section
variable {rows : List Row} {lb : Option Nat} {q x y : Nat} {sg : Bool}
theorem lebT_len : (lebT rows q x y).length = rows.length := List.length_set
theorem lebT_get (hq : rows[q]? = some (.leb sg x y)) (i : Nat) : (lebT rows q x y)[i]? = if q = i then some (.leb true x y) else rows[i]? := by
  unfold lebT
  rw [List.getElem?_set]
  have := (List.getElem?_eq_some_iff.mp hq).1
  by_cases h : q = i
  · rw [if_pos h, if_pos h, if_pos (h ▸ this)]
  · rw [if_neg h, if_neg h]
theorem lebT_raw (hq : rows[q]? = some (.leb sg x y)) {W : Int} (i : Nat) (p h : Int) : ((lebT rows q x y)[i]?).map (fun r => rawN r i p h W) = (rows[i]?).map (fun r => rawN r i p h W) := by
  rw [lebT_get hq]
  split
  · rename_i e
    rw [← e, hq]; rfl
  · rfl
theorem posn_via {rows : List Row} {W : Int} (i : Nat) : posn rows W (i + 1) = match (rows[i]?).map (fun r => rawN r i (first rows W) (posn rows W i) W) with | none => posn rows W i | some g => stepN (posn rows W i) g := by
  show (match rows[i]? with | none => posn rows W i | some r => stepN (posn rows W i) (rawN r i (first rows W) (posn rows W i) W)) = _
  cases rows[i]? <;> rfl
theorem first_via {rows : List Row} {W : Int} : first rows W = match (rows[0]?).map (fun r => rawN r 0 0 0 W) with | none => 0 | some g => stepN 0 g := by
  unfold first
  cases rows[0]? <;> rfl
theorem lebT_first (hq : rows[q]? = some (.leb sg x y)) {W : Int} : first (lebT rows q x y) W = first rows W := by
  rw [first_via, first_via, lebT_raw hq]
theorem lebT_posn (hq : rows[q]? = some (.leb sg x y)) {W : Int} : ∀ i, posn (lebT rows q x y) W i = posn rows W i
  | 0 => rfl
  | i + 1 => by rw [posn_via, posn_via, lebT_posn hq i, lebT_first hq, lebT_raw hq]
theorem lebT_okB (hq : rows[q]? = some (.leb sg x y)) {W : Int} : ∀ n, okB (lebT rows q x y) W n = okB rows W n
  | 0 => rfl
  | n + 1 => by
    show (okB (lebT rows q x y) W n && _) = (okB rows W n && _)
    rw [lebT_okB hq n, lebT_get hq]
    by_cases e : q = n
    · rw [if_pos e, ← e, hq]; rfl
    · rw [if_neg e]
      cases hr : rows[n]? with
      | none => rfl
      | some r =>
        cases r with
        | org wd k =>
          show (_ && match goalOf wd k n (posn (lebT rows q x y) W 1) (posn (lebT rows q x y) W n) with | none => false | some g => decide (posn (lebT rows q x y) W n ≤ g)) = _
          rw [lebT_posn hq, lebT_posn hq]; rfl
        | _ => rfl
theorem lebT_offs (hq : rows[q]? = some (.leb sg x y)) {W : Int} {n : Nat} : offs (lebT rows q x y) W n = offs rows W n := by
  unfold offs
  exact List.map_congr_left fun i _ => lebT_posn hq i
theorem lebT_lebV (hq : rows[q]? = some (.leb sg x y)) {W : Int} {a b : Nat} : LebV (lebT rows q x y) W a b = LebV rows W a b := by
  unfold LebV; rw [lebT_posn hq, lebT_posn hq]
theorem lebT_lebIs (hq : rows[q]? = some (.leb sg x y)) (h : LebIs rows lb) : LebIs (lebT rows q x y) lb := fun i => by
  rw [← h i, lebT_get hq]
  split
  · rename_i e
    subst e
    exact ⟨fun _ => ⟨_, _, _, hq⟩, fun _ => ⟨_, _, _, rfl⟩⟩
  · exact Iff.rfl
theorem lebT_ok (hq : rows[q]? = some (.leb sg x y)) (h : ∀ r ∈ rows, r.Ok) : ∀ r ∈ lebT rows q x y, r.Ok := fun r hr => by
  rcases List.mem_or_eq_of_mem_set hr with hr | rfl
  · exact h r hr
  · exact h (.leb sg x y) (List.mem_of_getElem? hq)
theorem lebT_xy (hq : rows[q]? = some (.leb sg x y)) (h : ∀ (i : Nat) sg x y, rows[i]? = some (.leb sg x y) → x ≤ rows.length ∧ y ≤ rows.length) : ∀ (i : Nat) sg a b, (lebT rows q x y)[i]? = some (.leb sg a b) → a ≤ (lebT rows q x y).length ∧ b ≤ (lebT rows q x y).length := fun i sg' a b e => by
  rw [lebT_len]
  rw [lebT_get hq] at e
  split at e
  · injection e with e; injection e with _ e1 e2
    rw [← e1, ← e2]; exact h q _ _ _ hq
  · exact h i _ _ _ e
end
noncomputable def NoNeg (rows : List Row) : Prop := ∀ (i x y : Nat), rows[i]? = some (.leb false x y) → 0 ≤ LebV rows 1 x y
theorem noNeg_T {rows : List Row} {lb : Option Nat} {q x y : Nat} {sg : Bool} (h : LebIs rows lb) (hq : rows[q]? = some (.leb sg x y)) : NoNeg (lebT rows q x y) := fun i a b e => by
  have h1 := (h q).mp ⟨_, _, _, hq⟩
  have h2 := ((lebT_lebIs hq h) i).mp ⟨_, _, _, e⟩
  obtain rfl : q = i := Option.some.inj (h1.symm.trans h2)
  rw [lebT_get hq, if_pos rfl] at e
  cases e
theorem noNeg_none {rows : List Row} (h : LebIs rows none) : NoNeg rows := fun i a b e => by
  have := (h i).mp ⟨_, _, _, e⟩
  cases this
theorem noNeg_some {rows : List Row} {q x y : Nat} {sg : Bool} (h : LebIs rows (some q)) (hq : rows[q]? = some (.leb sg x y)) (h9 : lawNeed sg (LebV rows 1 x y) ≠ 9) : NoNeg rows := fun i a b e => by
  obtain rfl : q = i := Option.some.inj ((h i).mp ⟨_, _, _, e⟩)
  rw [hq] at e
  injection e with e; injection e with e1 e2 e3
  subst e1 e2 e3
  unfold lawNeed at h9
  simp only [Bool.false_eq_true, if_false] at h9
  split at h9
  · exact absurd rfl h9
  · omega
theorem need_nine {sg : Bool} {v : Int} (h : lawNeed sg v = 9) : sg = false ∧ v < 0 := by
  unfold lawNeed at h
  cases sg
  · simp only [Bool.false_eq_true, if_false] at h
    split at h
    · exact ⟨rfl, by assumption⟩
    · split at h <;> omega
  · simp only [if_true] at h
    split at h <;> omega
/-- what law's need says, once the distance is not below 0 for an unsigned number -/
theorem need_of {sg : Bool} {v : Int} (h : sg = false → 0 ≤ v) : lawNeed sg v = needOf sg v := by
  unfold lawNeed needOf
  cases sg
  · simp only [Bool.false_eq_true, if_false]
    rw [if_neg (by have := h rfl; omega)]
  · simp only [if_true]
theorem finN_none {rows : List Row} {W : Int} : finN rows none W = W := rfl
theorem finN_some {rows : List Row} {q x y : Nat} {sg : Bool} {W : Int} (hq : rows[q]? = some (.leb sg x y)) : finN rows (some q) W = max W (needOf sg (LebV rows W x y)) := by
  unfold finN
  simp only [hq]
theorem lebOk_1 {rows : List Row} (hok : ∀ r ∈ rows, r.Ok) (hxy : ∀ (i : Nat) sg x y, rows[i]? = some (.leb sg x y) → x ≤ rows.length ∧ y ≤ rows.length) (hn : NoNeg rows) : LebOk rows 1 := fun i sg x y e => by
  have ok := hok _ (List.mem_of_getElem? e)
  obtain ⟨h1, h2⟩ := hxy i sg x y e
  refine ⟨h1, h2, lebV_bound hok (by decide) ok.1 ok.2, fun h => hn i x y (h ▸ e)⟩
theorem posn_le_W {rows : List Row} {W : Int} {i j : Nat} (h : i ≤ j) : 0 ≤ posn rows W j - posn rows W i := Int.sub_nonneg_of_le (posn_mono h)
theorem lebOk_fin {rows : List Row} {lb : Option Nat} (hlb : LebIs rows lb) (hok : ∀ r ∈ rows, r.Ok) (hxy : ∀ (i : Nat) sg x y, rows[i]? = some (.leb sg x y) → x ≤ rows.length ∧ y ≤ rows.length) (hn : NoNeg rows) : LebOk rows (finN rows lb 1) := fun i sg x y e => by
  have ok := hok _ (List.mem_of_getElem? e)
  obtain ⟨h1, h2⟩ := hxy i sg x y e
  have hW : finN rows lb 1 ≤ 2 := by rcases finN_cases (rows := rows) (lb := lb) with h | h <;> rw [h] <;> decide
  refine ⟨h1, h2, lebV_bound hok hW ok.1 ok.2, fun h => ?_⟩
  subst h
  have h0 := hn i x y e
  obtain rfl := (hlb i).mp ⟨_, _, _, e⟩
  rw [finN_some e]
  unfold needOf
  simp only [Bool.false_eq_true, if_false]
  split
  · exact h0
  · have hgt : 0 < LebV rows 1 x y := by omega
    unfold LebV at hgt ⊢
    rcases Nat.lt_or_ge x y with hxy' | hxy'
    · have := posn_le_W (rows := rows) (W := 1) (Nat.le_of_lt hxy')
      omega
    · exact posn_le_W hxy'
-- Q5
/-- data that may be laid out and is at most k deep -/
noncomputable def Shp (k : Nat) (d : PyData) : Prop := d.canLay0 = true ∧ d.depth ≤ k
theorem Shp.mono {k k' : Nat} {d : PyData} (h : Shp k d) (hk : k ≤ k') : Shp k' d := ⟨h.1, Nat.le_trans h.2 hk⟩
theorem shp_all {k : Nat} : ∀ {ds : List PyData}, (∀ d ∈ ds, Shp k d) → PyData.canLayAll0 ds = true ∧ PyData.depthAll ds ≤ k
  | [], _ => ⟨rfl, Nat.zero_le _⟩
  | d :: r, h => by
    obtain ⟨a1, a2⟩ := h d (.head _)
    obtain ⟨b1, b2⟩ := shp_all (ds := r) fun x hx => h x (.tail _ hx)
    refine ⟨by rw [PyData.canLayAll0, a1, b1]; rfl, ?_⟩
    rw [PyData.depthAll]
    omega
theorem shp_list {k : Nat} {ds : List PyData} (h : ∀ d ∈ ds, Shp k d) : Shp (k + 1) (.list ds) := by
  obtain ⟨a, b⟩ := shp_all h
  refine ⟨by rw [PyData.canLay0]; exact a, ?_⟩
  rw [PyData.depth]; omega
theorem shp_tup {k : Nat} {ds : List PyData} (h : ∀ d ∈ ds, Shp k d) : Shp (k + 1) (.tuple ds) := by
  obtain ⟨a, b⟩ := shp_all h
  refine ⟨by rw [PyData.canLay0]; exact a, ?_⟩
  rw [PyData.depth]; omega
theorem shp_int {k : Nat} {i : Int} : Shp k (.int i) := ⟨rfl, by rw [PyData.depth]; exact Nat.zero_le _⟩
theorem shp_none {k : Nat} : Shp k .none := ⟨rfl, by rw [PyData.depth]; exact Nat.zero_le _⟩
theorem shp_str {k : Nat} {x : Str} (h : PyData.strOk x = true) : Shp k (.str x) := ⟨by rw [PyData.canLay0]; exact h, by rw [PyData.depth]; exact Nat.zero_le _⟩
theorem shp_shaped {k : Nat} {d : PyData} (h : Shp k d) (hk : k ≤ 64) : SeqAt.shaped d = true := by
  unfold SeqAt.shaped
  rw [h.1, Bool.true_and]
  exact decide_eq_true (Nat.le_trans h.2 hk)
theorem shp_text {k : Nat} : Shp k (.str (Str.ofString ".text")) := shp_str (by decide +kernel)
theorem shp_data {k : Nat} : Shp k (.str (Str.ofString ".data")) := shp_str (by decide +kernel)
theorem shp_off {x : Str × Nat × Int} (h : ∀ k, Shp k (.str x.1)) : Shp 2 (offD x) :=
  shp_tup (List.forall_mem_cons.mpr ⟨shp_tup (List.forall_mem_cons.mpr ⟨h _, List.forall_mem_cons.mpr ⟨shp_int, List.forall_mem_nil _⟩⟩), List.forall_mem_cons.mpr ⟨shp_int, List.forall_mem_nil _⟩⟩)
theorem shp_srt {k : Nat} {ds : List PyData} (h : ∀ d ∈ ds, Shp k d) : ∀ d ∈ srtD ds, Shp k d := by
  unfold srtD
  split
  · exact h
  · intro d hd
    obtain ⟨i, _, rfl⟩ := List.mem_map.mp hd
    rw [List.getD_eq_getElem?_getD]
    cases e : ds[i]? with
    | none => exact shp_none
    | some x => exact h x (List.mem_of_getElem? e)
theorem shp_told {rows : List Row} {lb : Option Nat} {W : Int} : SeqAt.shaped (toldD rows lb W) = true := by
  refine shp_shaped (k := 4) ?_ (by decide)
  unfold toldD
  refine shp_tup (List.forall_mem_cons.mpr ⟨shp_list (shp_srt ?_), List.forall_mem_cons.mpr ⟨shp_list (shp_srt ?_), List.forall_mem_cons.mpr ⟨shp_list (shp_srt ?_), List.forall_mem_nil _⟩⟩⟩)
  · intro d hd
    obtain ⟨x, hx, rfl⟩ := List.mem_map.mp hd
    unfold specO specT at hx
    rcases List.mem_append.mp hx with hx | hx
    · obtain ⟨i, _, rfl⟩ := List.mem_map.mp hx
      exact shp_off fun _ => shp_text
    · rw [List.mem_singleton.mp hx]
      exact shp_off fun _ => shp_data
  · intro d hd
    obtain ⟨x, hx, rfl⟩ := List.mem_map.mp hd
    cases lb with
    | none => cases hx
    | some k =>
      rw [List.mem_singleton.mp hx]
      exact shp_off fun _ => shp_text
  · refine List.forall_mem_cons.mpr ⟨(shp_tup (k := 0) (List.forall_mem_cons.mpr ⟨shp_text, List.forall_mem_cons.mpr ⟨shp_int, List.forall_mem_nil _⟩⟩)).mono (by decide), List.forall_mem_cons.mpr ⟨(shp_tup (k := 0) (List.forall_mem_cons.mpr ⟨shp_data, List.forall_mem_cons.mpr ⟨shp_int, List.forall_mem_nil _⟩⟩)).mono (by decide), List.forall_mem_nil _⟩⟩
/-- the entries of the dict of places, with their tuples on the ledger -/
inductive KlR (l : Led) : KL → List (Str × Str × Int) → Prop
  | nil : KlR l [] []
  | snoc {xs : KL} {sp : List (Str × Str × Int)} {k sec : Str} {v : Int} {a : Addr} {t t1 t2 n : Nat} : KlR l xs sp → (a, tupObj #[.str sec t1, .int v t2] n) ∈ l → KlR l (xs ++ [(.inl k, .str k t, .ref a)]) (sp ++ [(k, sec, v)])
theorem KlR.mono {l l' : Led} (s : ∀ p ∈ l, p ∈ l') {xs : KL} {sp : List (Str × Str × Int)} (h : KlR l xs sp) : KlR l' xs sp := by
  induction h with
  | nil => exact .nil
  | snoc _ hm ih => exact .snoc ih (s _ hm)
theorem klR_len {l : Led} {xs : KL} {sp : List (Str × Str × Int)} (h : KlR l xs sp) : xs.length = sp.length := by
  induction h with
  | nil => rfl
  | snoc _ _ ih => rw [List.length_append, List.length_append, ih]; rfl
theorem klR_ks {w : World} {l : Led} {xs : KL} {sp : List (Str × Str × Int)} (h : KlR l xs sp) : ∀ led, KyKs w led xs := fun led => by
  induction h with
  | nil => exact List.forall_mem_nil _
  | snoc _ _ ih => exact kyKs_snoc ih ⟨_, rfl⟩
theorem klR_keys {l : Led} {xs : KL} {sp : List (Str × Str × Int)} (h : KlR l xs sp) : xs.map (·.1) = sp.map fun y => (.inl y.1 : KY) := by
  induction h with
  | nil => rfl
  | snoc _ _ ih => rw [List.map_append, List.map_append, ih]; rfl
theorem klR_get {l : Led} {xs : KL} {sp : List (Str × Str × Int)} (h : KlR l xs sp) : ∀ {i : Nat} {x : KY × Value × Value}, xs[i]? = some x → ∃ y, sp[i]? = some y ∧ x.1 = .inl y.1 ∧ RdL l x.2.2 (.tuple [.str y.2.1, .int y.2.2]) := by
  induction h with
  | nil => intro i x h; simp at h
  | snoc h hm ih =>
    rename_i xs sp k sec v a t t1 t2 n
    intro i x hx
    have hl := klR_len h
    rcases Nat.lt_or_ge i xs.length with hi | hi
    · rw [List.getElem?_append_left hi] at hx
      rw [List.getElem?_append_left (hl ▸ hi)]
      exact ih hx
    · have hlt := (List.getElem?_eq_some_iff.mp hx).1
      rw [List.length_append, List.length_singleton] at hlt
      obtain rfl : i = xs.length := by omega
      rw [List.getElem?_append_right (Nat.le_refl _), Nat.sub_self] at hx
      obtain rfl := Option.some.inj hx
      rw [hl, List.getElem?_append_right (Nat.le_refl _), Nat.sub_self]
      exact ⟨_, rfl, rfl, rd_tup hm (rds_cons rd_str (rds_cons rd_int rds_nil))⟩
/-- the dict that label_places gives, as entries -/
theorem plcR_klR {w : World} {l : Led} {kvs : List (Str × Value)} {sp : List (Str × Str × Int)} (h : PlcR l kvs sp) : ∀ {xs : KL}, xs.map (fun x => (x.1, x.2.2)) = kvs.map (fun kv => ((.inl kv.1 : KY), kv.2)) → (∀ led, KyKs w led xs) → KlR l xs sp := by
  induction h with
  | nil => intro xs e _; cases xs with
    | nil => exact .nil
    | cons _ _ => cases e
  | snoc h hm ih =>
    rename_i kvs sp k sec v a t1 t2 n
    intro xs e hk
    rw [List.map_append] at e
    obtain ⟨xa, xb, rfl, e1, e2⟩ := List.map_eq_append_iff.mp e
    cases xb with
    | nil => simp at e2
    | cons x r =>
      cases r with
      | cons _ _ => simp at e2
      | nil =>
        obtain ⟨k', kv', v'⟩ := x
        simp only [List.map_cons, List.map_nil, List.cons.injEq, Prod.mk.injEq, and_true] at e2
        obtain ⟨rfl, rfl⟩ := e2
        obtain ⟨t, rfl⟩ := hk [] (.inl k, kv', .ref a) (List.mem_append_right _ (.head _))
        exact .snoc (ih e1 fun led x hx => hk led x (List.mem_append_left _ hx)) hm
theorem klR_same {l l' led : Led} {xs ys : KL} {sp : List (Str × Str × Int)} (hx : KlR l xs sp) (hy : KlR l' ys sp) (s1 : ∀ p ∈ l, p ∈ led) (s2 : ∀ p ∈ l', p ∈ led) (hsp : ∀ y ∈ sp, ∀ k, Shp k (.str y.2.1)) {A : Around} {s : Shared} {h₀ : Heap} {L : Addr} (hu : A.units + 64 < cLine) (N : News h₀ L s.heap led) :
    xs.length = ys.length ∧ ∀ (i : Nat) (x y : KY × Value × Value), xs[i]? = some x → ys[i]? = some y → x.1 = y.1 ∧ SeqAt.EqAt A s x.2.2 y.2.2 true := by
  refine ⟨(klR_len hx).trans (klR_len hy).symm, fun i x y h1 h2 => ?_⟩
  obtain ⟨z, a1, a2, a3⟩ := klR_get hx h1
  obtain ⟨z', b1, b2, b3⟩ := klR_get hy h2
  obtain rfl : z = z' := Option.some.inj (a1.symm.trans b1)
  refine ⟨a2.trans b2.symm, eq_rd hu N (a3.mono s1) (b3.mono s2) (shp_shaped (k := 1) (shp_tup (List.forall_mem_cons.mpr ⟨hsp z (List.mem_of_getElem? a1) _, List.forall_mem_cons.mpr ⟨shp_int, List.forall_mem_nil _⟩⟩)) (by decide))⟩
theorem plcA_sec {rows : List Row} {W : Int} : ∀ y ∈ plcA rows W, ∀ k, Shp k (.str y.2.1) := by
  intro y hy k
  unfold plcA at hy
  rcases List.mem_append.mp hy with hy | hy
  · obtain ⟨i, _, rfl⟩ := plcT_mem hy
    exact shp_text
  · rw [List.mem_singleton.mp hy]
    exact shp_data
-- Z0
theorem isDict_unique {w : World} {o : Obj} {a b : List (Str × Value)} (ha : Obj.IsDictOf (PySem.strKind PG w) o a) (hb : Obj.IsDictOf (PySem.strKind PG w) o b) : a = b := by
  obtain ⟨es, ep, -, h2, -, h4, -⟩ := ha
  obtain ⟨es', ep', -, g2, -, g4, -⟩ := hb
  rw [h2] at g2
  injection g2 with g2 _
  subst g2
  generalize es.toList = l at h4 g4
  induction h4 generalizing b with
  | nil => cases g4; rfl
  | cons hk hv _ ih =>
    cases g4 with
    | cons gk gv gt => rw [ih gt, Prod.ext (Value.isStrOf_inj _ _ _ hk gk) (hv.symm.trans gv)]
section
variable {w : World} {news : Led} {q : LA} {rows : List Row} {lb : Option Nat} {W : Int}
theorem td_ne0 : (Str.ofString ".text" : Str) ≠ Str.ofString ".data" := by decide +kernel
theorem specO_text {i : Nat} {v : Int} (h : (Str.ofString ".text", i, v) ∈ specO rows W) : i < rows.length ∧ v = posn rows W i := by
  unfold specO specT at h
  rcases List.mem_append.mp h with h | h
  · obtain ⟨j, hj, e⟩ := List.mem_map.mp h
    injection e with _ e
    injection e with e1 e2
    subst e1 e2
    exact ⟨List.mem_range.mp hj, rfl⟩
  · have e := List.mem_singleton.mp h
    injection e with e _
    exact absurd e td_ne0
theorem specO_data {i : Nat} {v : Int} (h : (Str.ofString ".data", i, v) ∈ specO rows W) : i = 0 := by
  unfold specO specT at h
  rcases List.mem_append.mp h with h | h
  · obtain ⟨j, hj, e⟩ := List.mem_map.mp h
    injection e with e _
    exact absurd e td_ne0
  · have e := List.mem_singleton.mp h
    injection e with _ e
    injection e with e _
theorem place_text_ct (hq : LayAt w news q rows lb W) {i : Nat} (hi : i ≤ rows.length) {t1 t2 : Tok} : Ct w 4 80 208 [.ref q.y, .str (Str.ofString ".text") t1, .int i t2] news (IntP (posn rows W i)) False := by
  rcases Nat.lt_or_ge i rows.length with h | h
  · exact place_in_ct hq (List.mem_append_left _ (List.mem_map.mpr ⟨i, List.mem_range.mpr h, rfl⟩)) fun v' hv' => (specO_text hv').2
  · obtain rfl : i = rows.length := Nat.le_antisymm hi h
    obtain ⟨u1, u2, hL⟩ := hq.kL
    exact place_out_ct (t3 := u1) hq (fun v hv => absurd (specO_text hv).1 (Nat.lt_irrefl _)) fun o ho => by
      rw [isDict_unique ho hL]; exact val_td_t
theorem place_data_ct (hq : LayAt w news q rows lb W) {t1 t2 : Tok} : Ct w 4 80 208 [.ref q.y, .str (Str.ofString ".data") t1, .int ((1 : Nat) : Int) t2] news (IntP 2) False := by
  obtain ⟨u1, u2, hL⟩ := hq.kL
  exact place_out_ct (t3 := u2) hq (fun v hv => absurd (specO_data hv) (by decide)) fun o ho => by
    rw [isDict_unique ho hL]; exact val_td_d
end
theorem rng_1 {n : Nat} (h : n ≤ 10) : Builtin.Range.small 0 ((n : Int) + 1) 1 = true ∧ Builtin.Range.rangeSize 0 ((n : Int) + 1) 1 = ((n + 1 : Nat) : Int) := by
  have key : ∀ a : Fin 11, Builtin.Range.small 0 (((a.1 : Nat) : Int) + 1) 1 = true ∧ Builtin.Range.rangeSize 0 (((a.1 : Nat) : Int) + 1) 1 = ((a.1 + 1 : Nat) : Int) := by decide
  exact key ⟨n, by omega⟩
theorem kv_same {xl yl : KL} (hx : ∀ x ∈ xl, ∃ i t, x.2.2 = Value.int i t) (hy : ∀ x ∈ yl, ∃ i t, x.2.2 = Value.int i t) (e : xl.map (fun x => (x.1, intData x.2.2)) = yl.map (fun x => (x.1, intData x.2.2))) :
    xl.length = yl.length ∧ ∀ {A : Around} {s : Shared} (i : Nat) (x y : KY × Value × Value), xl[i]? = some x → yl[i]? = some y → x.1 = y.1 ∧ SeqAt.EqAt A s x.2.2 y.2.2 true := by
  refine ⟨by simpa using congrArg List.length e, fun {A s} i x y h1 h2 => ?_⟩
  have a1 : (xl.map (fun x => (x.1, intData x.2.2)))[i]? = some (x.1, intData x.2.2) := by rw [List.getElem?_map, h1]; rfl
  have a2 : (yl.map (fun x => (x.1, intData x.2.2)))[i]? = some (y.1, intData y.2.2) := by rw [List.getElem?_map, h2]; rfl
  rw [e, a2] at a1
  have a3 := Option.some.inj a1
  injection a3 with b1 b2
  refine ⟨b1.symm, ?_⟩
  obtain ⟨j, t, ej⟩ := hx x (List.mem_of_getElem? h1)
  obtain ⟨k, u, ek⟩ := hy y (List.mem_of_getElem? h2)
  rw [ej, ek] at b2 ⊢
  injection b2 with b2
  exact fun prog w E Q h => wpAny_eqBool_int (by rw [b2, beq_self_eq_true]; exact h)
theorem kv_two {xl : KL} {k1 k2 : KY} {a b : Int} {t u : Tok} (h : xl.map (fun x => (x.1, x.2.2)) = [(k1, Value.int a t), (k2, Value.int b u)]) : (∀ x ∈ xl, ∃ i t, x.2.2 = Value.int i t) ∧ xl.map (fun x => (x.1, intData x.2.2)) = [(k1, .int a), (k2, .int b)] := by
  have e : xl.map (fun x => (x.1, intData x.2.2)) = (xl.map (fun x => (x.1, x.2.2))).map (fun z => (z.1, intData z.2)) := by rw [List.map_map]; rfl
  refine ⟨fun x hx => ?_, by rw [e, h]; rfl⟩
  have : (x.1, x.2.2) ∈ xl.map (fun x => (x.1, x.2.2)) := List.mem_map.mpr ⟨x, hx, rfl⟩
  rw [h] at this
  rcases List.mem_cons.mp this with q | q
  · injection q with _ q; exact ⟨_, _, q⟩
  · have q := List.mem_singleton.mp q
    injection q with _ q; exact ⟨_, _, q⟩
theorem offR_kv {xs : KL} {sp : List (Str × Nat × Int)} (h : OffR xs sp) : xs.map (fun x => (x.1, intData x.2.2)) = sp.map (fun y => ((.inr [.inl y.1, .inr (y.2.1 : Int)] : KY), PyData.int y.2.2)) := by
  induction h with
  | nil => rfl
  | snoc _ ih => rw [List.map_append, List.map_append, ih]; rfl
-- Z1
noncomputable def LawAt (w : World) (nm : Str) (sc : Scope) (body : List Stmt) : Prop := ∃ oc od qual params dV kV doc pm an cdv ct osl, (Mine.hd.heap_1_39 w.params).lookup 658 = some ⟨oc, od, .func (fnOf nm qual params body sc dV kV doc pm an cdv ct), osl⟩
/-- a statement of law: from Pre to Post, or it gives back True -/
noncomputable def StgAt (w : World) (nm : Str) (sc : Scope) (st : Stmt) (Pre : Heap → Addr → SMap → Led → Prop) (Post : Addr → SMap → Led → Prop) : Prop :=
  ∀ (dp un : Nat) (fr : Option (List Env)) (gd : Option (List Code)) (A₀ : Around) (g : Heap) (L fa : Addr) (cd : Value) (mg mb : SMap) (mean : ExcName → Option Value) (m : SMap) (h : Heap) (G : Array GenState) (D : Drawn) (tk : Nat) (O : OsState) (q : Flow → Shared → Prop) (e : Value → Shared → Prop) (led : Led),
    Amb w (⟨none, dp, fr, gd, un⟩ : Around) A₀ (envOfC nm sc L fa cd) [] g g L mg mb mean → PassesOwn (model PG w) (⟨none, dp, fr, gd, un⟩ : Around) (envOfC nm sc L fa cd) e → (Mine.hd.heap_1_39 w.params).In g → Top Mine.hd.view_1_40 lo5 mean mg mb g → Fr g L h m → News g L h led → dp + 80 < recursionLimit → un + 1500 < cLine → Pre g L m led →
    (∀ h' tk' m' led', Fr g L h' m' → News g L h' led' → Post L m' led' → q .next ⟨h', G, D, tk', O⟩) →
    (∀ h' tk' m', Fr g L h' m' → q (.ret (.bool true)) ⟨h', G, D, tk', O⟩) →
    wpAny (model PG w) (⟨none, dp, fr, gd, un⟩ : Around) (exec st (envOfC nm sc L fa cd)) q e ⟨h, G, D, tk, O⟩
noncomputable def Stg (w : World) (k : Nat) (Pre : Heap → Addr → SMap → Led → Prop) (Post : Addr → SMap → Led → Prop) : Prop := ∀ nm sc body st, LawAt w nm sc body → body[k]? = some st → StgAt w nm sc st Pre Post
theorem stg_open {w : World} {k : Nat} {Pre : Heap → Addr → SMap → Led → Prop} {Post : Addr → SMap → Led → Prop} {oc : Value} {od : Option Addr} {qual nm : Str} {params : Arguments} {body : List Stmt} {sc : Scope} {dV kV doc pm cdv ct : Value} {an : Option Addr} {osl : Array (Option Value)} {st : Stmt}
    (ho : (Mine.hd.heap_1_39 w.params).lookup 658 = some ⟨oc, od, .func (fnOf nm qual params body sc dV kV doc pm an cdv ct), osl⟩) (hk : body[k]? = some st) (h : StgAt w nm sc st Pre Post) : Stg w k Pre Post := by
  intro nm' sc' body' st' hl hk'
  obtain ⟨oc', od', qual', params', dV', kV', doc', pm', an', cdv', ct', osl', e⟩ := hl
  have e2 := Option.some.inj (ho.symm.trans e)
  injection e2 with _ _ e3 _
  injection e3 with e3
  unfold fnOf at e3
  injection e3 with a1 a2 a3 a4 a5
  injection a4 with a4
  subst a1 a4 a5
  have := Option.some.inj (hk.symm.trans hk')
  subst this
  exact h
-- Z2
theorem words55 : True := by
  k_with "stg_in" => ((unfold StgAt; intro dp un fr gd A₀ gg L fa cd mg mb mean m hh0 G D tk O qq ee led c hpo X T F N hd9 hu9 hP hn hr))
  k_with "csn" => (obtain ⟨n1, n2, n3, n4, n5, n6⟩ := cs_ne hX)
  trivial
noncomputable abbrev cs3 (L : Addr) (o3 o2 o1 : Obj) (tl : Led) : Led := (L + 1 + 1 + 1, o3) :: (L + 1 + 1, o2) :: (L + 1, o1) :: tl
structure RowF (tl : Led) (its : Array Value) (rows : List Row) (lb : Option Nat) : Prop where
  hz : its.size = rows.length
  hit : ∀ i r, rows[i]? = some r → ∃ a, its[i]? = some (.ref a) ∧ RowAt tl i a r
  hlen : rows.length ≤ 10
  hok : ∀ r ∈ rows, r.Ok
  hlb : LebIs rows lb
  hxy : ∀ (i : Nat) sg x y, rows[i]? = some (.leb sg x y) → x ≤ rows.length ∧ y ≤ rows.length
theorem RowF.mono {n n' : Led} (s : ∀ p ∈ n, p ∈ n') {its : Array Value} {rows : List Row} {lb : Option Nat} (h : RowF n its rows lb) : RowF n' its rows lb := ⟨h.hz, fun i r e => let ⟨a, h1, h2⟩ := h.hit i r e; ⟨a, h1, h2.mono s⟩, h.hlen, h.hok, h.hlb, h.hxy⟩
theorem RowF.at {n n' : Led} {its : Array Value} {rows : List Row} {lb : Option Nat} (h : RowF n its rows lb) {R : Addr} {k : Nat} (hm : (R, PySem.W.listOf its k) ∈ n') (s : Sub n n') : RowsAt n' R rows := ⟨its, k, hm, h.hz, fun i r e => let ⟨a, h1, h2⟩ := h.hit i r e; ⟨a, h1, h2.mono s⟩⟩
theorem pull_rows {g h : Heap} {L R : Addr} {tl : Led} {rows : List Row} {lb : Option Nat} (N : News g L h tl) (hR : RowsAt tl R rows) (h1 : rows.length ≤ 10) (h2 : ∀ r ∈ rows, r.Ok) (h3 : LebIs rows lb) (h4 : ∀ (i : Nat) sg x y, rows[i]? = some (.leb sg x y) → x ≤ rows.length ∧ y ≤ rows.length) :
    ∃ its k tr, (R, PySem.W.listOf its k) ∈ tl ∧ Sub tr tl ∧ (∀ p ∈ tr, p.1 ≠ R) ∧ RowF tr its rows lb := by
  obtain ⟨its, k, hm, hz, hit⟩ := hR
  have keep : ∀ {a : Addr} {vs : Array Value} {n : Nat}, (a, tupObj vs n) ∈ tl → (a, tupObj vs n) ∈ tl.filter fun p => decide (p.1 ≠ R) := fun {a vs n} hp => List.mem_filter.mpr ⟨hp, decide_eq_true fun e => by
    have q1 := (N _ hp).1
    have q2 := (N _ hm).1
    rw [show a = R from e, q2] at q1
    injection q1 with q1
    injection q1 with q1
    injection q1 with q1
    exact absurd q1 (by decide)⟩
  refine ⟨its, k, tl.filter fun p => decide (p.1 ≠ R), hm, fun p hp => (List.mem_filter.mp hp).1, fun p hp => of_decide_eq_true (List.mem_filter.mp hp).2, hz, fun i r e => ?_, h1, h2, h3, h4⟩
  obtain ⟨a, ha, hr⟩ := hit i r e
  refine ⟨a, ha, ?_⟩
  cases hr with
  | gap h => exact .gap (keep h)
  | ali h => exact .ali (keep h)
  | leb h => exact .leb (keep h)
  | org h => exact .org (keep h)
/-- the list of the leb rows' places -/
inductive LebL : Option Nat → List Value → Prop
  | none : LebL none []
  | some (i : Nat) (t : Tok) : LebL (some i) [.int (i : Nat) t]
inductive LA0 (g : Heap) (L : Addr) (m : SMap) (led : Led) : Prop
  | mk (S : Addr) (vs : List Value) (ns : List Int) (o1 o2 o3 : Obj) (el : led = cs3 L o3 o2 o1 []) (e : m (Str.ofString "script") = some (.ref S)) (hl : g.IsList S vs.toArray) (hI : IntsAre vs ns) (hn : ¬ (63 : Int) < ns.length) (c1 : o1.data = .cell none) (c2 : o2.data = .cell none) (c3 : o3.data = .cell none)
inductive LA1 (L : Addr) (m : SMap) (led : Led) : Prop
  | mk (R : Addr) (rows : List Row) (lb : Option Nat) (o1 o2 o3 : Obj) (tl : Led) (its : Array Value) (kR : Nat) (el : led = cs3 L o3 o2 o1 ((R, PySem.W.listOf its kR) :: tl)) (hX : ∀ p ∈ (R, PySem.W.listOf its kR) :: tl, @LT.lt Nat _ (L + 1 + 1 + 1) p.1) (hRn : ∀ p ∈ tl, p.1 ≠ R) (e1 : m (Str.ofString "rows") = some (.ref R)) (c1 : o1.data = .cell none) (c2 : o2.data = .cell none) (c3 : o3.data = .cell none) (hf : RowF tl its rows lb)
inductive LA2 (L : Addr) (m : SMap) (led : Led) : Prop
  | mk (R B : Addr) (rows : List Row) (lb : Option Nat) (ys : List Value) (o1 o2 o3 : Obj) (tl : Led) (its : Array Value) (kR : Nat) (el : led = cs3 L o3 o2 o1 ((R, PySem.W.listOf its kR) :: tl)) (hX : ∀ p ∈ (R, PySem.W.listOf its kR) :: tl, @LT.lt Nat _ (L + 1 + 1 + 1) p.1) (hRn : ∀ p ∈ tl, p.1 ≠ R) (e1 : m (Str.ofString "rows") = some (.ref R)) (e2 : m (Str.ofString "lebs") = some (.ref B)) (c1 : o1.data = .cell none) (c2 : o2.data = .cell none) (c3 : o3.data = .cell none) (hf : RowF tl its rows lb)
    (hB : (B, LCg.lst ys) ∈ tl) (hy : LebL lb ys)
inductive LA3 (L : Addr) (m : SMap) (led : Led) : Prop
  | mk (R B : Addr) (rows : List Row) (lb : Option Nat) (ys : List Value) (o1 o2 o3 : Obj) (tl : Led) (tw : Tok) (its : Array Value) (kR : Nat) (el : led = cs3 L o3 o2 o1 ((R, PySem.W.listOf its kR) :: tl)) (hX : ∀ p ∈ (R, PySem.W.listOf its kR) :: tl, @LT.lt Nat _ (L + 1 + 1 + 1) p.1) (hRn : ∀ p ∈ tl, p.1 ≠ R) (e1 : m (Str.ofString "rows") = some (.ref R)) (e2 : m (Str.ofString "lebs") = some (.ref B)) (c1 : o1.data = .cell (some (.int 1 tw))) (c2 : o2.data = .cell none) (c3 : o3.data = .cell none) (hf : RowF tl its rows lb)
    (hB : (B, LCg.lst ys) ∈ tl) (hy : LebL lb ys)
/-- what stands behind law's fourth statement: the rows, the places of the leb rows, the spots -/
inductive LB (P : List Row → Option Nat → Int → Prop) (L : Addr) (m : SMap) (led : Led) : Prop
  | mk (R B SP : Addr) (rows : List Row) (lb : Option Nat) (W : Int) (ys : List Value) (o1 o2 o3 : Obj) (tl : Led) (tw : Tok) (its : Array Value) (kR : Nat) (el : led = cs3 L o3 o2 o1 ((R, PySem.W.listOf its kR) :: tl)) (hX : ∀ p ∈ (R, PySem.W.listOf its kR) :: tl, @LT.lt Nat _ (L + 1 + 1 + 1) p.1) (hRn : ∀ p ∈ tl, p.1 ≠ R)
    (e1 : m (Str.ofString "rows") = some (.ref R)) (e2 : m (Str.ofString "lebs") = some (.ref B)) (e3 : m (Str.ofString "is_right") = some (.bool (okB rows W rows.length)))
    (c1 : o1.data = .cell (some (.int W tw))) (c2 : o2.data = .cell (some (.ref SP))) (c3 : o3.data = .cell none) (hf : RowF tl its rows lb) (hB : (B, LCg.lst ys) ∈ tl) (hy : LebL lb ys) (hS : IntsAt tl SP (offs rows W (rows.length + 1))) (hP : P rows lb W)
theorem ints_of {led : Led} {a : Addr} {k : Nat} {vs : List Value} {ns : List Int} (hm : (a, PySem.W.listOf vs.toArray k) ∈ led) (h : IntsAre vs ns) : IntsAt led a ns := by
  have key : vs.length = ns.length ∧ ∀ (j : Nat) v, ns[j]? = some v → ∃ t, vs[j]? = some (Value.int v t) := by
    clear hm
    induction h with
    | nil => exact ⟨rfl, fun j v h => by simp at h⟩
    | cons n t h ih =>
      refine ⟨by rw [List.length_cons, List.length_cons, ih.1], fun j v hv => ?_⟩
      cases j with
      | zero => exact ⟨t, by simpa using hv⟩
      | succ j => exact ih.2 j v (by simpa using hv)
  exact ⟨vs.toArray, k, hm, by simpa using key.1, fun j v hv => by simpa using key.2 j v hv⟩
section
variable {L : Addr} {o1 o2 o3 o1' o2' o3' : Obj} {tl tl7 : Led} {g h : Heap}
theorem grow_X {R : Addr} {oR : Obj} (h : Lt (cs3 L o3 o2 o1 ((R, oR) :: tl)) tl7) (hX : ∀ p ∈ (R, oR) :: tl, @LT.lt Nat _ (L + 1 + 1 + 1) p.1) : ∀ p ∈ (R, oR) :: (tl7 ++ tl), @LT.lt Nat _ (L + 1 + 1 + 1) p.1 :=
  List.forall_mem_cons.mpr ⟨hX _ (.head _), all_app (P := fun p => @LT.lt Nat _ (L + 1 + 1 + 1) p.1) (h (L + 1 + 1 + 1, o3) (.head _)) fun p hp => hX p (.tail _ hp)⟩
theorem grow_R {R : Addr} {oR : Obj} (h : Lt (cs3 L o3 o2 o1 ((R, oR) :: tl)) tl7) (hRn : ∀ p ∈ tl, p.1 ≠ R) : ∀ p ∈ tl7 ++ tl, p.1 ≠ R :=
  all_app (off_lt h (.tail _ (.tail _ (.tail _ (.head _))))) hRn
theorem cs_gt (h : Lt (cs3 L o3 o2 o1 tl) tl7) : ∀ p ∈ tl7, @LT.lt Nat _ (L + 1 + 1 + 1) p.1 := h _ (.head _)
theorem cs_gt1 {a : Addr} (h : ∀ p ∈ cs3 L o3 o2 o1 tl, p.1 < a) : @LT.lt Nat _ (L + 1 + 1 + 1) a := h _ (.head _)
theorem cs_ne (hX : ∀ p ∈ tl, @LT.lt Nat _ (L + 1 + 1 + 1) p.1) : (∀ p ∈ tl, p.1 ≠ L + 1 + 1 + 1) ∧ (∀ p ∈ tl, p.1 ≠ L + 1 + 1) ∧ (∀ p ∈ tl, p.1 ≠ L + 1) ∧ (L + 1 + 1 + 1 ≠ L + 1) ∧ (L + 1 + 1 ≠ L + 1) ∧ (L + 1 + 1 + 1 ≠ L + 1 + 1) :=
  ⟨fun p hp => Nat.ne_of_gt (hX p hp), fun p hp => Nat.ne_of_gt (Nat.lt_of_succ_lt (hX p hp)), fun p hp => Nat.ne_of_gt (Nat.lt_of_succ_lt (Nat.lt_of_succ_lt (hX p hp))), Nat.ne_of_gt (Nat.lt_succ_of_lt (Nat.lt_succ_self _)), Nat.ne_of_gt (Nat.lt_succ_self _), Nat.ne_of_gt (Nat.lt_succ_self _)⟩
end
theorem pl10 {α : Type} {l : List α} {x : α} : (l.take 9 ++ [x]).length ≤ 10 := by
  rw [List.length_append, List.length_take]
  exact Nat.succ_le_succ (Nat.min_le_left 9 _)
theorem words56 : True := by
  k_with "call ref!" => ((k_here; (with_reducible show wpAny _ _ (call (Value.ref 618) _) _ _ _); k_dflt (refine use_ref c (by assumption) (by assumption) hd9 hu9 (pieces_ct (ints_of (by k_mem) (by assumption)) (by first | exact pl10 | (simp only [List.length_append, List.length_take, List.length_cons, List.length_nil]; omega))) rfl rfl nofun ?_); rintro c7 tl7 h7 tk7 F7 N7 hl7 ⟨rows, lb, hr1, hr2, hr3, hr4, hr5⟩))
  trivial
theorem st0 {w : World} : Stg w 0 LA0 LA1 := by
  refine stg_open (by k_is) rfl ?_
  k_extra "stg_in"
  obtain ⟨S, vs, ns, o1, o2, o3, rfl, e, hl, hI, hcond, c1, c2, c3⟩ := hP
  replace F := fr_eta F e
  clear e
  k_steps
  have h10 : rows.length ≤ 10 := by rw [hr1]; first | exact pl10 | (simp only [List.length_append, List.length_take, List.length_cons, List.length_nil]; omega)
  rw [← hr1] at hr5
  obtain ⟨its, kR, tr, p1, p2, p3, p4⟩ := pull_rows (news_sub (by assumption : News gg L _ (tl7 ++ _)) fun _ h => List.mem_append_left _ h) hr2 h10 hr3 hr4 hr5
  have h9 := hl7 (L + 1 + 1 + 1, o3) (by k_mem)
  exact hn _ _ _ _ (by assumption) (news_sub (by assumption) (sub_splitC (by k_mem) (sub_splitC (by k_mem) (sub_splitC (by k_mem) (sub_splitC (List.mem_append_left _ p1) fun p hp => List.mem_append_left _ (p2 p hp)))))) (.mk c7 rows lb o1 o2 o3 tr its kR rfl (List.forall_mem_cons.mpr ⟨h9 _ p1, fun p hp => h9 p (p2 p hp)⟩) p3 rfl c1 c2 c3 p4)
theorem st2 {w : World} : Stg w 2 (fun _ => LA2) LA3 := by
  refine stg_open (by k_is) rfl ?_
  k_extra "stg_in"
  obtain ⟨R, B, rows, lb, ys, o1, o2, o3, tl, its, kR, rfl, hX, hRn, e1, e2, c1, c2, c3, hf, hB, hy⟩ := hP
  k_extra "csn"
  k_steps
  exact hn _ _ _ _ (by assumption) (by assumption) (.mk R B rows lb ys _ o2 o3 tl _ its kR rfl hX hRn e1 e2 (by assumption) c2 c3 hf hB hy)
theorem words57 : True := by
  k_with "call ref!" => ((k_here; (with_reducible show wpAny _ _ (call (Value.ref 639) _) _ _ _); k_dflt (refine use_ref c (by assumption) (by assumption) hd9 hu9 (spots_ct (hf.at (by k_mem) (by k_extra "subz")) hf.hlen hf.hok (by decide)) rfl rfl nofun ?_); rintro c7 tl7 h7 tk7 F7 N7 hl7 ⟨SP, n7, hm7, hS⟩))
  trivial
theorem st3 {w : World} : Stg w 3 (fun _ => LA3) (LB fun _ _ W => W = 1) := by
  refine stg_open (by k_is) rfl ?_
  k_extra "stg_in"
  obtain ⟨R, B, rows, lb, ys, o1, o2, o3, tl, tw, its, kR, rfl, hX, hRn, e1, e2, c1, c2, c3, hf, hB, hy⟩ := hP
  k_extra "csn"
  replace F := fr_eta2 F e1 e2
  clear e1 e2
  k_steps
  exact hn _ _ _ _ (by assumption) (news_sub (by assumption) (by show Sub (cs3 L o3 _ o1 ((R, PySem.W.listOf its kR) :: (tl7 ++ tl))) _; k_extra "subz")) (.mk R B SP rows lb 1 ys o1 _ o3 (tl7 ++ tl) tw its kR rfl (grow_X hl7 hX) (grow_R hl7 hRn) rfl rfl rfl c1 (by assumption) c3 (hf.mono fun _ h => List.mem_append_right _ h) (List.mem_append_right _ hB) hy (hS.mono fun _ h => List.mem_append_left _ h) rfl)
noncomputable def isLeb : Option Row → Bool
  | some (.leb _ _ _) => true
  | _ => false
noncomputable def LebJ (lb : Option Nat) (i : Nat) (ys : List Value) : Prop := match lb with
  | none => ys = []
  | some q => (q < i → ∃ t, ys = [.int (q : Nat) t]) ∧ (i ≤ q → ys = [])
theorem isLeb_iff {rows : List Row} {lb : Option Nat} (h : LebIs rows lb) (i : Nat) : isLeb rows[i]? = true ↔ lb = some i := by
  rw [← h i]
  constructor
  · intro e
    cases hr : rows[i]? with
    | none => rw [hr] at e; cases e
    | some r =>
      rw [hr] at e
      cases r with
      | leb sg x y => exact ⟨sg, x, y, rfl⟩
      | _ => cases e
  · rintro ⟨sg, x, y, e⟩
    rw [e]; rfl
theorem lebJ_yes {lb : Option Nat} {i : Nat} {ys : List Value} {t : Tok} (h : lb = some i) (j : LebJ lb i ys) : LebJ lb (i + 1) (ys ++ [.int (i : Nat) t]) := by
  subst h
  refine ⟨fun _ => ⟨t, by rw [j.2 (Nat.le_refl _)]; rfl⟩, fun h => absurd h (Nat.not_le_of_lt (Nat.lt_succ_self _))⟩
theorem lebJ_no {lb : Option Nat} {i : Nat} {ys : List Value} (h : ¬ lb = some i) (j : LebJ lb i ys) : LebJ lb (i + 1) ys := by
  cases lb with
  | none => exact j
  | some q =>
    have hq : q ≠ i := fun e => h (by rw [e])
    exact ⟨fun h => j.1 (by omega), fun h => j.2 (by omega)⟩
theorem lebJ_end {rows : List Row} {lb : Option Nat} (h : LebIs rows lb) {ys : List Value} (j : LebJ lb rows.length ys) : LebL lb ys := by
  cases lb with
  | none => obtain rfl : ys = [] := j; exact .none
  | some q =>
    obtain ⟨sg, x, y, e⟩ := (h q).mpr rfl
    obtain ⟨t, rfl⟩ := j.1 (List.getElem?_eq_some_iff.mp e).1
    exact .some q t
theorem words58 : True := by
  k_with "call type:enumerate!" => (((rename StopMark => hsm9zq); clear hsm9zq; refine stop_in ?_))
  trivial
theorem st1 {w : World} : Stg w 1 (fun _ => LA1) LA2 := by
  refine stg_open (by k_is) rfl ?_
  k_extra "stg_in"
  obtain ⟨R, rows, lb, o1, o2, o3, tl, its, n, rfl, hX, hRn, e1, c1, c2, c3, hf⟩ := hP
  replace F := fr_eta F e1
  clear e1
  have hz := hf.hz
  have hit := hf.hit
  have hm' : (R, PySem.W.listOf its n) ∈ cs3 L o3 o2 o1 ((R, PySem.W.listOf its n) :: tl) := by k_mem
  refine ecp_ListComp (LebJ lb) (fun i => isLeb rows[i]?) rfl rfl ?iter (by with_unfolding_all rfl) (by with_unfolding_all rfl) (by decide) rfl (by decide) rfl rfl (by decide) (by decide) rfl rfl F N hm' (by rw [hz]; exact Nat.le_trans hf.hlen (by decide)) ?j0 ?jy ?jn ?turn ?done
  case iter =>
    intro Q hq
    have hsm : StopMark := trivial
    k_steps
    exact hq
  case j0 => cases lb <;> simp [LebJ]
  case jy => exact fun i ys t _ h j => lebJ_yes ((isLeb_iff hf.hlb i).mp h) j
  case jn => exact fun i ys _ h j => lebJ_no (fun e => by rw [(isLeb_iff hf.hlb i).mpr e] at h; cases h) j
  case done =>
    intro D' h' tk' ys F' N' l1 j
    rw [hz] at j
    exact hn _ _ _ _ F' (news_sub N' (by show Sub (cs3 L o3 o2 o1 ((R, PySem.W.listOf its n) :: (D', LCg.lst ys) :: tl)) _; k_extra "subz")) (.mk R D' rows lb ys o1 o2 o3 ((D', LCg.lst ys) :: tl) its n rfl (List.forall_mem_cons.mpr ⟨hX _ (.head _), List.forall_mem_cons.mpr ⟨l1 (L + 1 + 1 + 1, o3) (.head _), fun p hp => hX p (.tail _ hp)⟩⟩) (List.forall_mem_cons.mpr ⟨Nat.ne_of_gt (l1 (R, _) (.tail _ (.tail _ (.tail _ (.head _))))), hRn⟩) rfl rfl c1 c2 c3 (hf.mono fun _ h => .tail _ h) (.head _) (lebJ_end hf.hlb j))
  case turn =>
    intro i v C oC m₂ h2 tk2 Q' E' hv hno hxb F2 N2 hq
    have hi : i < rows.length := by rw [← hz]; exact (Array.getElem?_eq_some_iff.mp hv).1
    obtain ⟨r, hri⟩ : ∃ r, rows[i]? = some r := ⟨_, List.getElem?_eq_getElem hi⟩
    obtain ⟨a, ha, hra⟩ := hit i r hri
    obtain rfl : v = .ref a := Option.some.inj (hv.symm.trans ha)
    rw [hri] at hq
    cases hra
    all_goals (k_steps; exact hq _)
-- Z3
theorem setL_ok {v : Value} {l : List Value} : ∀ {q : Nat}, q < l.length → ki_setL l q v = some (l.set q v) := by
  induction l with
  | nil => exact fun h => nomatch h
  | cons x r ih =>
    intro q h
    cases q with
    | zero => rfl
    | succ q =>
      unfold ki_setL
      rw [ih (Nat.lt_of_succ_lt_succ h)]
      rfl
theorem l_setN {w : World} {A : Around} {E : Value → Shared → Prop} {s : Shared} {h₀ : Heap} {L R : Addr} {m : SMap} {led led' : Led} {its : Array Value} {n q : Nat} {t : Tok} {v : Value} {Q : Unit → Shared → Prop} (F : Fr h₀ L s.heap m) (N : News h₀ L s.heap led) (hq : q < its.size) (h10 : q ≤ 10000) (U : Upd R (PySem.W.listOf its n) (PySem.W.listOf (its.toList.set q v).toArray n) led led')
    (h : ∀ h', Fr h₀ L h' m → News h₀ L h' led' → Q () { s with heap := h' }) : wpAny (model PG w) A (setItem (.ref R) (.int (q : Nat) t) v) Q E s :=
  ki_set F N (by omega) (by omega) (by rw [Int.toNat_natCast]; exact setL_ok (by simpa using hq)) U h
theorem rowF_T {tl tl' : Led} {its : Array Value} {rows : List Row} {lb : Option Nat} {q x y : Nat} {sg : Bool} {T : Addr} (h : RowF tl its rows lb) (hs : Sub tl tl') (hq : rows[q]? = some (.leb sg x y)) (hT : RowAt tl' q T (.leb true x y)) : RowF tl' (its.toList.set q (.ref T)).toArray (lebT rows q x y) lb where
  hz := by rw [List.size_toArray, List.length_set, Array.length_toList, lebT_len]; exact h.hz
  hit := fun i r e => by
    rw [lebT_get hq] at e
    rw [List.getElem?_toArray, List.getElem?_set]
    by_cases hi : q = i
    · rw [if_pos hi] at e
      injection e with e
      subst e hi
      refine ⟨T, ?_, hT⟩
      rw [if_pos rfl, if_pos]
      rw [Array.length_toList, h.hz]
      exact (List.getElem?_eq_some_iff.mp hq).1
    · rw [if_neg hi] at e
      rw [if_neg hi]
      obtain ⟨a, h1, h2⟩ := h.hit i r e
      exact ⟨a, by rw [Array.getElem?_toList]; exact h1, h2.mono hs⟩
  hlen := by rw [lebT_len]; exact h.hlen
  hok := lebT_ok hq h.hok
  hlb := lebT_lebIs hq h.hlb
  hxy := lebT_xy hq h.hxy
theorem words59 : True := by
  k_with "subscriptTail Subscript Name Subscript Constant ref int" => ((k_here; k_dflt (refine t_item (by k_asm) (by k_mem) (by decide) (by decide) (by exact rfl) ?_ (by with_unfolding_all rfl))))
  k_with "updz" => (first | exact Upd.head (by assumption) | (apply Upd.tail; (focus (k_ne)); (focus (k_extra "updz"))))
  k_with "setItem ref int!" => ((k_here; k_dflt (refine l_setN (by k_asm) (by k_asm) (by assumption) (by omega) (by k_extra "updz") ?_; intro h8 F8 N8)))
  k_with "call ref!" => ((k_here; (with_reducible show wpAny _ _ (call (Value.ref 646) _) _ _ _); k_dflt (refine use_int c (by assumption) (by assumption) hd9 hu9 (need_ct (rows := rows) (W := W) (hra.mono (by show Sub _ _; k_extra "subz")) (hS.mono (by show Sub _ _; k_extra "subz")) hf.hlen hxl hyl) rfl rfl nofun ?_); intro t7 h7 tk7 F7 N7))
  trivial
theorem cs_neR {L R : Addr} {oR : Obj} {tl : Led} (hX : ∀ p ∈ (R, oR) :: tl, @LT.lt Nat _ (L + 1 + 1 + 1) p.1) : (L + 1 + 1 + 1 ≠ R) ∧ (L + 1 + 1 ≠ R) ∧ (L + 1 ≠ R) :=
  have h : @LT.lt Nat _ (L + 1 + 1 + 1) R := hX _ (.head _)
  ⟨Nat.ne_of_lt h, Nat.ne_of_lt (Nat.lt_of_succ_lt h), Nat.ne_of_lt (Nat.lt_of_succ_lt (Nat.lt_of_succ_lt h))⟩
theorem st4 {w : World} : Stg w 4 (fun _ => LB fun _ _ W => W = 1) (LB fun rows _ W => W = 1 ∧ NoNeg rows) := by
  refine stg_open (by k_is) rfl ?_
  k_extra "stg_in"
  obtain ⟨R, B, SP, rows, lb, W, ys, o1, o2, o3, tl, tw, its, kR, rfl, hX, hRn, e1, e2, e3, c1, c2, c3, hf, hB, hy, hS, rfl⟩ := hP
  k_extra "csn"
  replace F := fr_eta3 F e1 e2 e3
  clear e1 e2 e3
  cases hy with
  | none =>
    have hB' : (B, PySem.W.listOf #[] 0) ∈ tl := hB
    k_steps
    exact hn _ _ _ _ (by assumption) (news_sub (by assumption) (by show Sub (cs3 L o3 o2 o1 ((R, PySem.W.listOf its kR) :: tl)) _; k_extra "subz")) (.mk R B SP rows none 1 [] o1 o2 o3 tl tw its kR rfl hX hRn rfl rfl rfl c1 c2 c3 hf hB .none hS ⟨rfl, noNeg_none hf.hlb⟩)
  | some q t =>
    have hB' : (B, PySem.W.listOf #[.int (q : Nat) t] 1) ∈ tl := hB
    obtain ⟨sg, x, y, hq⟩ := (hf.hlb q).mpr rfl
    obtain ⟨a, ha, hra⟩ := hf.hit q _ hq
    obtain ⟨hxl, hyl⟩ := hf.hxy q sg x y hq
    have hql : q < its.size := by rw [hf.hz]; exact (List.getElem?_eq_some_iff.mp hq).1
    have hq10 : q ≤ 10000 := by have := hf.hlen; have := hf.hz; omega
    have hra' := hra
    cases hra' with
    | leb hm =>
    generalize hW : (1 : Int) = W at *
    obtain ⟨r1, r2, r3⟩ := cs_neR hX
    k_steps
    · subst hW
      refine hn _ _ _ _ (by assumption) (news_sub N8 (sub_splitC (.tail _ (.tail _ (.head _))) (sub_splitC (.tail _ (.tail _ (.tail _ (.head _)))) (sub_splitC (.tail _ (.tail _ (.tail _ (.tail _ (.head _))))) (sub_splitC (.tail _ (.tail _ (.tail _ (.tail _ (.tail _ (.head _)))))) (sub_splitC (.head _) (sub_skip (sub_skip (sub_skip (sub_skip (sub_skip (sub_skip sub_id))))))))))))
        (.mk R B SP (lebT rows q x y) (some q) 1 _ o1 o2 o3 (_ :: tl) tw _ kR rfl ?_ ?_ rfl rfl ?_ c1 c2 c3 (rowF_T hf (sub_skip sub_id) hq (.leb (.head _))) (.tail _ hB) (.some q t) ?_ ⟨rfl, noNeg_T hf.hlb hq⟩)
      · exact List.forall_mem_cons.mpr ⟨hX (R, PySem.W.listOf its kR) (.head _), List.forall_mem_cons.mpr ⟨lt_of_led (by assumption) (by k_mem), fun p hp => hX p (.tail _ hp)⟩⟩
      · exact List.forall_mem_cons.mpr ⟨by k_ne, hRn⟩
      · rw [lebT_okB hq, lebT_len]; rfl
      · rw [lebT_len, lebT_offs hq]; exact hS.mono fun _ h => .tail _ h
    · rename_i h9
      subst hW
      exact hn _ _ _ _ (by assumption) (news_sub (by assumption) (by show Sub (cs3 L o3 o2 o1 ((R, PySem.W.listOf its kR) :: tl)) _; k_extra "subz")) (.mk R B SP rows (some q) 1 _ o1 o2 o3 tl tw its kR rfl hX hRn rfl rfl rfl c1 c2 c3 hf hB (.some q t) hS ⟨rfl, noNeg_some hf.hlb hq h9⟩)
-- Z4
theorem words60 : True := by
  k_with "call ref!" => ((k_here; (with_reducible show wpAny _ _ (call (Value.ref 646) _) _ _ _); k_dflt (refine use_int c (by assumption) (by assumption) hd9 hu9 (need_ct (rows := rows) (W := W) (hra.mono (by show Sub _ _; k_extra "subz")) (hS.mono (by show Sub _ _; k_extra "subz")) hf.hlen hxl hyl) rfl rfl nofun ?_); intro t7 h7 tk7 F7 N7))
  k_with "call ref!" => ((k_here; (with_reducible show wpAny _ _ (call (Value.ref 639) _) _ _ _); k_dflt (refine use_ref c (by assumption) (by assumption) hd9 hu9 (spots_ct (hf.at (by k_mem) (by k_extra "subz")) hf.hlen hf.hok (by decide)) rfl rfl nofun ?_); rintro c7 tl7 h7 tk7 F7 N7 hl7 ⟨SP2, n7, hm7, hS2⟩))
  trivial
theorem fin_two {rows : List Row} {q x y : Nat} {sg : Bool} (hq : rows[q]? = some (.leb sg x y)) (hn : NoNeg rows) (h : lawNeed sg (LebV rows 1 x y) > 1) : finN rows (some q) 1 = 2 := by
  rw [need_of (fun e => hn q x y (e ▸ hq))] at h
  rw [finN_some hq]
  rcases needOf_cases sg (LebV rows 1 x y) with e | e <;> rw [e] at h ⊢
  · exact absurd h (by decide)
  · decide
theorem fin_one {rows : List Row} {q x y : Nat} {sg : Bool} (hq : rows[q]? = some (.leb sg x y)) (hn : NoNeg rows) (h : ¬ lawNeed sg (LebV rows 1 x y) > 1) : finN rows (some q) 1 = 1 := by
  rw [need_of (fun e => hn q x y (e ▸ hq))] at h
  rw [finN_some hq]
  rcases needOf_cases sg (LebV rows 1 x y) with e | e <;> rw [e] at h ⊢
  · decide
  · exact absurd (by decide) h
theorem st5 {w : World} : Stg w 5 (fun _ => LB fun rows _ W => W = 1 ∧ NoNeg rows) (LB fun rows lb W => W = finN rows lb 1 ∧ NoNeg rows) := by
  refine stg_open (by k_is) rfl ?_
  k_extra "stg_in"
  obtain ⟨R, B, SP, rows, lb, W, ys, o1, o2, o3, tl, tw, its, kR, rfl, hX, hRn, e1, e2, e3, c1, c2, c3, hf, hB, hy, hS, rfl, hnn⟩ := hP
  k_extra "csn"
  replace F := fr_eta3 F e1 e2 e3
  clear e1 e2 e3
  cases hy with
  | none =>
    have hB' : (B, PySem.W.listOf #[] 0) ∈ tl := hB
    k_steps
    exact hn _ _ _ _ (by assumption) (news_sub (by assumption) (by show Sub (cs3 L o3 o2 o1 ((R, PySem.W.listOf its kR) :: tl)) _; k_extra "subz")) (.mk R B SP rows none 1 [] o1 o2 o3 tl tw its kR rfl hX hRn rfl rfl rfl c1 c2 c3 hf hB .none hS ⟨rfl, hnn⟩)
  | some q t =>
    have hB' : (B, PySem.W.listOf #[.int (q : Nat) t] 1) ∈ tl := hB
    obtain ⟨sg, x, y, hq⟩ := (hf.hlb q).mpr rfl
    obtain ⟨a, ha, hra⟩ := hf.hit q _ hq
    obtain ⟨hxl, hyl⟩ := hf.hxy q sg x y hq
    have hq10 : q ≤ 10000 := by have := (List.getElem?_eq_some_iff.mp hq).1; have := hf.hlen; omega
    generalize hW : (1 : Int) = W at *
    k_steps
    · subst hW
      have hl8 := lt_sub hl7 (sub_skip sub_id)
      exact hn _ _ _ _ (by assumption) (news_sub (by assumption) (by show Sub (cs3 L o3 _ _ ((R, PySem.W.listOf its kR) :: (tl7 ++ tl))) _; k_extra "subz")) (.mk R B SP2 rows (some q) 2 _ _ _ o3 (tl7 ++ tl) _ its kR rfl (grow_X hl8 hX) (grow_R hl8 hRn) rfl rfl rfl (by assumption) (by assumption) c3 (hf.mono fun _ h => List.mem_append_right _ h) (List.mem_append_right _ hB) (.some q t) (hS2.mono fun _ h => List.mem_append_left _ h) ⟨(fin_two hq hnn (by assumption)).symm, hnn⟩)
    · subst hW
      exact hn _ _ _ _ (by assumption) (news_sub (by assumption) (by show Sub (cs3 L o3 o2 o1 ((R, PySem.W.listOf its kR) :: tl)) _; k_extra "subz")) (.mk R B SP rows (some q) 1 _ o1 o2 o3 tl tw its kR rfl hX hRn rfl rfl rfl c1 c2 c3 hf hB (.some q t) hS ⟨(fin_one hq hnn (by assumption)).symm, hnn⟩)
-- Z5
inductive LC (w : World) (K : List Row → Option Nat → Led → PA → Obj → Prop) (L : Addr) (m : SMap) (led : Led) : Prop
  | mk (R B SP : Addr) (rows : List Row) (lb : Option Nat) (ys : List Value) (o1 o2 o3 : Obj) (tl : Led) (tw : Tok) (its : Array Value) (kR : Nat) (p : PA) (el : led = cs3 L o3 o2 o1 ((R, PySem.W.listOf its kR) :: tl)) (hX : ∀ p ∈ (R, PySem.W.listOf its kR) :: tl, @LT.lt Nat _ (L + 1 + 1 + 1) p.1)
    (e1 : m (Str.ofString "rows") = some (.ref R)) (e2 : m (Str.ofString "lebs") = some (.ref B)) (e3 : m (Str.ofString "is_right") = some (.bool (okB rows (finN rows lb 1) rows.length))) (e4 : m (Str.ofString "program") = some (.ref p.P))
    (c1 : o1.data = .cell (some (.int (finN rows lb 1) tw))) (c2 : o2.data = .cell (some (.ref SP))) (hf : RowF tl its rows lb) (hB : (B, LCg.lst ys) ∈ tl) (hy : LebL lb ys) (hS : IntsAt tl SP (offs rows (finN rows lb 1) (rows.length + 1))) (hnn : NoNeg rows) (hpr : ProgAt w tl p rows) (hK : K rows lb tl p o3)
theorem words61 : True := by
  k_with "call ref!" => ((k_here; (with_reducible show wpAny _ _ (call (Value.ref 625) _) _ _ _); k_dflt (refine ct_use c (by assumption) (by assumption) hd9 hu9 (program_ct (hf.at (by k_mem) (by k_extra "subz")) hf.hlen hf.hok) rfl rfl nofun ?_); rintro r7 tl7 h7 tk7 F7 N7 hl7 ⟨p7, rfl, hp7⟩))
  trivial
theorem st6 {w : World} : Stg w 6 (fun _ => LB fun rows lb W => W = finN rows lb 1 ∧ NoNeg rows) (LC w fun _ _ _ _ o3 => o3.data = .cell none) := by
  refine stg_open (by k_is) rfl ?_
  k_extra "stg_in"
  obtain ⟨R, B, SP, rows, lb, W, ys, o1, o2, o3, tl, tw, its, kR, rfl, hX, hRn, e1, e2, e3, c1, c2, c3, hf, hB, hy, hS, rfl, hnn⟩ := hP
  replace F := fr_eta3 F e1 e2 e3
  clear e1 e2 e3
  k_steps
  exact hn _ _ _ _ (by assumption) (news_sub (by assumption) (by show Sub (cs3 L o3 o2 o1 ((R, PySem.W.listOf its kR) :: (tl7 ++ tl))) _; k_extra "subz")) (.mk R B SP rows lb ys o1 o2 o3 (tl7 ++ tl) tw its kR p7 rfl (grow_X hl7 hX) rfl rfl rfl rfl c1 c2 (hf.mono fun _ h => List.mem_append_right _ h) (List.mem_append_right _ hB) hy (hS.mono fun _ h => List.mem_append_right _ h) hnn (hp7.mono fun _ h => List.mem_append_left _ h) c3)
theorem use_ct0 {w : World} {nd nu : Nat} {f : Addr} {args : List Value} {news : Led} {Post : Led → Value → Prop}
    {A A₀ : Around} {env : Env} {g : Heap} {L : Addr} {mg mb : SMap} {mean : ExcName → Option Value} {m : SMap} {h : Heap} {G : Array GenState} {D : Drawn} {tk : Nat} {O : OsState} {Q E : Value → Shared → Prop} {nd' nu' : Nat}
    (c : Amb w A A₀ env [] g g L mg mb mean) (F : Fr g L h m) (N : News g L h news) (hd9 : A.depth + nd' < recursionLimit) (hu9 : A.units + nu' < cLine) (C : Ct0 w nd nu f args news Post) (h1 : Nat.ble nd nd' = true) (h2 : Nat.ble nu nu' = true)
    (ret : ∀ r tl h' tk', Fr g L h' m → News g L h' (tl ++ news) → Lt news tl → Post tl r → Q r ⟨h', G, D, tk', O⟩) :
    wpAny (model PG w) A (call (.ref f) args) Q E ⟨h, G, D, tk, O⟩ :=
  C A A₀ env g L mg mb mean m h G D tk O Q E c F N (Nat.lt_of_le_of_lt (Nat.add_le_add_left (Nat.le_of_ble_eq_true h1) _) hd9) (Nat.lt_of_le_of_lt (Nat.add_le_add_left (Nat.le_of_ble_eq_true h2) _) hu9) ret
theorem words62 : True := by
  k_with "call ref!" => ((k_here; (with_reducible show wpAny _ _ (call (Value.ref 653) _) _ _ _); k_dflt (refine use_ct0 c (by assumption) (by assumption) hd9 hu9 (law_laid_ct (hpr.mono (by show Sub _ _; k_extra "subz")) hf.hlen hf.hok hf.hlb (lebOk_1 hf.hok hf.hxy hnn) (lebOk_fin hf.hlb hf.hok hf.hxy hnn)) rfl rfl ?_); intro r7 tl7 h7 tk7 F7 N7 hl7 hP7))
  trivial
inductive LK7 (w : World) (rows : List Row) (lb : Option Nat) (tl : Led) (p : PA) (o3 : Obj) : Prop
  | mk (r : Value) (c3 : o3.data = .cell (some r)) (hr : LaidO w rows lb (finN rows lb 1) tl r)
theorem laidO_mono {w : World} {rows : List Row} {lb : Option Nat} {W : Int} {n n' : Led} {r : Value} (s : ∀ p ∈ n, p ∈ n') (h : LaidO w rows lb W n r) : LaidO w rows lb W n' r := by
  cases h with
  | ok hf q e h => exact .ok hf q e (h.mono s)
  | no hf e => exact .no hf e
theorem st7 {w : World} : Stg w 7 (fun _ => LC w fun _ _ _ _ o3 => o3.data = .cell none) (LC w (LK7 w)) := by
  refine stg_open (by k_is) rfl ?_
  k_extra "stg_in"
  obtain ⟨R, B, SP, rows, lb, ys, o1, o2, o3, tl, tw, its, kR, p, rfl, hX, e1, e2, e3, e4, c1, c2, hf, hB, hy, hS, hnn, hpr, c3⟩ := hP
  k_extra "csn"
  replace F := fr_eta4 F e1 e2 e3 e4
  clear e1 e2 e3 e4
  k_steps
  exact hn _ _ _ _ (by assumption) (news_sub (by assumption) (by show Sub (cs3 L _ o2 o1 ((R, PySem.W.listOf its kR) :: (tl7 ++ tl))) _; k_extra "subz")) (.mk R B SP rows lb ys o1 o2 _ (tl7 ++ tl) tw its kR p rfl (grow_X hl7 hX) rfl rfl rfl rfl c1 c2 (hf.mono fun _ h => List.mem_append_right _ h) (List.mem_append_right _ hB) hy (hS.mono fun _ h => List.mem_append_right _ h) hnn (hpr.mono fun _ h => List.mem_append_right _ h) (.mk r7 (by assumption) (laidO_mono (fun _ h => List.mem_append_left _ h) hP7)))
inductive LK8 (w : World) (rows : List Row) (lb : Option Nat) (tl : Led) (p : PA) (o3 : Obj) : Prop
  | mk (q : LA) (c3 : o3.data = .cell (some (.ref q.y))) (hq : LayAt w tl q rows lb (finN rows lb 1)) (hfine : Fine rows (finN rows lb 1) true rows.length)
theorem fin_pos {rows : List Row} {lb : Option Nat} : 0 ≤ finN rows lb 1 := by rcases finN_cases (rows := rows) (lb := lb) with h | h <;> rw [h] <;> decide
theorem st8 {w : World} : Stg w 8 (fun _ => LC w (LK7 w)) (LC w (LK8 w)) := by
  refine stg_open (by k_is) rfl ?_
  k_extra "stg_in"
  obtain ⟨R, B, SP, rows, lb, ys, o1, o2, o3, tl, tw, its, kR, p, rfl, hX, e1, e2, e3, e4, c1, c2, hf, hB, hy, hS, hnn, hpr, r, c3, hr7⟩ := hP
  replace F := fr_eta4 F e1 e2 e3 e4
  clear e1 e2 e3 e4
  have hiff := okB_fine hf.hok (fin_pos (rows := rows) (lb := lb)) rows.length
  cases hr7 with
  | ok hfine q e hq =>
    subst e
    have hb := hiff.mpr hfine
    rw [hb] at F
    k_steps
    exact hn _ _ _ _ (by assumption) (by assumption) (.mk R B SP rows lb ys o1 o2 o3 tl tw its kR p rfl hX rfl rfl (by rw [hb]; rfl) rfl c1 c2 hf hB hy hS hnn hpr (.mk q c3 hq hfine))
  | no hfine e =>
    subst e
    have hb : okB rows (finN rows lb 1) rows.length = false := by
      cases h : okB rows (finN rows lb 1) rows.length
      · rfl
      · exact absurd (hiff.mp h) hfine
    rw [hb] at F
    k_steps
    exact hr _ _ _ (by assumption)
-- Z6
theorem rd_ints {led : Led} {a : Addr} {os : List Int} (h : IntsAt led a os) : RdL led (.ref a) (.list (os.map PyData.int)) := by
  obtain ⟨its, n, hm, hz, hit⟩ := h
  refine rd_list hm ?_
  have key : ∀ (vs : List Value) (ns : List Int), vs.length = ns.length → (∀ (j : Nat) v, ns[j]? = some v → ∃ t, vs[j]? = some (Value.int v t)) → RdLs led vs (ns.map PyData.int) := by
    intro vs
    induction vs with
    | nil => intro ns h _; cases ns with
      | nil => exact rds_nil
      | cons _ _ => cases h
    | cons v vs ih => intro ns h k; cases ns with
      | nil => cases h
      | cons x ns =>
        obtain ⟨t, e⟩ := k 0 x rfl
        obtain rfl := Option.some.inj e
        exact rds_cons rd_int (ih ns (Nat.succ.inj h) fun j v hv => k (j + 1) v hv)
  exact key its.toList os (by simpa using hz) fun j v hv => by
    obtain ⟨t, e⟩ := hit j v hv
    exact ⟨t, by simpa using e⟩
section
open LCg
variable {w : World} {A : Around} {h₀ : Heap} {L : Addr} {m : SMap} {env : Env} {elt : Expr} {x : Str} {scope : Scope} {cl : List (Str × Addr)} {hs : Heap} {G : Array GenState} {D : Drawn} {t0 : Nat} {O : OsState} {S : Led → Prop} {P : Nat → Value → Prop} {Fin : List Value → Led → Prop}
theorem comp_inv (J : Nat → List Value → Led → Prop) (n : Nat)
    (turn : ∀ i v ys nw I oI C oC DD m₂ h tk (Y : Value → Shared → Prop) (E' : Value → Shared → Prop), i < n → P i v → NsObj oC m₂ → m₂ x = some v → J i ys nw → Fr h₀ L h m → News h₀ L h ((I, oI) :: (C, oC) :: (DD, lst ys) :: nw) → Off3 I C DD nw → ((@Ne Nat I C) ∧ (@Ne Nat I DD) ∧ (@Ne Nat C DD)) →
      (∀ y h' tk' nw', Fr h₀ L h' m → News h₀ L h' ((I, oI) :: (C, oC) :: (DD, lst ys) :: nw') → Off3 I C DD nw' → S nw' → J (i + 1) (ys ++ [y]) nw' → Y y ⟨h', G, D, tk', O⟩) →
      wpAny (model PG w) A (eval elt (compEnvC scope cl C env)) Y E' ⟨h, G, D, tk, O⟩)
    (done : ∀ ys nw, J n ys nw → Fin ys nw) : ∀ k i ys nw, i + k = n → J i ys nw → CompRest PG w A h₀ L m env elt x scope cl ⟨hs, G, D, t0, O⟩ S P Fin k i ys nw := by
  intro k
  induction k with
  | zero =>
    intro i ys nw e j
    obtain rfl : i = n := e
    exact done ys nw j
  | succ k ih =>
    intro i ys nw e j
    refine CompRest.succ fun v I oI C oC DD m₂ h tk E' hp hn hx F N off ne => ?_
    refine turn i v ys nw I oI C oC DD m₂ h tk _ E' (by omega) hp hn hx j F N off ne (fun y h' tk' nw' F' N' o' s' j' => ?_)
    exact CompEnd.intro F' N' nw' (fun p hp => hp) o' s' (ih (i + 1) (ys ++ [y]) nw' (by omega) j')
end
theorem at_C {w : World} {A : Around} {E : Value → Shared → Prop} {g h : Heap} {G : Array GenState} {D : Drawn} {tk : Nat} {O : OsState} {L : Addr} {m : SMap} {news : Led} {cn : Str} {cs : Scope} {a ca : Addr} {ccd : Value} {oc : Obj}
    {x attr : Str} {xp pos : Pos} {o d C : Addr} {es : List DictEntry} {n : Nat} {v : Value} {Q : Value → Shared → Prop} (F : Fr g L h m) (X : (Mine.hd.heap_1_39 w.params).In g) (N : News g L h news) (hl0 : (cellsFrom (L + 1) cs.names []).lookup x = some ca) (hm : (ca, oc) ∈ news) (hv : oc.data = .cell (some (.ref o)))
    (h1 : (o, instObj C d) ∈ news) (h2 : (d, dictOf es n) ∈ news) (hl : getL attr es = some (some v)) (hhd : handedIn v = true) (hc : okAt (Mine.hd.heap_1_39 w.params) C attr = true) (hk : cs.kind = .function) (hx : cs.names.lookup x = some .cell) (hn : (x == ("__debug__" : Str)) = false)
    (k : Q v ⟨h, G, D, tk + 1, O⟩)
    (he : eval (.Attribute (.Name x xp) attr pos) (envOfC cn cs L a ccd) = (do
      let o ← eval (.Name x xp) (envOfC cn cs L a ccd)
      standAt pos.atName
      let r ← holding [o] (getAttr o attr true)
      letTemporaryGo (.Name x xp) o r
      pure r) := by with_unfolding_all rfl) : wpAny (model PG w) A (eval (.Attribute (.Name x xp) attr pos) (envOfC cn cs L a ccd)) Q E ⟨h, G, D, tk, O⟩ := by
  obtain ⟨d1, d2, av, d3, d4⟩ := okAt_spec hc
  refine Attribute_Name_ ?_ he
  refine nameX_C (s := ⟨h, G, D, tk, O⟩) N hl0 hm hv ?_ hk hx hn
  exact get_own (s := ⟨h, G, D, tk, O⟩) F X ⟨News.get N h1, rfl, rfl, News.get N h2⟩ d1 d2 d3 d4 hl hhd k
theorem words63 : True := by
  k_with "eval Attribute Name!" => ((k_here; (with_reducible show wpAny _ _ (eval (Expr.Attribute (Expr.Name _ _) _ _) (envOfC _ _ _ _ _)) _ _ _); k_dflt (refine at_C (by with_reducible assumption) (by with_reducible assumption) (by with_reducible assumption) (by rfl) (by k_mem) (by with_reducible assumption) (by k_mem) (by k_mem) (by k_get) (by k_handed) (by kernel_rfl) (by rfl) (by rfl) (by decide) ?_)))
  k_with "eval ListComp!" => ((k_here; k_dflt (refine LCg.ListComp_U (F₀ := by assumption) (by with_unfolding_all rfl) (by decide) (by rfl) (by decide) (by rfl) ?_)))
  k_with "call builtin:len!" => ((k_here; (with_reducible show wpAny _ _ (call (Value.builtin "len") [Value.ref _]) _ _ _); k_dflt (refine len_list (News.isList (by k_asm) (by k_mem)) (by assumption) ?_)))
  k_with "CompSrc!" => (((rename StopMark => hsm9zq); clear hsm9zq; refine stop_in ?_))
  k_with "compareOp NotEq ref ref!" => (((rename StopMark => hsm9zq); clear hsm9zq; refine stop_in ?_))
  k_with "ct_room64" => (exact Nat.lt_of_le_of_lt (Nat.add_le_add_left (Nat.le_of_ble_eq_true rfl : 64 ≤ _) _) hu9)
  k_with "subscriptTail Name UnaryOp ref int!" => ((k_here; k_dflt (refine l_last (by k_asm) (by k_mem) (by assumption) (by assumption) ?_)))
  trivial
/-- a list that is being filled: its i items are f 0 .. f (i - 1) -/
noncomputable def IntsUp (f : Nat → Int) (i : Nat) (ys : List Value) : Prop := ys.length = i ∧ ∀ j, j < i → ∃ t, ys[j]? = some (.int (f j) t)
theorem intsUp_0 {f : Nat → Int} : IntsUp f 0 [] := ⟨rfl, fun j h => absurd h (Nat.not_lt_zero _)⟩
theorem intsUp_snoc {f : Nat → Int} {i : Nat} {ys : List Value} {t : Tok} (h : IntsUp f i ys) : IntsUp f (i + 1) (ys ++ [.int (f i) t]) := by
  refine ⟨by rw [List.length_append, h.1]; rfl, fun j hj => ?_⟩
  rcases Nat.lt_or_ge j i with hji | hji
  · rw [List.getElem?_append_left (by rw [h.1]; exact hji)]; exact h.2 j hji
  · obtain rfl : j = i := by omega
    rw [List.getElem?_append_right (by rw [h.1]; exact Nat.le_refl _), h.1, Nat.sub_self]
    exact ⟨t, rfl⟩
theorem intsUp_offs {led : Led} {a : Addr} {rows : List Row} {W : Int} {n : Nat} {ys : List Value} (hm : (a, LCg.lst ys) ∈ led) (h : IntsUp (posn rows W) n ys) : IntsAt led a (offs rows W n) :=
  ⟨ys.toArray, ys.length, hm, by simp [offs, h.1], fun j v hv => by
    have hj : j < n := by have := (List.getElem?_eq_some_iff.mp hv).1; simpa [offs] using this
    rw [offs_get hj] at hv
    obtain rfl := Option.some.inj hv
    simpa using h.2 j hj⟩
theorem words64 : True := by
  k_with "call ref!" => ((k_here; (with_reducible show wpAny _ _ (call (Value.ref 208) _) _ _ _); k_dflt (refine use_int c (by assumption) (by assumption) hd9 hu9 (place_text_ct (hq.mono (by show Sub _ _; k_extra "subz")) (by assumption)) rfl rfl nofun ?_); intro t7 h7 tk7 F7 N7))
  trivial
theorem st9 {w : World} : Stg w 9 (fun _ => LC w (LK8 w)) (LC w (LK8 w)) := by
  refine stg_open (by k_is) rfl ?_
  k_extra "stg_in"
  obtain ⟨R, B, SP, rows, lb, ys, o1, o2, o3, tl, tw, its, kR, p, rfl, hX, e1, e2, e3, e4, c1, c2, hf, hB, hy, hS, hnn, hpr, q, c3, hq, hfine⟩ := hP
  replace F := fr_eta4 F e1 e2 e3 e4
  clear e1 e2 e3 e4
  have hz := hf.hz
  have hz63 : (its.size : Int) < 2 ^ 63 := by have := hf.hlen; omega
  obtain ⟨g1, g2⟩ := rng_1 (n := its.size) (by rw [hz]; exact hf.hlen)
  have hy1 := hq.hy
  obtain ⟨_, _, _, hyd⟩ := hq.hd
  have hsm : StopMark := trivial
  k_steps
  unfold Stop
  dsimp only
  refine LCg.CompSrc.range rfl (by assumption) (by assumption) (by assumption) g1 g2 (by rw [hz]; exact Nat.le_trans (Nat.succ_le_succ hf.hlen) (by decide)) ?_
  intro g9
  dsimp only
  refine comp_inv (fun i ys nw => nw = cs3 L o3 o2 o1 ((R, PySem.W.listOf its kR) :: tl) ∧ IntsUp (posn rows (finN rows lb 1)) i ys) (its.size + 1) ?turn ?done _ 0 [] _ (Nat.zero_add _) ⟨rfl, intsUp_0⟩
  case turn =>
    rintro i v ys nw I oI C oC DD m₂ h2 tk2 Y E2 hi ⟨t, rfl⟩ hno hxr ⟨rfl, hup⟩ F2 N2 off2 ne2 hY
    have hi' : i ≤ rows.length := by omega
    rw [Int.zero_add] at hxr
    k_steps
    exact hY _ _ _ _ F7 N7 off2 trivial ⟨rfl, intsUp_snoc hup⟩
  case done =>
    rintro ys nw ⟨rfl, hup⟩
    unfold LCg.FinE
    intro DD h2 tk2 F2 N2 off2
    have hsm : StopMark := trivial
    k_steps
    unfold Stop
    have hsh := ke_shaped_ints (offs rows (finN rows lb 1) (rows.length + 1))
    rw [hz] at hup
    dsimp only
    refine rd_ne (by k_extra "ct_room64") N2 (rd_ints (intsUp_offs (.head _) hup)) (rd_ints (hS.mono (by show Sub _ _; k_extra "subz"))) hsh ?_
    obtain ⟨sits, sn, hsm1, hsm2, hsm3⟩ := hS
    obtain ⟨ts, hsl⟩ := hsm3 rows.length _ (offs_get (Nat.lt_succ_self _))
    have hsz1 : sits.size = rows.length + 1 := by rw [hsm2]; simp [offs]
    have hqL := hq.hL
    obtain ⟨u1, u2, hkL⟩ := hq.kL
    obtain ⟨xl, x1, x2, x3⟩ := ky_of_str hkL
    have hsm : StopMark := trivial
    k_steps
    unfold Stop
    dsimp only
    rename_i D3 _ _ _ _ l3 lo3 _ _ _ F3 N3 hd3 _
    obtain ⟨yl, y1, y2, y3⟩ := ky_of_str hd3
    obtain ⟨p1, p2⟩ := kv_two x3
    obtain ⟨p3, p4⟩ := kv_two y3
    obtain ⟨s1, s2⟩ := kv_same p1 p3 (p2.trans p4.symm)
    refine ky_ne (by k_extra "ct_room") N3 (by k_mem) (.head _) hq.lL lo3 x1 y1 (x2 _) (y2 _) s1 s2 ?_
    k_steps
    exact hn _ _ _ _ F3 (news_sub N3 (by show Sub (cs3 L o3 o2 o1 ((R, PySem.W.listOf its kR) :: tl)) _; k_extra "subz")) (.mk R B SP rows lb _ o1 o2 o3 tl tw its kR p rfl hX rfl rfl rfl rfl c1 c2 hf hB hy ⟨sits, sn, hsm1, hsm2, hsm3⟩ hnn hpr (.mk q c3 hq hfine))
-- Z7
theorem words65 : True := by
  k_with "call ref!" => ((k_here; (with_reducible show wpAny _ _ (call (Value.ref 208) _) _ _ _); k_dflt (refine use_int c (by assumption) (by assumption) hd9 hu9 (place_data_ct (hq.mono (by show Sub _ _; k_extra "subz"))) rfl rfl nofun ?_); intro t7 h7 tk7 F7 N7))
  k_with "call type:dict!" => (((rename StopMark => hsm9zq); clear hsm9zq; refine stop_in ?_))
  trivial
/-- what the pairs of the widths' dict are -/
inductive WidJ (led : Led) (W : Int) (tw : Tok) : List Value → List Value → Led → Prop
  | one {q : Nat} {t : Tok} (a K : Addr) (u n1 n2 : Nat) : WidJ led W tw [.int (q : Nat) t] [.ref a] ((a, tupObj #[.ref K, .int W tw] n1) :: (K, tupObj #[.str (Str.ofString ".text") u, .int (q : Nat) t] n2) :: led)
inductive WKey (w : World) (rows : List Row) (lb : Option Nat) (zs : List Value) (led nw base : Led) : Prop
  | mk (xl : KL) (x1 : xl.length = zs.toArray.size) (x2 : ∀ (i : Nat) (x : KY × Value × Value), xl[i]? = some x → ∃ a n, zs.toArray[i]? = some (.ref a) ∧ (a, tupObj #[x.2.1, x.2.2] n) ∈ led) (x3 : KyKs w led xl) (x4 : (xl.map (·.1)).Nodup) (x5 : ∀ x ∈ xl, ∃ i t, x.2.2 = Value.int i t)
    (x6 : xl.map (fun x => (x.1, intData x.2.2)) = (specW lb (finN rows lb 1)).map (fun y => ((.inr [.inl y.1, .inr (y.2.1 : Int)] : KY), PyData.int y.2.2))) (x7 : Sub base nw) (hsz : zs.toArray.size ≤ 1000)
theorem wkey {w : World} {rows : List Row} {lb : Option Nat} {ys ys0 zs : List Value} {nw base : Led} {DD : Addr} {tw : Tok} (hy : LebL lb ys) (hj0 : ys.toArray.size = 0 → zs = [] ∧ nw = base) (hj1 : ys.toArray.size = 1 → ys0 = ys ∧ WidJ base (finN rows lb 1) tw ys0 zs nw) :
    WKey w rows lb zs ((DD, LCg.lst zs) :: nw) nw base := by
  cases hy with
  | none =>
    obtain ⟨rfl, rfl⟩ := hj0 rfl
    exact ⟨[], rfl, fun i x h => by simp at h, List.forall_mem_nil _, List.nodup_nil, List.forall_mem_nil _, rfl, sub_id, Nat.zero_le _⟩
  | some k t =>
    obtain ⟨rfl, hw⟩ := hj1 rfl
    cases hw with
    | one a K u n1 n2 =>
      refine ⟨[(.inr [.inl (Str.ofString ".text"), .inr (k : Int)], .ref K, .int (finN rows (some k) 1) tw)], rfl, fun i x h => ?_, ?_, List.pairwise_singleton _ _, ?_, rfl, sub_skip (sub_skip sub_id), Nat.le_of_ble_eq_true rfl⟩
      · match i, h with
        | 0, h =>
          obtain rfl := Option.some.inj h
          exact ⟨a, n1, rfl, .tail _ (.head _)⟩
      · intro x hx
        rw [List.mem_singleton.mp hx]
        exact kyk_si (.tail _ (.tail _ (.head _)))
      · intro x hx
        rw [List.mem_singleton.mp hx]
        exact ⟨_, _, rfl⟩
theorem st10 {w : World} : Stg w 10 (fun _ => LC w (LK8 w)) (LC w (LK8 w)) := by
  refine stg_open (by k_is) rfl ?_
  k_extra "stg_in"
  obtain ⟨R, B, SP, rows, lb, ys, o1, o2, o3, tl, tw, its, kR, p, rfl, hX, e1, e2, e3, e4, c1, c2, hf, hB, hy, hS, hnn, hpr, q, c3, hq, hfine⟩ := hP
  replace F := fr_eta4 F e1 e2 e3 e4
  clear e1 e2 e3 e4
  have hy1 := hq.hy
  obtain ⟨_, _, _, hyd⟩ := hq.hd
  have hyl : ys.length ≤ 1 := by cases hy <;> simp
  have hB' : (B, PySem.W.listOf ys.toArray ys.length) ∈ tl := hB
  have hsm : StopMark := trivial
  k_steps
  unfold Stop
  try dsimp only
  refine LCg.CompSrc.ledger rfl (by assumption) (by assumption) (.tail _ (.tail _ (.tail _ (.tail _ hB')))) (by rw [List.size_toArray]; exact Nat.le_trans hyl (by decide)) ?_
  intro g9
  try dsimp only
  refine comp_inv (fun i zs nw => ∃ ys0, (i = 0 → zs = [] ∧ nw = cs3 L o3 o2 o1 ((R, PySem.W.listOf its kR) :: tl)) ∧ (i = 1 → ys0 = ys ∧ WidJ (cs3 L o3 o2 o1 ((R, PySem.W.listOf its kR) :: tl)) (finN rows lb 1) tw ys0 zs nw)) ys.toArray.size ?turn ?done _ 0 [] _ (Nat.zero_add _) ⟨[], fun _ => ⟨rfl, rfl⟩, nofun⟩
  case turn =>
    rintro i v zs nw I oI C oC DD m₂ h2 tk2 Y E2 hi hp hno hxr ⟨ys0, hj, _⟩ F2 N2 off2 ne2 hY
    obtain rfl : i = 0 := by rw [List.size_toArray] at hi; omega
    obtain ⟨rfl, rfl⟩ := hj rfl
    cases hy with
    | none => exact absurd hi (by simp)
    | some k t =>
      have hv : v = .int (k : Nat) t := by simpa using hp.symm
      subst hv
      k_steps
      exact hY _ _ _ (_ :: _ :: cs3 L o3 o2 o1 ((R, PySem.W.listOf its kR) :: tl)) (by assumption) (news_sub (by assumption) (sub_splitC (.tail _ (.tail _ (.head _))) (sub_splitC (.tail _ (.tail _ (.tail _ (.head _)))) (sub_splitC (.tail _ (.tail _ (.tail _ (.tail _ (.head _))))) (sub_splitC (.head _) (sub_splitC (.tail _ (.head _)) (sub_skip (sub_skip (sub_skip (sub_skip (sub_skip sub_id)))))))))))
        ⟨⟨by k_ne, by k_ne, by k_ne⟩, ⟨by k_ne, by k_ne, by k_ne⟩, off2⟩
        (.inr ⟨_, .tail _ (.tail _ (.tail _ (.tail _ (.tail _ (.tail _ hB'))))), rfl, _, rfl⟩) ⟨_, nofun, fun _ => ⟨rfl, .one _ _ _ _ _⟩⟩
  case done =>
    rintro zs nw ⟨ys0, hj0, hj1⟩
    unfold LCg.FinE
    intro DD h2 tk2 F2 N2 off2
    have hsm : StopMark := trivial
    k_steps
    unfold Stop
    try dsimp only
    obtain ⟨wl, w1, w2, w3⟩ := hq.kW
    have hq' := hq
    obtain ⟨xl, x1, x2, x3, x4, x5, x6, x7, hsz⟩ := wkey (w := w) (rows := rows) (DD := DD) hy hj0 hj1
    refine dict_of_list rfl (by k_extra "ct_room") (modules_low (Top.nolimit T)) F2 N2 (.head _) hsz x1 x2 x3 x4 ?_
    intro d3 o9 h3 tk3 F3 N3 l3 lo3 hd3
    have hsm : StopMark := trivial
    k_steps
    unfold Stop
    try dsimp only
    obtain ⟨s1, s2⟩ := kv_same (offR_val w3) x5 ((offR_kv w3).trans x6.symm)
    have x8 : Sub tl nw := fun p hp => x7 p (.tail _ (.tail _ (.tail _ (.tail _ hp))))
    refine ky_ne (by k_extra "ct_room") N3 (.tail _ (.tail _ (x8 _ hq.hW))) (.head _) hq.lW lo3 w1 hd3 (w2.mono fun p hp => .tail _ (.tail _ (x8 p hp))) (x3.mono fun p hp => .tail _ hp) s1 s2 ?_
    have N4 : News gg L h3 (cs3 L o3 o2 o1 ((R, PySem.W.listOf its kR) :: tl)) := news_sub N3 fun p hp => .tail _ (.tail _ (x7 p hp))
    clear N3 N2
    k_steps
    exact hn _ _ _ _ (by assumption) (by assumption) (.mk R B SP rows lb _ o1 o2 o3 tl tw its kR p rfl hX rfl rfl rfl rfl c1 c2 hf hB hy hS hnn hpr (.mk q c3 hq hfine))
-- Z8
theorem words66 : True := by
  k_with "call ref!" => ((k_here; (with_reducible show wpAny _ _ (call (Value.ref 215) _) _ _ _); k_dflt (refine use_int c (by assumption) (by assumption) hd9 hu9 (width_ct (hq.mono (by show Sub _ _; k_extra "subz"))) rfl rfl nofun ?_); intro t7 h7 tk7 F7 N7))
  k_with "compareOp NotEq ref ref!" => ((k_here; k_dflt (first | (refine l_ne_len (by k_asm) (by k_mem) (by k_mem) (by exact rfl) (by k_extra "ct_room") ?_) | (refine l_ne_nil (by k_asm) (by k_mem) (by k_mem) (by exact rfl) (by exact rfl) (by k_extra "ct_room") ?_))))
  trivial
theorem st11 {w : World} : Stg w 11 (fun _ => LC w (LK8 w)) (LC w (LK8 w)) := by
  refine stg_open (by k_is) rfl ?_
  k_extra "stg_in"
  obtain ⟨R, B, SP, rows, lb, ys, o1, o2, o3, tl, tw, its, kR, p, rfl, hX, e1, e2, e3, e4, c1, c2, hf, hB, hy, hS, hnn, hpr, q, c3, hq, hfine⟩ := hP
  replace F := fr_eta4 F e1 e2 e3 e4
  clear e1 e2 e3 e4
  have hy1 := hq.hy
  obtain ⟨_, _, _, hyd⟩ := hq.hd
  cases hy with
  | none =>
    have hB' : (B, PySem.W.listOf #[] 0) ∈ tl := hB
    k_steps
    exact hn _ _ _ _ (by assumption) (news_sub (by assumption) (by show Sub (cs3 L o3 o2 o1 ((R, PySem.W.listOf its kR) :: tl)) _; k_extra "subz")) (.mk R B SP rows none _ o1 o2 o3 tl tw its kR p rfl hX rfl rfl rfl rfl c1 c2 hf hB .none hS hnn hpr (.mk q c3 hq hfine))
  | some k t =>
    have hB' : (B, PySem.W.listOf #[.int (k : Nat) t] 1) ∈ tl := hB
    k_steps
    · exact absurd rfl (by assumption)
    · exact hn _ _ _ _ (by assumption) (news_sub (by assumption) (by show Sub (cs3 L o3 o2 o1 ((R, PySem.W.listOf its kR) :: tl)) _; k_extra "subz")) (.mk R B SP rows (some k) _ o1 o2 o3 tl tw its kR p rfl hX rfl rfl rfl rfl c1 c2 hf hB (.some k t) hS hnn hpr (.mk q c3 hq hfine))
-- Z9
theorem words67 : True := by
  k_with "call type:dict!" => (((rename StopMark => hsm9zq); clear hsm9zq; refine stop_in ?_))
  k_with "setItem ref str!" => (((rename StopMark => hsm9zq); clear hsm9zq; refine stop_in ?_))
  k_with "eval Name!" => ((k_here; (with_reducible show wpAny _ _ (eval (Expr.Name _ _) (compEnvC _ _ _ _)) _ _ _); k_dflt (refine LCgL.ld_built (by k_asm) (by k_asm) (by k_asm) (by k_is) (by boot_by_name) (by decide) ?_)))
  trivial
theorem plcT_succ {rows : List Row} {W : Int} {n : Nat} : plcT rows W (n + 1) = plcT rows W n ++ [(lab n, Str.ofString ".text", posn rows W n)] := by
  unfold plcT
  rw [List.range_succ, List.map_append]; rfl
/-- the pairs that the last comprehension has made -/
inductive DJ (base : Led) (rows : List Row) (W : Int) (i : Nat) (zs : List Value) (nw : Led) : Prop
  | mk (xs : KL) (tz : Led) (e : nw = tz ++ base) (h1 : xs.length = i) (h2 : zs.length = i) (h3 : ∀ (j : Nat) (x : KY × Value × Value), xs[j]? = some x → ∃ a n, zs[j]? = some (.ref a) ∧ (a, tupObj #[x.2.1, x.2.2] n) ∈ tz) (h4 : KlR tz xs (plcT rows W i))
theorem dj_step {base tz : Led} {rows : List Row} {W : Int} {i : Nat} {zs : List Value} {xs : KL} {K P t u v n1 n2 : Nat} (h1 : xs.length = i) (h2 : zs.length = i) (h3 : ∀ (j : Nat) (x : KY × Value × Value), xs[j]? = some x → ∃ a n, zs[j]? = some (.ref a) ∧ (a, tupObj #[x.2.1, x.2.2] n) ∈ tz) (h4 : KlR tz xs (plcT rows W i)) :
    DJ base rows W (i + 1) (zs ++ [.ref P]) ((P, tupObj #[.str (lab i) t, .ref K] n1) :: (K, tupObj #[.str (Str.ofString ".text") u, .int (posn rows W i) v] n2) :: (tz ++ base)) := by
  refine ⟨xs ++ [(.inl (lab i), .str (lab i) t, .ref K)], (P, tupObj #[.str (lab i) t, .ref K] n1) :: (K, tupObj #[.str (Str.ofString ".text") u, .int (posn rows W i) v] n2) :: tz, rfl, by rw [List.length_append, h1]; rfl, by rw [List.length_append, h2]; rfl, fun j x hx => ?_, ?_⟩
  · rcases Nat.lt_or_ge j i with hj | hj
    · rw [List.getElem?_append_left (by rw [h1]; exact hj)] at hx
      obtain ⟨a, n, ha, hm⟩ := h3 j x hx
      exact ⟨a, n, by rw [List.getElem?_append_left (by rw [h2]; exact hj)]; exact ha, .tail _ (.tail _ hm)⟩
    · have hlt := (List.getElem?_eq_some_iff.mp hx).1
      rw [List.length_append, List.length_singleton, h1] at hlt
      obtain rfl : j = i := by omega
      rw [List.getElem?_append_right (by rw [h1]; exact Nat.le_refl _), h1, Nat.sub_self] at hx
      obtain rfl := Option.some.inj hx
      exact ⟨P, n1, by rw [List.getElem?_append_right (by rw [h2]; exact Nat.le_refl _), h2, Nat.sub_self]; rfl, .head _⟩
  · rw [plcT_succ]
    exact .snoc (h4.mono fun p hp => .tail _ (.tail _ hp)) (.tail _ (.head _))
theorem plcT_nodup {rows : List Row} {W : Int} {n : Nat} (hn : n ≤ 12) : ((plcT rows W n).map fun y => (.inl y.1 : KY)).Nodup := by
  have e : ((plcT rows W n).map fun y => (.inl y.1 : KY)) = (List.range n).map fun j => (.inl (lab j) : KY) := by unfold plcT; rw [List.map_map]; rfl
  rw [e]
  refine List.pairwise_map.mpr (List.Pairwise.imp_of_mem (fun {a b} ha hb h e => h ?_) List.nodup_range)
  exact lab_inj_le (Nat.le_trans (Nat.le_of_lt (List.mem_range.mp ha)) hn) (Nat.le_trans (Nat.le_of_lt (List.mem_range.mp hb)) hn) (Sum.inl.inj e)
inductive LD (w : World) (S : List Row → Int → List (Str × Str × Int)) (L : Addr) (m : SMap) (led : Led) : Prop
  | mk (R B SP dd : Addr) (rows : List Row) (lb : Option Nat) (ys : List Value) (o1 o2 o3 oD : Obj) (tl tz base : Led) (its : Array Value) (kR : Nat) (p : PA) (q : LA) (xs : KL) (hbase : base = tz ++ cs3 L o3 o2 o1 ((R, PySem.W.listOf its kR) :: tl)) (el : led = (dd, oD) :: base) (hlt : ∀ p ∈ base, p.1 ≠ dd) (lo : (dd == sysModules) = false)
    (e4 : m (Str.ofString "program") = some (.ref p.P)) (e5 : m (Str.ofString "due") = some (.ref dd)) (hf : RowF tl its rows lb) (hnn : NoNeg rows) (hpr : ProgAt w tl p rows) (c3 : o3.data = .cell (some (.ref q.y))) (hq : LayAt w tl q rows lb (finN rows lb 1)) (hfine : Fine rows (finN rows lb 1) true rows.length)
    (hD : KyObj w oD xs) (hK : KlR tz xs (S rows (finN rows lb 1)))
theorem st12 {w : World} : Stg w 12 (fun _ => LC w (LK8 w)) (LD w fun rows W => plcT rows W (rows.length + 1)) := by
  refine stg_open (by k_is) rfl ?_
  k_extra "stg_in"
  obtain ⟨R, B, SP, rows, lb, ys, o1, o2, o3, tl, tw, its, kR, p, rfl, hX, e1, e2, e3, e4, c1, c2, hf, hB, hy, hS, hnn, hpr, q, c3, hq, hfine⟩ := hP
  replace F := fr_eta4 F e1 e2 e3 e4
  clear e1 e2 e3 e4
  have hz := hf.hz
  have hz63 : (its.size : Int) < 2 ^ 63 := by have := hf.hlen; omega
  obtain ⟨g1, g2⟩ := rng_1 (n := its.size) (by rw [hz]; exact hf.hlen)
  obtain ⟨sits, sn, hsm1, hsm2, hsm3⟩ := hS
  have hsm : StopMark := trivial
  k_steps
  unfold Stop
  try dsimp only
  refine LCg.CompSrc.range rfl (by assumption) (by assumption) (by assumption) g1 g2 (by rw [hz]; exact Nat.le_trans (Nat.succ_le_succ hf.hlen) (by decide)) ?_
  intro g9
  try dsimp only
  refine comp_inv (DJ (cs3 L o3 o2 o1 ((R, PySem.W.listOf its kR) :: tl)) rows (finN rows lb 1)) (its.size + 1) ?turn ?done _ 0 [] _ (Nat.zero_add _) ⟨[], [], rfl, rfl, rfl, fun j x h => by simp at h, .nil⟩
  case turn =>
    rintro i v zs nw I oI C oC DD m₂ h2 tk2 Y E2 hi ⟨t, rfl⟩ hno hxr ⟨xs, tz, rfl, j1, j2, j3, j4⟩ F2 N2 off2 ne2 hY
    rw [Int.zero_add] at hxr
    have hi10 : i ≤ 10000 := by have := hf.hlen; omega
    obtain ⟨ts, hsi⟩ := hsm3 i _ (offs_get (by omega))
    k_steps
    exact hY _ _ _ (_ :: _ :: (tz ++ cs3 L o3 o2 o1 ((R, PySem.W.listOf its kR) :: tl))) (by assumption) (news_sub (by assumption) (sub_splitC (.tail _ (.tail _ (.head _))) (sub_splitC (.tail _ (.tail _ (.tail _ (.head _)))) (sub_splitC (.tail _ (.tail _ (.tail _ (.tail _ (.head _))))) (sub_splitC (.head _) (sub_splitC (.tail _ (.head _)) (sub_skip (sub_skip (sub_skip (sub_skip (sub_skip sub_id)))))))))))
      ⟨⟨by k_ne, by k_ne, by k_ne⟩, ⟨by k_ne, by k_ne, by k_ne⟩, off2⟩
      trivial (dj_step j1 j2 j3 j4)
  case done =>
    rintro zs nw ⟨xs, tz, rfl, j1, j2, j3, j4⟩
    unfold LCg.FinE
    intro DD h2 tk2 F2 N2 off2
    have hsm : StopMark := trivial
    k_steps
    unfold Stop
    try dsimp only
    rw [hz] at j1 j2 j4
    refine dict_of_list (xs := xs) rfl (by k_extra "ct_room") (modules_low (Top.nolimit T)) F2 N2 (.head _) (by rw [List.size_toArray, j2]; have := hf.hlen; omega) (by rw [List.size_toArray, j1, j2]) (fun i x h => let ⟨a, n, ha, hm⟩ := j3 i x h; ⟨a, n, by simpa using ha, .tail _ (List.mem_append_left _ hm)⟩) (klR_ks j4 _) (by rw [klR_keys j4]; exact plcT_nodup (by have := hf.hlen; omega)) ?_
    intro d3 o9 h3 tk3 F3 N3 l3 lo3 hd3
    k_steps
    exact hn _ _ _ _ (by assumption) (news_sub (by assumption) (by show Sub ((d3, o9) :: (tz ++ cs3 L o3 o2 o1 ((R, PySem.W.listOf its kR) :: tl))) _; k_extra "subz")) (.mk R B SP d3 rows lb ys o1 o2 o3 o9 tl tz _ its kR p q xs rfl rfl (fun p hp => Nat.ne_of_lt (l3 p (.tail _ hp))) lo3 rfl rfl hf hnn hpr c3 hq hfine hd3 j4)
theorem oth_no {l : Led} {xs : KL} {rows : List Row} {W : Int} {n : Nat} (h : KlR l xs (plcT rows W n)) : kyAt xs (.inl (Str.ofString "other")) = none := kyAt_none fun j p hj => by
  obtain ⟨y, h1, h2, _⟩ := klR_get h hj
  obtain ⟨i, _, rfl⟩ := plcT_mem (List.mem_of_getElem? h1)
  have e : Str.ofString "other" = lab i := Sum.inl.inj h2
  exact lab_ne (n := i) (x := Str.ofString "other") (by decide +kernel) e.symm
theorem st13 {w : World} : Stg w 13 (fun _ => LD w fun rows W => plcT rows W (rows.length + 1)) (LD w plcA) := by
  refine stg_open (by k_is) rfl ?_
  k_extra "stg_in"
  obtain ⟨R, B, SP, dd, rows, lb, ys, o1, o2, o3, oD, tl, tz, base, its, kR, p, q, xs, hbase, rfl, hlt, lo, e4, e5, hf, hnn, hpr, c3, hq, hfine, hD, hK⟩ := hP
  replace F := fr_eta2 F e4 e5
  clear e4 e5
  have hsm : StopMark := trivial
  k_steps
  unfold Stop
  try dsimp only
  refine ky_put (k := .inl (Str.ofString "other")) (by k_extra "ct_room") (by assumption) (by assumption) (.tail (by k_ne) (.head hlt)) hD (klR_ks hK _) kyk_s (by rw [klR_len hK]; simp only [plcT, List.length_map, List.length_range]; exact Nat.le_trans (Nat.succ_le_succ hf.hlen) (by decide)) (oth_no hK) ?_
  intro h3 o9 F3 N3 hd3
  subst hbase
  exact hn _ _ _ _ F3 (news_sub N3 (sub_splitC (.tail _ (.head _)) (sub_splitC (.head _) (sub_skip (sub_skip sub_id))))) (.mk R B SP dd rows lb ys o1 o2 o3 o9 tl (_ :: tz) _ its kR p q _ rfl rfl (List.forall_mem_cons.mpr ⟨by k_ne, hlt⟩) lo rfl rfl hf hnn hpr c3 hq hfine hd3 (.snoc (hK.mono fun p hp => .tail _ hp) (.head _)))
-- Z10
theorem words68 : True := by
  k_with "call ref!" => ((k_here; (with_reducible show wpAny _ _ (call (Value.ref 348) _) _ _ _); k_dflt (refine use_ref c (by assumption) (by assumption) hd9 hu9 (lplaces_ct (hpr.mono (by show Sub _ _; k_extra "subz")) hf.hlen (hq.mono (by show Sub _ _; k_extra "subz"))) rfl rfl nofun ?_); rintro c7 tl7 h7 tk7 F7 N7 hl7 ⟨oP, kvs, m1, m2, m3, m4⟩))
  k_with "call ref!" => ((k_here; (with_reducible show wpAny _ _ (call (Value.ref 334) _) _ _ _); k_dflt (refine ct_use c (by assumption) (by assumption) hd9 hu9 (relax_ct (hpr.mono (by show Sub _ _; k_extra "subz")) hf.hlen hf.hok hf.hlb (lebOk_1 hf.hok hf.hxy hnn) (lebOk_fin hf.hlb hf.hok hf.hxy hnn)) rfl rfl (fun hx9 => absurd hfine hx9) ?_); rintro r8 tl8 h8 tk8 F8 N8 hl8 ⟨hf8, q8, rfl, hq8⟩; have hy8 := hq8.hy; obtain ⟨_, _, _, hyd8⟩ := hq8.hd))
  k_with "call ref!" => ((k_here; (k_dflt (show wpAny _ _ (call (Value.ref 222) [Value.ref q8.y]) _ _ _)); k_dflt (refine ct_use c (by assumption) (by assumption) hd9 hu9 (told_ct (hq8.mono (by show Sub _ _; k_extra "subz")) hf.hlen) rfl rfl nofun ?_); intro r5 tl5 h5 tk5 F5 N5 hl5 ht5; unfold ToldP at ht5))
  k_with "call ref!" => ((k_here; (k_dflt (show wpAny _ _ (call (Value.ref 222) [Value.ref q.y]) _ _ _)); k_dflt (refine ct_use c (by assumption) (by assumption) hd9 hu9 (told_ct (hq.mono (by show Sub _ _; k_extra "subz")) hf.hlen) rfl rfl nofun ?_); intro r6 tl6 h6 tk6 F6 N6 hl6 ht6; unfold ToldP at ht6))
  k_with "compareOp Eq!" => (((rename StopMark => hsm9zq); clear hsm9zq; refine stop_in ?_))
  k_with "compareOp Eq ref ref!" => (((rename StopMark => hsm9zq); clear hsm9zq; refine stop_in ?_))
  trivial
theorem st14 {w : World} : Stg w 14 (fun _ => LD w plcA) (fun _ _ _ => False) := by
  refine stg_open (by k_is) rfl ?_
  k_extra "stg_in"
  obtain ⟨R, B, SP, dd, rows, lb, ys, o1, o2, o3, oD, tl, tz, base, its, kR, p, q, xs, hbase, rfl, hlt, lo, e4, e5, hf, hnn, hpr, c3, hq, hfine, hD, hK⟩ := hP
  replace F := fr_eta2 F e4 e5
  clear e4 e5
  subst hbase
  have hy1 := hq.hy
  obtain ⟨_, _, _, hyd⟩ := hq.hd
  have hsm : StopMark := trivial
  k_steps
  unfold Stop
  try dsimp only
  obtain ⟨xl, x1, x2, x3⟩ := ky_of_str m3
  have hKx := plcR_klR (w := w) m4 x3 x2
  obtain ⟨s1, s2⟩ := klR_same (A := (⟨none, dp, fr, gd, un⟩ : Around).in1) (s := ⟨h7, G, D, tk7, O⟩) (led := tl7 ++ (dd, oD) :: (tz ++ cs3 L o3 o2 o1 ((R, PySem.W.listOf its kR) :: tl))) hKx hK (fun _ h => List.mem_append_left _ h) (fun _ h => List.mem_append_right _ (.tail _ (List.mem_append_left _ h))) plcA_sec (by show un + 1 + 64 < cLine; omega) N7
  refine ky_eq (by k_extra "ct_room") N7 (List.mem_append_left _ m1) (List.mem_append_right _ (.head _)) m2 lo x1 hD (x2 _) (klR_ks hK _) s1 s2 ?_
  have hsm : StopMark := trivial
  k_steps
  unfold Stop
  try dsimp only
  refine rd_eq (by k_extra "ct_room64") N6 (ht5.mono (by show Sub _ _; k_extra "subz")) ht6 shp_told ?_
  k_steps
  exact hr _ _ _ (by assumption)
-- Z11
theorem seq_step {w : World} {nm : Str} {sc : Scope} {st : Stmt} {rest : List Stmt} {Pre : Heap → Addr → SMap → Led → Prop} {Post : Addr → SMap → Led → Prop} {dp un : Nat} {fr : Option (List Env)} {gd : Option (List Code)} {A₀ : Around} {g : Heap} {L fa : Addr} {cd : Value} {mg mb : SMap} {mean : ExcName → Option Value} {m : SMap} {h : Heap} {G : Array GenState} {D : Drawn} {tk : Nat} {O : OsState} {Q : Flow → Shared → Prop} {E : Value → Shared → Prop} {led : Led}
    (hst : StgAt w nm sc st Pre Post) (c : Amb w (⟨none, dp, fr, gd, un⟩ : Around) A₀ (envOfC nm sc L fa cd) [] g g L mg mb mean) (hpo : PassesOwn (model PG w) (⟨none, dp, fr, gd, un⟩ : Around) (envOfC nm sc L fa cd) E) (h1 : dp + 80 < recursionLimit) (h2 : un + 1500 < cLine) (hr : ∀ h' tk' m', Fr g L h' m' → Q (.ret (.bool true)) ⟨h', G, D, tk', O⟩)
    (F : Fr g L h m) (N : News g L h led) (hP : Pre g L m led) (next : ∀ h' tk' m' led', Fr g L h' m' → News g L h' led' → Post L m' led' → wpAny (model PG w) (⟨none, dp, fr, gd, un⟩ : Around) (execs rest (envOfC nm sc L fa cd)) Q E ⟨h', G, D, tk', O⟩) :
    wpAny (model PG w) (⟨none, dp, fr, gd, un⟩ : Around) (execs (st :: rest) (envOfC nm sc L fa cd)) Q E ⟨h, G, D, tk, O⟩ :=
  wp_cons F fun q tk8 hq8 hr8 => hst dp un fr gd A₀ g L fa cd mg mb mean m h G D tk8 O q E led c hpo c.X c.T F N h1 h2 hP (fun h' tk' m' led' F' N' P' => hq8 _ (next h' tk' m' led' F' N' P')) fun h' tk' m' F' => hr8 _ _ (hr h' tk' m' F')
theorem law_all {w : World} {nm : Str} {sc : Scope} {s0 s1 s2 s3 s4 s5 s6 s7 s8 s9 s10 s11 s12 s13 s14 : Stmt} {A A₀ : Around} {g : Heap} {L fa : Addr} {cd : Value} {mg mb : SMap} {mean : ExcName → Option Value} {m : SMap} {h : Heap} {G : Array GenState} {D : Drawn} {tk : Nat} {O : OsState} {Q : Flow → Shared → Prop} {E : Value → Shared → Prop} {led : Led}
    (hl : LawAt w nm sc [s0, s1, s2, s3, s4, s5, s6, s7, s8, s9, s10, s11, s12, s13, s14]) (c : Amb w A A₀ (envOfC nm sc L fa cd) [] g g L mg mb mean) (hpo : PassesOwn (model PG w) A (envOfC nm sc L fa cd) E) (h1 : A.depth + 80 < recursionLimit) (h2 : A.units + 1500 < cLine)
    (F : Fr g L h m) (N : News g L h led) (hP : LA0 g L m led) (hr : ∀ h' tk' m', Fr g L h' m' → Q (.ret (.bool true)) ⟨h', G, D, tk', O⟩) :
    wpAny (model PG w) A (execs [s0, s1, s2, s3, s4, s5, s6, s7, s8, s9, s10, s11, s12, s13, s14] (envOfC nm sc L fa cd)) Q E ⟨h, G, D, tk, O⟩ := by
  obtain ⟨hh0, dp, fr, gd, un⟩ := A
  obtain rfl : hh0 = none := c.hh
  refine seq_step (st0 _ _ _ _ hl rfl) c hpo h1 h2 hr F N hP fun _ _ _ _ F N P => ?_
  refine seq_step (st1 _ _ _ _ hl rfl) c hpo h1 h2 hr F N P fun _ _ _ _ F N P => ?_
  refine seq_step (st2 _ _ _ _ hl rfl) c hpo h1 h2 hr F N P fun _ _ _ _ F N P => ?_
  refine seq_step (st3 _ _ _ _ hl rfl) c hpo h1 h2 hr F N P fun _ _ _ _ F N P => ?_
  refine seq_step (st4 _ _ _ _ hl rfl) c hpo h1 h2 hr F N P fun _ _ _ _ F N P => ?_
  refine seq_step (st5 _ _ _ _ hl rfl) c hpo h1 h2 hr F N P fun _ _ _ _ F N P => ?_
  refine seq_step (st6 _ _ _ _ hl rfl) c hpo h1 h2 hr F N P fun _ _ _ _ F N P => ?_
  refine seq_step (st7 _ _ _ _ hl rfl) c hpo h1 h2 hr F N P fun _ _ _ _ F N P => ?_
  refine seq_step (st8 _ _ _ _ hl rfl) c hpo h1 h2 hr F N P fun _ _ _ _ F N P => ?_
  refine seq_step (st9 _ _ _ _ hl rfl) c hpo h1 h2 hr F N P fun _ _ _ _ F N P => ?_
  refine seq_step (st10 _ _ _ _ hl rfl) c hpo h1 h2 hr F N P fun _ _ _ _ F N P => ?_
  refine seq_step (st11 _ _ _ _ hl rfl) c hpo h1 h2 hr F N P fun _ _ _ _ F N P => ?_
  refine seq_step (st12 _ _ _ _ hl rfl) c hpo h1 h2 hr F N P fun _ _ _ _ F N P => ?_
  refine seq_step (st13 _ _ _ _ hl rfl) c hpo h1 h2 hr F N P fun _ _ _ _ F N P => ?_
  exact seq_step (st14 _ _ _ _ hl rfl) c hpo h1 h2 hr F N P fun _ _ _ _ F N P => P.elim
end Mine
open Mine
theorem PySem.Challenge.cw_pb0424_01_holds : PySem.Challenge.rw_pb0424_01.Holds := by
  exact Mine.hd.use (by
    k_go0
    all_goals try k_fold
    refine law_all ⟨_, _, _, _, _, _, _, _, _, _, _, _, by k_is⟩ ⟨by assumption, by assumption, by assumption, Around.frames_deeper (by rfl), rfl, rfl, rfl⟩ (by passes_own) (Nat.le_of_ble_eq_true rfl) (Nat.le_of_ble_eq_true rfl) (by assumption) (by assumption) ⟨_, _, _, _, _, _, rfl, rfl, by assumption, by assumption, by assumption, by assumption, by assumption, by assumption⟩ ?_
    intro h9 tk9 m9 F9
    k_end
    wrow_close)
