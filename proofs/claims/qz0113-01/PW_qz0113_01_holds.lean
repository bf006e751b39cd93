import PyProof.Rows.All
import Wide.All
import OpenK.AllK
import Wide.FinOn
import PySem.Challenge.RW_qz0113_01
section
open PySem PySem.W PyProof.Rows
namespace Mine
theorem hd.tw2867327485932766208 : True := True.intro
theorem hd.tw4971549296188076032 : True := True.intro
theorem hd.tw8735263284916673568 : True := True.intro
theorem hd.tw1800889605409440832 : True := True.intro
theorem hd.tw4523669819894539328 : True := True.intro
theorem hd.tw6276725880618359904 : True := True.intro
theorem hd.tw16412773359747925120 : True := True.intro
theorem hd.tw4706079058837389440 : True := True.intro
theorem hd.tw5292301768408028288 : True := True.intro
theorem hd.tw6830512106363814048 : True := True.intro
theorem hd.tw17950676927832955104 : True := True.intro
theorem hd.tw10458740792067480800 : True := True.intro
theorem hd.tw8381844023166312768 : True := True.intro
theorem hd.tw7023726343779634624 : True := True.intro
theorem hd.tw8134915037123179040 : True := True.intro
theorem hd.tw15344866539931968096 : True := True.intro
theorem hd.tw1359830224848277088 : True := True.intro
theorem hd.tw4494801613693538912 : True := True.intro
theorem hd.tw16154546982801380032 : True := True.intro
theorem hd.tw12070654863422294720 : True := True.intro
theorem hd.tw16694946328126371552 : True := True.intro
theorem hd.tw17183224562656869120 : True := True.intro
theorem hd.tw15643275761693703936 : True := True.intro
theorem hd.tw14598272352848978880 : True := True.intro
theorem hd.tw10752148897807903841 : True := True.intro
theorem hd.tw12127338746724423809 : True := True.intro
theorem hd.tw7610815399733428385 : True := True.intro
theorem hd.tw10403243965636340961 : True := True.intro
theorem hd.tw4111692666942324129 : True := True.intro
theorem hd.tw4086058157674990017 : True := True.intro
theorem hd.tw7512474625130614241 : True := True.intro
theorem hd.tw16037735763661986305 : True := True.intro
theorem hd.tw15220180469806662145 : True := True.intro
theorem hd.tw2315301623876862497 : True := True.intro
theorem hd.tw17336936450418997793 : True := True.intro
theorem hd.tw18343703819029505601 : True := True.intro
theorem hd.tw10678649693572172417 : True := True.intro
theorem hd.tw13330244855972007585 : True := True.intro
theorem hd.tw15186342906877850337 : True := True.intro
theorem hd.tw5343241284826551009 : True := True.intro
theorem hd.tw11715181796007767841 : True := True.intro
theorem hd.tw13933652083044930433 : True := True.intro
theorem hd.tw6046454685291232161 : True := True.intro
theorem hd.tw12602439190401603521 : True := True.intro
theorem hd.tw7914949630228597729 : True := True.intro
theorem hd.tw11210553801493137410 : True := True.intro
theorem hd.tw8609351116199087170 : True := True.intro
theorem hd.tw10905682514733158466 : True := True.intro
theorem hd.tw14745743045033390146 : True := True.intro
theorem hd.tw5480042469492414594 : True := True.intro
theorem hd.tw9731375825926819010 : True := True.intro
theorem hd.tw4272726840584523970 : True := True.intro
theorem hd.tw9430268157657104642 : True := True.intro
theorem hd.tw13919464512627920130 : True := True.intro
theorem hd.tw12936449754285732098 : True := True.intro
theorem hd.tw4702841417184801058 : True := True.intro
theorem hd.tw758273949599710562 : True := True.intro
theorem hd.tw17588044629489971554 : True := True.intro
theorem hd.tw12271959270614036898 : True := True.intro
theorem hd.tw11713075325732132258 : True := True.intro
theorem hd.tw11912922877643110818 : True := True.intro
theorem hd.tw5781342201191254626 : True := True.intro
theorem hd.tw5549315172176941698 : True := True.intro
theorem hd.tw3919010098100093602 : True := True.intro
theorem hd.tw5190246844813560578 : True := True.intro
theorem hd.tw7525542149764818722 : True := True.intro
theorem hd.tw9960721518486171458 : True := True.intro
theorem hd.tw17895171251205151618 : True := True.intro
theorem hd.tw18245042118932799458 : True := True.intro
theorem hd.tw8228950375871286339 : True := True.intro
theorem hd.tw1882180444382439491 : True := True.intro
theorem hd.tw2304311442786299043 : True := True.intro
theorem hd.tw16904818350239718627 : True := True.intro
theorem hd.tw17130151131035750659 : True := True.intro
theorem hd.tw10847404155465417027 : True := True.intro
theorem hd.tw1033889070964956483 : True := True.intro
theorem hd.tw3229955645248102723 : True := True.intro
theorem hd.tw5174551420813472067 : True := True.intro
theorem hd.tw2783992281797965187 : True := True.intro
theorem hd.tw11754176132448286083 : True := True.intro
theorem hd.tw6411954120941647267 : True := True.intro
theorem hd.tw1760603350576429475 : True := True.intro
theorem hd.tw13368278939475635651 : True := True.intro
theorem hd.tw17087091549796120035 : True := True.intro
theorem hd.tw9153386212771759811 : True := True.intro
theorem hd.tw11513968764499736323 : True := True.intro
theorem hd.tw9908193460736022307 : True := True.intro
theorem hd.tw2480057099694739299 : True := True.intro
theorem hd.tw11631947586910100387 : True := True.intro
theorem hd.tw18293851220164018083 : True := True.intro
theorem hd.tw519851828213033955 : True := True.intro
theorem hd.tw17843490464661113860 : True := True.intro
theorem hd.tw16477043939570097188 : True := True.intro
theorem hd.tw6060742912462422084 : True := True.intro
theorem hd.tw6320253292602491972 : True := True.intro
theorem hd.tw14896477498954680388 : True := True.intro
theorem hd.tw8269573656231971908 : True := True.intro
theorem hd.tw6407587892757256292 : True := True.intro
theorem hd.tw17696971302532935780 : True := True.intro
theorem hd.tw8990031805342692484 : True := True.intro
theorem hd.tw9228397985900620932 : True := True.intro
theorem hd.tw6785817131721698500 : True := True.intro
theorem hd.tw5278057926702712004 : True := True.intro
theorem hd.tw6464495981786294532 : True := True.intro
theorem hd.tw1299046323782801668 : True := True.intro
theorem hd.tw10507497572311344420 : True := True.intro
theorem hd.tw14892549342360969540 : True := True.intro
theorem hd.tw13855946660403688772 : True := True.intro
theorem hd.tw7676003278276379012 : True := True.intro
theorem hd.tw3219085151875037572 : True := True.intro
theorem hd.tw11465210709893060100 : True := True.intro
theorem hd.tw8493152586797012548 : True := True.intro
theorem hd.tw10949625832625181284 : True := True.intro
theorem hd.tw7379015992945566340 : True := True.intro
theorem hd.tw17001982702790524580 : True := True.intro
theorem hd.tw2323474266016966308 : True := True.intro
theorem hd.tw9013056391748086436 : True := True.intro
theorem hd.tw5732804406350252772 : True := True.intro
theorem hd.tw1241404454085649124 : True := True.intro
theorem hd.tw8684328023851190084 : True := True.intro
theorem hd.tw18241275227582772068 : True := True.intro
theorem hd.tw8458067239894703972 : True := True.intro
theorem hd.tw3789350110615891812 : True := True.intro
theorem hd.tw15770740941851376516 : True := True.intro
theorem hd.tw13931416462566266981 : True := True.intro
theorem hd.tw8356816923877370021 : True := True.intro
theorem hd.tw7355570028127101125 : True := True.intro
theorem hd.tw12414669353804360901 : True := True.intro
theorem hd.tw2502866573005156581 : True := True.intro
theorem hd.tw11375277706881905925 : True := True.intro
theorem hd.tw6305734824756694309 : True := True.intro
theorem hd.tw9702936160620672325 : True := True.intro
theorem hd.tw11893437276241958245 : True := True.intro
theorem hd.tw15910714762333108613 : True := True.intro
theorem hd.tw12399718760709695909 : True := True.intro
theorem hd.tw4021928978595405253 : True := True.intro
theorem hd.tw5976792059365374437 : True := True.intro
theorem hd.tw1847840615245081061 : True := True.intro
theorem hd.tw7721951785955056133 : True := True.intro
theorem hd.tw15790720579355451973 : True := True.intro
theorem hd.tw6438293893037913957 : True := True.intro
theorem hd.tw5505005885091257285 : True := True.intro
theorem hd.tw17491280204586788870 : True := True.intro
theorem hd.tw6555240042291301478 : True := True.intro
theorem hd.tw13181700845877081190 : True := True.intro
theorem hd.tw10583446816852156582 : True := True.intro
theorem hd.tw13466754112058979494 : True := True.intro
theorem hd.tw7628703163842673926 : True := True.intro
theorem hd.tw8268277133935991078 : True := True.intro
theorem hd.tw16211521421427940678 : True := True.intro
theorem hd.tw7523672394736509286 : True := True.intro
theorem hd.tw3673020696563887462 : True := True.intro
theorem hd.tw11778180911958503814 : True := True.intro
theorem hd.tw991583007596301734 : True := True.intro
theorem hd.tw2386827423013361158 : True := True.intro
theorem hd.tw3795277891434052102 : True := True.intro
theorem hd.tw13066319289922817542 : True := True.intro
theorem hd.tw10424393626065333798 : True := True.intro
theorem hd.tw17258206423299326598 : True := True.intro
theorem hd.tw17562767543260142214 : True := True.intro
theorem hd.tw2195365466389143174 : True := True.intro
theorem hd.tw13903934854276604550 : True := True.intro
theorem hd.tw1865391376527767206 : True := True.intro
theorem hd.tw4993660671451451078 : True := True.intro
theorem hd.tw1506431575118746342 : True := True.intro
theorem hd.tw8990313861142287110 : True := True.intro
theorem hd.tw11587034568685482758 : True := True.intro
theorem hd.tw13893168526513508166 : True := True.intro
theorem hd.tw7153062008950511462 : True := True.intro
theorem hd.tw9386895884608548742 : True := True.intro
theorem hd.tw8934143017859847078 : True := True.intro
theorem hd.tw10117440562283002822 : True := True.intro
theorem hd.tw5978321128707920903 : True := True.intro
theorem hd.tw15043168886218598503 : True := True.intro
theorem hd.tw10844753989422098599 : True := True.intro
theorem hd.tw17893044597097874663 : True := True.intro
theorem hd.tw15683763237869141255 : True := True.intro
theorem hd.tw17919194246423945575 : True := True.intro
theorem hd.tw17062030032774818151 : True := True.intro
theorem hd.tw8977307856219701671 : True := True.intro
theorem hd.tw5635641802508607975 : True := True.intro
theorem hd.tw9783614193127449063 : True := True.intro
theorem hd.tw3109861748172591687 : True := True.intro
theorem hd.tw9557236495431379559 : True := True.intro
theorem hd.tw13280443560766958183 : True := True.intro
theorem hd.tw12058812876911547015 : True := True.intro
theorem hd.tw12901994302517312135 : True := True.intro
theorem hd.tw4449123307109862055 : True := True.intro
theorem hd.tw11660266114150955751 : True := True.intro
theorem hd.tw7068711184596962023 : True := True.intro
theorem hd.tw8960069828448710407 : True := True.intro
theorem hd.tw17672654358674132775 : True := True.intro
theorem hd.tw6469175993241445255 : True := True.intro
theorem hd.tw7028611270464810887 : True := True.intro
theorem hd.tw701787995468756871 : True := True.intro
theorem hd.tw8545014587354053640 : True := True.intro
theorem hd.tw4282304852377368616 : True := True.intro
theorem hd.tw8671608845466749128 : True := True.intro
theorem hd.tw13642289790063256904 : True := True.intro
theorem hd.tw10246146449241189800 : True := True.intro
theorem hd.tw16920754564084929960 : True := True.intro
theorem hd.tw12949589719889679912 : True := True.intro
theorem hd.tw14457593812595234344 : True := True.intro
theorem hd.tw6038821095411175016 : True := True.intro
theorem hd.tw18268791191939849864 : True := True.intro
theorem hd.tw2708950531961675432 : True := True.intro
theorem hd.tw4297731678662094536 : True := True.intro
theorem hd.tw4642405928176397000 : True := True.intro
theorem hd.tw162610821266807592 : True := True.intro
theorem hd.tw8937217757347908520 : True := True.intro
theorem hd.tw4870687313549177768 : True := True.intro
theorem hd.tw17975533764899295144 : True := True.intro
theorem hd.tw6627881031435992008 : True := True.intro
theorem hd.tw11011131195910976488 : True := True.intro
theorem hd.tw11122986756711272457 : True := True.intro
theorem hd.tw3259873300814134281 : True := True.intro
theorem hd.tw189712035060473897 : True := True.intro
theorem hd.tw11427671660079505481 : True := True.intro
theorem hd.tw18166333605607142505 : True := True.intro
theorem hd.tw4225703048834024713 : True := True.intro
theorem hd.tw8652628183442184457 : True := True.intro
theorem hd.tw14906377314874228009 : True := True.intro
theorem hd.tw9244321171653502345 : True := True.intro
theorem hd.tw1129884963351977449 : True := True.intro
theorem hd.tw8184699220007379433 : True := True.intro
theorem hd.tw5009564483982726761 : True := True.intro
theorem hd.tw17925215291927510665 : True := True.intro
theorem hd.tw663384727985864361 : True := True.intro
theorem hd.tw9566141503761928105 : True := True.intro
theorem hd.tw5148922909946612681 : True := True.intro
theorem hd.tw3915529967508079626 : True := True.intro
theorem hd.tw18264374347568628810 : True := True.intro
theorem hd.tw15042006015671813226 : True := True.intro
theorem hd.tw6906073325868019850 : True := True.intro
theorem hd.tw13217225542625558698 : True := True.intro
theorem hd.tw7120233287515763914 : True := True.intro
theorem hd.tw6898005170327248138 : True := True.intro
theorem hd.tw6804821044290156842 : True := True.intro
theorem hd.tw9406673726873002282 : True := True.intro
theorem hd.tw16794629799341752650 : True := True.intro
theorem hd.tw7654286748164834634 : True := True.intro
theorem hd.tw5416991563250132298 : True := True.intro
theorem hd.tw4383666589626881386 : True := True.intro
theorem hd.tw9983995961361265002 : True := True.intro
theorem hd.tw17447410573909459338 : True := True.intro
theorem hd.tw14492701947808656938 : True := True.intro
theorem hd.tw6528754448969337418 : True := True.intro
theorem hd.tw10603584201595350602 : True := True.intro
theorem hd.tw9132557439983319658 : True := True.intro
theorem hd.tw10170382586518783626 : True := True.intro
theorem hd.tw1563692795949630186 : True := True.intro
theorem hd.tw12487502673411948298 : True := True.intro
theorem hd.tw974590082735218474 : True := True.intro
theorem hd.tw12112201142124510154 : True := True.intro
theorem hd.tw4478964076566166474 : True := True.intro
theorem hd.tw9271970288684553227 : True := True.intro
theorem hd.tw12239354291974867115 : True := True.intro
theorem hd.tw11128854368766332075 : True := True.intro
theorem hd.tw13277076834127875243 : True := True.intro
theorem hd.tw3443669649825651883 : True := True.intro
theorem hd.tw12832683148521936107 : True := True.intro
theorem hd.tw18176940659606848779 : True := True.intro
theorem hd.tw11917015161858427179 : True := True.intro
theorem hd.tw9170477692918782315 : True := True.intro
theorem hd.tw17070941380808615275 : True := True.intro
theorem hd.tw10030107230732127627 : True := True.intro
theorem hd.tw15463257786427224491 : True := True.intro
theorem hd.tw17054507655720011243 : True := True.intro
theorem hd.tw6683769817339685419 : True := True.intro
theorem hd.tw7534799579077118603 : True := True.intro
theorem hd.tw9741134391959003819 : True := True.intro
theorem hd.tw15089522573102190283 : True := True.intro
theorem hd.tw10743916045514856203 : True := True.intro
theorem hd.tw9748044761591592747 : True := True.intro
theorem hd.tw8727321023445011275 : True := True.intro
theorem hd.tw2999033326186475339 : True := True.intro
theorem hd.tw8242931771332617035 : True := True.intro
theorem hd.tw6196171512934965099 : True := True.intro
theorem hd.tw978945382295711627 : True := True.intro
theorem hd.tw6264232113106981867 : True := True.intro
theorem hd.tw4315991029959535628 : True := True.intro
theorem hd.tw4136554803537287180 : True := True.intro
theorem hd.tw1836080755315867724 : True := True.intro
theorem hd.tw12647368939536790636 : True := True.intro
theorem hd.tw6186238094035137676 : True := True.intro
theorem hd.tw1043307727769730188 : True := True.intro
theorem hd.tw14060154772996877548 : True := True.intro
theorem hd.tw16299908979028503884 : True := True.intro
theorem hd.tw12092154237167983948 : True := True.intro
theorem hd.tw2930668341846507884 : True := True.intro
theorem hd.tw17711083657039698284 : True := True.intro
theorem hd.tw12575139184659369484 : True := True.intro
theorem hd.tw6482722132109649516 : True := True.intro
theorem hd.tw5130813555471234732 : True := True.intro
theorem hd.tw8004679753235328684 : True := True.intro
theorem hd.tw18185175575083235020 : True := True.intro
theorem hd.tw17948085552500728524 : True := True.intro
theorem hd.tw8324504678176258764 : True := True.intro
theorem hd.tw7270182246851987180 : True := True.intro
theorem hd.tw12588582704262371052 : True := True.intro
theorem hd.tw10292235466723388172 : True := True.intro
theorem hd.tw12023040214023829324 : True := True.intro
theorem hd.tw16171809288044610508 : True := True.intro
theorem hd.tw15837987909243819085 : True := True.intro
theorem hd.tw1409312971732116557 : True := True.intro
theorem hd.tw257007361410690125 : True := True.intro
theorem hd.tw16332348944364537037 : True := True.intro
theorem hd.tw1013155817946168525 : True := True.intro
theorem hd.tw13321331477185743149 : True := True.intro
theorem hd.tw16919406825032445293 : True := True.intro
theorem hd.tw16345102440705955213 : True := True.intro
theorem hd.tw8457440626546761165 : True := True.intro
theorem hd.tw4377701919642642989 : True := True.intro
theorem hd.tw3404104791013757517 : True := True.intro
theorem hd.tw16828841361933241965 : True := True.intro
theorem hd.tw6184208073178115725 : True := True.intro
theorem hd.tw5036846961687405229 : True := True.intro
theorem hd.tw17606422857730326317 : True := True.intro
theorem hd.tw4068527845204499245 : True := True.intro
theorem hd.tw11249132867342737325 : True := True.intro
theorem hd.tw10404513684093684653 : True := True.intro
theorem hd.tw13929354066492186541 : True := True.intro
theorem hd.tw1088296927520436173 : True := True.intro
theorem hd.tw9577689765879766989 : True := True.intro
theorem hd.tw10614716105012338702 : True := True.intro
theorem hd.tw11801993109049149486 : True := True.intro
theorem hd.tw9398405308114057262 : True := True.intro
theorem hd.tw14980023328507725902 : True := True.intro
theorem hd.tw11968265576560266318 : True := True.intro
theorem hd.tw7880807054014371918 : True := True.intro
theorem hd.tw14294001040229213422 : True := True.intro
theorem hd.tw4654797750381630734 : True := True.intro
theorem hd.tw9617658007855726926 : True := True.intro
theorem hd.tw185848376630758926 : True := True.intro
theorem hd.tw3429492842335990350 : True := True.intro
theorem hd.tw1781861727890032366 : True := True.intro
theorem hd.tw9555612238305686254 : True := True.intro
theorem hd.tw4159134105002834734 : True := True.intro
theorem hd.tw16722109127936396110 : True := True.intro
theorem hd.tw14553816603554493358 : True := True.intro
theorem hd.tw9345929723534960622 : True := True.intro
theorem hd.tw6818987989461384207 : True := True.intro
theorem hd.tw13363553139645760527 : True := True.intro
theorem hd.tw1452849714261714991 : True := True.intro
theorem hd.tw15616948245753086127 : True := True.intro
theorem hd.tw2442259710966052079 : True := True.intro
theorem hd.tw8587404781116728655 : True := True.intro
theorem hd.tw6082411064634330575 : True := True.intro
theorem hd.tw3759623122121258479 : True := True.intro
theorem hd.tw12631932088317031055 : True := True.intro
theorem hd.tw10012880186880212623 : True := True.intro
theorem hd.tw5987830557187376847 : True := True.intro
theorem hd.tw4711145170727319247 : True := True.intro
theorem hd.tw6990203504111849199 : True := True.intro
theorem hd.tw2101469004524951375 : True := True.intro
theorem hd.tw11319892378374348655 : True := True.intro
theorem hd.tw9657781627882305391 : True := True.intro
theorem hd.tw8879563391730754479 : True := True.intro
theorem hd.tw16649331688326792143 : True := True.intro
theorem hd.tw1197925565968671727 : True := True.intro
theorem hd.tw15207398651663016943 : True := True.intro
theorem hd.tw10111801491309104144 : True := True.intro
theorem hd.tw402640490398009360 : True := True.intro
theorem hd.tw8801323125487838256 : True := True.intro
theorem hd.tw15427206886491885616 : True := True.intro
theorem hd.tw16011055738799735888 : True := True.intro
theorem hd.tw10216474801634566288 : True := True.intro
theorem hd.tw4521480514310152432 : True := True.intro
theorem hd.tw10491609206876299696 : True := True.intro
theorem hd.tw7891253978561527248 : True := True.intro
theorem hd.tw14678209027938369040 : True := True.intro
theorem hd.tw16853341256802265648 : True := True.intro
theorem hd.tw13285133528070534704 : True := True.intro
theorem hd.tw7152984921513172624 : True := True.intro
theorem hd.tw7382370116671421104 : True := True.intro
theorem hd.tw1712922718373300912 : True := True.intro
theorem hd.tw4856431653887292112 : True := True.intro
theorem hd.tw13518370688599389936 : True := True.intro
theorem hd.tw8351282476255451920 : True := True.intro
theorem hd.tw11551083187376567056 : True := True.intro
theorem hd.tw15595854959937240912 : True := True.intro
theorem hd.tw12614811148066621264 : True := True.intro
theorem hd.tw15279998641719260112 : True := True.intro
theorem hd.tw3434918251397683217 : True := True.intro
theorem hd.tw13790719812936386609 : True := True.intro
theorem hd.tw876933089483189297 : True := True.intro
theorem hd.tw13322179722446271537 : True := True.intro
theorem hd.tw15527848837575444561 : True := True.intro
theorem hd.tw17213754286329925777 : True := True.intro
theorem hd.tw5247051413645994129 : True := True.intro
theorem hd.tw2000490053193787569 : True := True.intro
theorem hd.tw280609765759037681 : True := True.intro
theorem hd.tw432457690288141553 : True := True.intro
theorem hd.tw14705683404202351889 : True := True.intro
theorem hd.tw100483095206116625 : True := True.intro
theorem hd.tw6882427118574961969 : True := True.intro
theorem hd.tw17903497710992402801 : True := True.intro
theorem hd.tw16634568088961857937 : True := True.intro
theorem hd.tw15852365999677673905 : True := True.intro
theorem hd.tw16056359734778111409 : True := True.intro
theorem hd.tw7082855905992002993 : True := True.intro
theorem hd.tw11034497122203965937 : True := True.intro
theorem hd.tw8015326511298524721 : True := True.intro
theorem hd.tw13220430256171166289 : True := True.intro
theorem hd.tw3828038474966422129 : True := True.intro
theorem hd.tw12113243949977362033 : True := True.intro
theorem hd.tw5961118342813265553 : True := True.intro
theorem hd.tw8117029840178788049 : True := True.intro
theorem hd.tw4990156530697904881 : True := True.intro
theorem hd.tw6545403380812914513 : True := True.intro
theorem hd.tw7317836474542784337 : True := True.intro
theorem hd.tw6578402527460240241 : True := True.intro
theorem hd.tw16053994301053490033 : True := True.intro
theorem hd.tw5716766192118558609 : True := True.intro
theorem hd.tw16029623286316568529 : True := True.intro
theorem hd.tw6759412095888398321 : True := True.intro
theorem hd.tw8683856772340465682 : True := True.intro
theorem hd.tw2391449824757734642 : True := True.intro
theorem hd.tw1353933474123613458 : True := True.intro
theorem hd.tw8025032847418708242 : True := True.intro
theorem hd.tw9641152695372364146 : True := True.intro
theorem hd.tw15166520500009309586 : True := True.intro
theorem hd.tw14772383043592177042 : True := True.intro
theorem hd.tw15813434630575017362 : True := True.intro
theorem hd.tw7754304195085646258 : True := True.intro
theorem hd.tw5366084841770067474 : True := True.intro
theorem hd.tw2167537188350426706 : True := True.intro
theorem hd.tw5282504435634884242 : True := True.intro
theorem hd.tw17377529257436501650 : True := True.intro
theorem hd.tw250903467453971090 : True := True.intro
theorem hd.tw16257038226119295666 : True := True.intro
theorem hd.tw1580110805410547442 : True := True.intro
theorem hd.tw8053944837975664402 : True := True.intro
theorem hd.tw14560493823538711346 : True := True.intro
theorem hd.tw10525666975642140466 : True := True.intro
theorem hd.tw9298403506768410418 : True := True.intro
theorem hd.tw6293948785866598258 : True := True.intro
theorem hd.tw12629568148972539762 : True := True.intro
theorem hd.tw7296583596125217682 : True := True.intro
theorem hd.tw8112040973832200146 : True := True.intro
theorem hd.tw1097998534492414930 : True := True.intro
theorem hd.tw15083628210047938546 : True := True.intro
theorem hd.tw10601615944963115059 : True := True.intro
theorem hd.tw17429513623812275283 : True := True.intro
theorem hd.tw8538877666451538035 : True := True.intro
theorem hd.tw3694398316872202419 : True := True.intro
theorem hd.tw9184186324627900627 : True := True.intro
theorem hd.tw10806950440038215891 : True := True.intro
theorem hd.tw5567388512258382067 : True := True.intro
theorem hd.tw5657824000916062451 : True := True.intro
theorem hd.tw17454471701868102899 : True := True.intro
theorem hd.tw5238241317806426387 : True := True.intro
theorem hd.tw7289634563603522867 : True := True.intro
theorem hd.tw16945582573551092051 : True := True.intro
theorem hd.tw16006246977917349235 : True := True.intro
theorem hd.tw1382963296337349011 : True := True.intro
theorem hd.tw16432713993328977331 : True := True.intro
theorem hd.tw7793673504863384051 : True := True.intro
theorem hd.tw5363564295841288755 : True := True.intro
theorem hd.tw11151547217846952531 : True := True.intro
theorem hd.tw18103342009636024947 : True := True.intro
theorem hd.tw4115565904173853331 : True := True.intro
theorem hd.tw3008623586974134963 : True := True.intro
theorem hd.tw920214292312260371 : True := True.intro
theorem hd.tw16640546478005224243 : True := True.intro
theorem hd.tw15948780112781908787 : True := True.intro
theorem hd.tw4015398097383911347 : True := True.intro
theorem hd.tw13409441903868389331 : True := True.intro
theorem hd.tw8789358453043137523 : True := True.intro
theorem hd.tw18103420901670897651 : True := True.intro
theorem hd.tw4851647983119433812 : True := True.intro
theorem hd.tw4367231431732253908 : True := True.intro
theorem hd.tw15529170255622000948 : True := True.intro
theorem hd.tw6164396464334811476 : True := True.intro
theorem hd.tw7540655947842036084 : True := True.intro
theorem hd.tw6547078798241139092 : True := True.intro
theorem hd.tw15422856539912107476 : True := True.intro
theorem hd.tw6998783941825042932 : True := True.intro
theorem hd.tw7366208706002141716 : True := True.intro
theorem hd.tw4014540891139286612 : True := True.intro
theorem hd.tw7540741092611519060 : True := True.intro
theorem hd.tw11256106856564762260 : True := True.intro
theorem hd.tw18293732401869909652 : True := True.intro
theorem hd.tw9131607905817354932 : True := True.intro
theorem hd.tw10738003575532504788 : True := True.intro
theorem hd.tw697623264460660564 : True := True.intro
theorem hd.tw1997569388931296116 : True := True.intro
theorem hd.tw6136932545381038964 : True := True.intro
theorem hd.tw226724450230711188 : True := True.intro
theorem hd.tw17542962492245011380 : True := True.intro
theorem hd.tw5629675986466331604 : True := True.intro
theorem hd.tw1439246655266547700 : True := True.intro
theorem hd.tw6598312636042714100 : True := True.intro
theorem hd.tw13566260322249332789 : True := True.intro
theorem hd.tw17234923516513369237 : True := True.intro
theorem hd.tw11162318198679636149 : True := True.intro
theorem hd.tw9496365245306024149 : True := True.intro
theorem hd.tw13225837485096350037 : True := True.intro
theorem hd.tw6442067068224118133 : True := True.intro
theorem hd.tw14103535550066685397 : True := True.intro
theorem hd.tw10264135568141901301 : True := True.intro
theorem hd.tw2608437505485318709 : True := True.intro
theorem hd.tw17673860158736603733 : True := True.intro
theorem hd.tw3571134770919094901 : True := True.intro
theorem hd.tw12173100003817136821 : True := True.intro
theorem hd.tw7494724483528729301 : True := True.intro
theorem hd.tw15508949281206285077 : True := True.intro
theorem hd.tw12459740579856956213 : True := True.intro
theorem hd.tw16302227732802510677 : True := True.intro
theorem hd.tw13609717118414637909 : True := True.intro
theorem hd.tw13483081372092288885 : True := True.intro
theorem hd.tw1666387254794493845 : True := True.intro
theorem hd.tw9427301549700849589 : True := True.intro
theorem hd.tw3941438180925939637 : True := True.intro
theorem hd.tw1425423193147277237 : True := True.intro
theorem hd.tw6820862383352777685 : True := True.intro
theorem hd.tw10919297434634762262 : True := True.intro
theorem hd.tw8965841893048198262 : True := True.intro
theorem hd.tw6291416237084387574 : True := True.intro
theorem hd.tw8343274005884668182 : True := True.intro
theorem hd.tw1848646778235469078 : True := True.intro
theorem hd.tw1413172679324656950 : True := True.intro
theorem hd.tw12715556860635103574 : True := True.intro
theorem hd.tw16713699803418581334 : True := True.intro
theorem hd.tw3452082135128663414 : True := True.intro
theorem hd.tw15610959940260225430 : True := True.intro
theorem hd.tw11213053971927718326 : True := True.intro
theorem hd.tw16155205043701107222 : True := True.intro
theorem hd.tw7752767780024739350 : True := True.intro
theorem hd.tw17420951861521290806 : True := True.intro
theorem hd.tw7369741819223213686 : True := True.intro
theorem hd.tw1011335219593555734 : True := True.intro
theorem hd.tw8428860471423672150 : True := True.intro
theorem hd.tw4138081844389336918 : True := True.intro
theorem hd.tw17036954124816465846 : True := True.intro
theorem hd.tw6184460063843016694 : True := True.intro
theorem hd.tw15367242080415987702 : True := True.intro
theorem hd.tw15615537253650120727 : True := True.intro
theorem hd.tw2216850387143573719 : True := True.intro
theorem hd.tw2448417245163862455 : True := True.intro
theorem hd.tw5283464899586487735 : True := True.intro
theorem hd.tw16970440968685349367 : True := True.intro
theorem hd.tw3442329435671937591 : True := True.intro
theorem hd.tw13783031573616600631 : True := True.intro
theorem hd.tw16064382804478563927 : True := True.intro
theorem hd.tw11447273431469733495 : True := True.intro
theorem hd.tw15416985209724490359 : True := True.intro
theorem hd.tw7292484366425897655 : True := True.intro
theorem hd.tw12393119488966705847 : True := True.intro
theorem hd.tw11402939732021071671 : True := True.intro
theorem hd.tw307737655149646647 : True := True.intro
theorem hd.tw3381375190539634487 : True := True.intro
theorem hd.tw10879034167726328663 : True := True.intro
theorem hd.tw12598724348716800887 : True := True.intro
theorem hd.tw13632086890793258935 : True := True.intro
theorem hd.tw2134215046882385847 : True := True.intro
theorem hd.tw11389486352061984695 : True := True.intro
theorem hd.tw11136197038861592535 : True := True.intro
theorem hd.tw2788664435532181463 : True := True.intro
theorem hd.tw6140570298594658328 : True := True.intro
theorem hd.tw2951005344575393816 : True := True.intro
theorem hd.tw15946388913382835224 : True := True.intro
theorem hd.tw9345676750909349944 : True := True.intro
theorem hd.tw16456969618363192440 : True := True.intro
theorem hd.tw18300207936620678264 : True := True.intro
theorem hd.tw5562173858411828344 : True := True.intro
theorem hd.tw17650839729002327288 : True := True.intro
theorem hd.tw2799067240506288376 : True := True.intro
theorem hd.tw18093812233618175256 : True := True.intro
theorem hd.tw2274498078352570744 : True := True.intro
theorem hd.tw15759970867653108152 : True := True.intro
theorem hd.tw14768889098011018680 : True := True.intro
theorem hd.tw13866372431405929976 : True := True.intro
theorem hd.tw26425463804135960 : True := True.intro
theorem hd.tw10117281507310766616 : True := True.intro
theorem hd.tw13267510147771200024 : True := True.intro
theorem hd.tw15048261121198461528 : True := True.intro
theorem hd.tw12769127236821124696 : True := True.intro
theorem hd.tw10727248033764811480 : True := True.intro
theorem hd.tw8516288146210602744 : True := True.intro
theorem hd.tw8770205317985620760 : True := True.intro
theorem hd.tw11099374497321128792 : True := True.intro
theorem hd.tw10860895700388868024 : True := True.intro
theorem hd.tw15987713032478767096 : True := True.intro
theorem hd.tw12994019391074448376 : True := True.intro
theorem hd.tw4065347644161347641 : True := True.intro
theorem hd.tw13342606739435360313 : True := True.intro
theorem hd.tw4788038989552484473 : True := True.intro
theorem hd.tw728884934406724761 : True := True.intro
theorem hd.tw1588505670450824345 : True := True.intro
theorem hd.tw732345407407602841 : True := True.intro
theorem hd.tw15213948185873263833 : True := True.intro
theorem hd.tw2603259988358896889 : True := True.intro
theorem hd.tw7341446936096073017 : True := True.intro
theorem hd.tw2845679848157327705 : True := True.intro
theorem hd.tw18291419657060728153 : True := True.intro
theorem hd.tw15411387601460861337 : True := True.intro
theorem hd.tw1222794163293265305 : True := True.intro
theorem hd.tw10784824025267889561 : True := True.intro
theorem hd.tw3953601041324332601 : True := True.intro
theorem hd.tw14547738321960009305 : True := True.intro
theorem hd.tw881544763273948857 : True := True.intro
theorem hd.tw3453542296344581817 : True := True.intro
theorem hd.tw16772102934027710169 : True := True.intro
theorem hd.tw17574625026820762457 : True := True.intro
theorem hd.tw17330945745186091897 : True := True.intro
theorem hd.tw8081886968326746073 : True := True.intro
theorem hd.tw6982297934935202809 : True := True.intro
theorem hd.tw22551697357593593 : True := True.intro
theorem hd.tw17047115858639842297 : True := True.intro
theorem hd.tw7854228177987924090 : True := True.intro
theorem hd.tw15673258824015622330 : True := True.intro
theorem hd.tw11953376511379268794 : True := True.intro
theorem hd.tw541196102884509978 : True := True.intro
theorem hd.tw7553592314356048186 : True := True.intro
theorem hd.tw12050417470231563642 : True := True.intro
theorem hd.tw2114630138375439770 : True := True.intro
theorem hd.tw5592360268479517082 : True := True.intro
theorem hd.tw1147470481896660410 : True := True.intro
theorem hd.tw6868836192036940282 : True := True.intro
theorem hd.tw9421340871869096474 : True := True.intro
theorem hd.tw1600037746751723098 : True := True.intro
theorem hd.tw7526368328331116154 : True := True.intro
theorem hd.tw5373601922739893978 : True := True.intro
theorem hd.tw14960593345356199642 : True := True.intro
theorem hd.tw16157073509204512506 : True := True.intro
theorem hd.tw7598622570094877466 : True := True.intro
theorem hd.tw11232374478483605306 : True := True.intro
theorem hd.tw12394076208661396346 : True := True.intro
theorem hd.tw11652457597714270106 : True := True.intro
theorem hd.tw13038990169509382042 : True := True.intro
theorem hd.tw8273930003744585626 : True := True.intro
theorem hd.tw1610171440888473627 : True := True.intro
theorem hd.tw7927469264209771579 : True := True.intro
theorem hd.tw13372043803930879067 : True := True.intro
theorem hd.tw11032806212648032379 : True := True.intro
theorem hd.tw15103106377680225435 : True := True.intro
theorem hd.tw14353793391729792155 : True := True.intro
theorem hd.tw11079593142295127227 : True := True.intro
theorem hd.tw128412058910260475 : True := True.intro
theorem hd.tw15675198926951892251 : True := True.intro
theorem hd.tw14478148883734587675 : True := True.intro
theorem hd.tw6767318904944593275 : True := True.intro
theorem hd.tw2051048951616859547 : True := True.intro
theorem hd.tw10024716035694756283 : True := True.intro
theorem hd.tw13828106393651249627 : True := True.intro
theorem hd.tw17491317419825422843 : True := True.intro
theorem hd.tw5388632664720090651 : True := True.intro
theorem hd.tw16007149819294483003 : True := True.intro
theorem hd.tw3085183777334472315 : True := True.intro
theorem hd.tw2068664650715991707 : True := True.intro
theorem hd.tw9719896912496429819 : True := True.intro
theorem hd.tw17177331786930743035 : True := True.intro
theorem hd.tw6965799899956892507 : True := True.intro
theorem hd.tw461538923250603899 : True := True.intro
theorem hd.tw15642763164714097627 : True := True.intro
theorem hd.tw13770079208771991547 : True := True.intro
theorem hd.tw1118553966540926140 : True := True.intro
theorem hd.tw11319097763535126812 : True := True.intro
theorem hd.tw395138700845864316 : True := True.intro
theorem hd.tw15615420239508185596 : True := True.intro
theorem hd.tw12591134339009171964 : True := True.intro
theorem hd.tw16091413853298234908 : True := True.intro
theorem hd.tw7085514621470718492 : True := True.intro
theorem hd.tw2887051446865420828 : True := True.intro
theorem hd.tw1699103778626983548 : True := True.intro
theorem hd.tw3451239065008710300 : True := True.intro
theorem hd.tw17599816209265215132 : True := True.intro
theorem hd.tw2327210489368252092 : True := True.intro
theorem hd.tw2252305205657439004 : True := True.intro
theorem hd.tw4182648748547736412 : True := True.intro
theorem hd.tw1194904439430580092 : True := True.intro
theorem hd.tw4402725079659364252 : True := True.intro
theorem hd.tw11117797201346649052 : True := True.intro
theorem hd.tw14852329139284432860 : True := True.intro
theorem hd.tw18219297243305740317 : True := True.intro
theorem hd.tw13289513938125300765 : True := True.intro
theorem hd.tw922143313871775805 : True := True.intro
theorem hd.tw4363365295628954845 : True := True.intro
theorem hd.tw17714235663813219645 : True := True.intro
theorem hd.tw2457190517430149469 : True := True.intro
theorem hd.tw16868993833207775613 : True := True.intro
theorem hd.tw6924109203229866365 : True := True.intro
theorem hd.tw2855845756224970109 : True := True.intro
theorem hd.tw10792051664901133789 : True := True.intro
theorem hd.tw5608270528595127837 : True := True.intro
theorem hd.tw7763873220885509757 : True := True.intro
theorem hd.tw3646829019195819677 : True := True.intro
theorem hd.tw3704167492566942397 : True := True.intro
theorem hd.tw526207354791536317 : True := True.intro
theorem hd.tw15967140613478806237 : True := True.intro
theorem hd.tw15578025631644234493 : True := True.intro
theorem hd.tw845060206244984605 : True := True.intro
theorem hd.tw8226494294326810461 : True := True.intro
theorem hd.tw15833661619300960221 : True := True.intro
theorem hd.tw9277588360372424766 : True := True.intro
theorem hd.tw16194383521188589630 : True := True.intro
theorem hd.tw11631869004601391166 : True := True.intro
theorem hd.tw7746578258024575070 : True := True.intro
theorem hd.tw9673543361469618366 : True := True.intro
theorem hd.tw6123773746684550334 : True := True.intro
theorem hd.tw6838551448383532254 : True := True.intro
theorem hd.tw4643362625855044894 : True := True.intro
theorem hd.tw16259696140248634718 : True := True.intro
theorem hd.tw4172343393113369950 : True := True.intro
theorem hd.tw13638418597567726942 : True := True.intro
theorem hd.tw17681399029576232318 : True := True.intro
theorem hd.tw13431754692932380062 : True := True.intro
theorem hd.tw8664936974563722654 : True := True.intro
theorem hd.tw17901334829092211166 : True := True.intro
theorem hd.tw17739348878880393726 : True := True.intro
theorem hd.tw2329189449893159454 : True := True.intro
theorem hd.tw9533747618267967006 : True := True.intro
theorem hd.tw3480954088277226078 : True := True.intro
theorem hd.tw9763420282994701918 : True := True.intro
theorem hd.tw7510230149288206974 : True := True.intro
theorem hd.tw4753393716479816382 : True := True.intro
theorem hd.tw12744807935193187038 : True := True.intro
theorem hd.tw8047900516022102942 : True := True.intro
theorem hd.tw6423634429210846174 : True := True.intro
theorem hd.tw14955159897011116063 : True := True.intro
theorem hd.tw6931407450589930559 : True := True.intro
theorem hd.tw12070051907170230399 : True := True.intro
theorem hd.tw3530705653197291679 : True := True.intro
theorem hd.tw4478166936697009375 : True := True.intro
theorem hd.tw1954109241102656831 : True := True.intro
theorem hd.tw5505332120971382143 : True := True.intro
theorem hd.tw2284436838669742495 : True := True.intro
theorem hd.tw12611767792052310623 : True := True.intro
theorem hd.tw10543509907540572799 : True := True.intro
theorem hd.tw5245234834050458271 : True := True.intro
theorem hd.tw442638132926106271 : True := True.intro
theorem hd.tw14400467628812073631 : True := True.intro
theorem hd.tw7519716089354478335 : True := True.intro
theorem hd.tw14685462170515437407 : True := True.intro
theorem hd.tw15420132692837488546 : True := True.intro
set_option maxRecDepth 100000 in
set_option maxHeartbeats 8000000 in
theorem hd : True := by
  w_on
  let rec law : (PySem.Challenge.rw_qz0113_01.row.wellSaid = true → PySem.Challenge.rw_qz0113_01.row.Holds) → PySem.Challenge.rw_qz0113_01.Holds := by
    intro h
    o_law
    exact h (by assumption)
  refine (?f : PySem.Challenge.rw_qz0113_01.row.Holds → True) ?x
  case f => exact fun _ => True.intro
  k_head
  · w_witness2
  let rec wit : type_of% ?hw := ?hw
  let rec left : type_of% ?hl := ?hl
  have : type_of% (?z : type_of% ?hc) = type_of% ?hc := rfl
  clear this
  exact ?z
end Mine
end
set_option Elab.async false
section
open PySem PySem.W PyProof.Rows PySem.Calls
namespace Mine
abbrev lst (vs : List Value) (n : Nat) : Obj := listOf vs.toArray n
abbrev tup (vs : List Value) : Obj := { cls := .type "tuple", data := .seq vs.toArray 0 }
/-- the cup: the script's first items, how many sips were taken -/
abbrev cupO (items : Addr) (n : Nat) (c : Int) (t : Tok) : Obj := lst [.ref items, .int c t] n
theorem news_sub {h₀ h : Heap} {L : Addr} {l l' : List (Addr × Obj)} (N : News h₀ L h l) (hs : ∀ p ∈ l', p ∈ l) : News h₀ L h l' := fun p hp => N p (hs p hp)
end Mine
end
section
open PySem PySem.W PyProof.Rows PySem.Calls
namespace Mine
local macro_rules | `(tactic| k_all) => `(tactic| with_reducible assumption)
section
variable {w : World} {mean : ExcName → Option Value} {mg mb : Str → Option Value} {dp un : Nat} {gd : Option (List Code)} {cn : Str} {cs : Scope} {a : Addr} {ccd : Value} {cl : List (Str × Addr)} {outer : List Env}
  {A₀ : Around} {base h₀ : Heap} {L : Addr} {m : Str → Option Value} {news : List (Addr × Obj)} {s : Shared} {Q E : Value → Shared → Prop}
  (B : Below A₀ base outer h₀) (F : Fr h₀ L s.heap m) (X : (hd.heap_1_39 w.params).In h₀)
  (T : Top hd.view_1_40 (looseW hd.view_1_40 [Str.ofString "WORD_SIGNS", Str.ofString "CLOSERS", Str.ofString "FLAGS_OF", Str.ofString "_law_many"]) mean mg mb h₀) (hk : cs.kind = .function)
include B F X T hk
set_option maxRecDepth 100000 in
set_option maxHeartbeats 8000000 in
theorem sip_norm {cup items : Addr} {c : Int} {ct : Tok} {n1 n2 : Nat} {xs : List Value} {ns : List Int} {rest : List (Addr × Obj)} {many : Int} {mt : Tok}
    (N : News h₀ L s.heap ((cup, cupO items n1 c ct) :: (items, lst xs n2) :: rest))
    (hi : IntsAre xs ns) (hl : ns.length ≤ 63) (hc : 0 ≤ c) (hm : 0 < many) (ne : @Ne Nat cup items) (off : ∀ p ∈ rest, p.1 ≠ cup) (hd : dp + 10 < recursionLimit)
    (hret : ∀ k t c' ct' h' tk', 0 ≤ k → k < many → 0 ≤ c' → Fr h₀ L h' m → News h₀ L h' ((cup, cupO items n1 c' ct') :: (items, lst xs n2) :: rest) → Q (.int k t) { s with heap := h', toks := tk' }) :
    wpAny (model PySem.Challenge.rw_qz0113_01.row.prog w) (ktrTop dp un gd cn cs L a ccd cl outer) (call (.ref 594) [.ref cup, .int many mt]) Q E s := by
  revert X
  w_top off
  k_fill
  intro X
  refine wpAny_call ?_
  k_dflt ktr_enter
  k_steps
  · rename_i kF kN _ _
    exact hret _ _ _ _ _ _ (Int.fmod_nonneg_of_pos _ hm) (Int.fmod_lt_of_pos _ hm) (by omega) kF kN
  · rename_i kF kN _ _
    exact hret _ _ _ _ _ _ (Int.le_refl _) hm (by omega) kF kN
theorem sip_call {cup items : Addr} {c : Int} {ct : Tok} {n1 n2 : Nat} {xs : List Value} {ns : List Int} {g : Obj → List (Addr × Obj)} {many : Int} {mt : Tok}
    (N : News h₀ L s.heap news) (U : UpdF cup (cupO items n1 c ct) news g) (hm2 : (items, lst xs n2) ∈ news) (ne : @Ne Nat cup items)
    (hi : IntsAre xs ns) (hl : ns.length ≤ 63) (hc : 0 ≤ c) (hm : 0 < many) (hd : dp + 10 < recursionLimit)
    (hret : ∀ k t c' ct' h' tk', 0 ≤ k → k < many → 0 ≤ c' → Fr h₀ L h' m → News h₀ L h' (g (cupO items n1 c' ct')) → Q (.int k t) { s with heap := h', toks := tk' }) :
    wpAny (model PySem.Challenge.rw_qz0113_01.row.prog w) (ktrTop dp un gd cn cs L a ccd cl outer) (call (.ref 594) [.ref cup, .int many mt]) Q E s := by
  obtain ⟨pre, post, rfl, hg, h1, h2⟩ := U.split
  refine sip_norm (n1 := n1) (ct := ct) (n2 := n2) (rest := pre ++ post) B F X T hk (news_sub N ?_) hi hl hc hm ne ?_ hd ?_
  · intro p hp
    rcases List.mem_cons.mp hp with rfl | hp
    · exact List.mem_append.mpr (.inr (.head _))
    · rcases List.mem_cons.mp hp with rfl | hp
      · exact hm2
      · rcases List.mem_append.mp hp with hp | hp
        · exact List.mem_append.mpr (.inl hp)
        · exact List.mem_append.mpr (.inr (.tail _ hp))
  · intro p hp
    exact (List.mem_append.mp hp).elim (h1 p) (h2 p)
  · intro k t c' ct' h' tk' a1 a2 a3 F' N'
    refine hret k t c' ct' h' tk' a1 a2 a3 F' (news_sub N' ?_)
    rw [hg]
    intro p hp
    rcases List.mem_append.mp hp with hp | hp
    · exact .tail _ (.tail _ (List.mem_append.mpr (.inl hp)))
    · rcases List.mem_cons.mp hp with rfl | hp
      · exact .head _
      · exact .tail _ (.tail _ (List.mem_append.mpr (.inr hp)))
end
end Mine
end
section
open PySem PySem.W PyProof.Rows PySem.Calls
namespace Mine
/-- two lists, related place by place -/
inductive All2 {α β : Type} (R : α → β → Prop) : List α → List β → Prop where
  | nil : All2 R [] []
  | cons {a : α} {b : β} {as : List α} {bs : List β} : R a b → All2 R as bs → All2 R (a :: as) (b :: bs)
theorem All2.imp {α β : Type} {R S : α → β → Prop} (f : ∀ a b, R a b → S a b) : ∀ {as : List α} {bs : List β}, All2 R as bs → All2 S as bs
  | _, _, .nil => .nil
  | _, _, .cons h t => .cons (f _ _ h) (t.imp f)
theorem All2.snoc {α β : Type} {R : α → β → Prop} {a : α} {b : β} (h : R a b) : ∀ {as : List α} {bs : List β}, All2 R as bs → All2 R (as ++ [a]) (bs ++ [b])
  | _, _, .nil => .cons h .nil
  | _, _, .cons h' t => .cons h' (t.snoc h)
theorem All2.length {α β : Type} {R : α → β → Prop} : ∀ {as : List α} {bs : List β}, All2 R as bs → as.length = bs.length
  | _, _, .nil => rfl
  | _, _, .cons _ t => by rw [List.length_cons, List.length_cons, t.length]
theorem All2.get {α β : Type} {R : α → β → Prop} : ∀ {as : List α} {bs : List β}, All2 R as bs → ∀ (i : Nat) (a : α), as[i]? = some a → ∃ b, bs[i]? = some b ∧ R a b
  | _, _, .nil, i, a, h => by simp at h
  | _, _, .cons (b := b) h _, 0, a, e => ⟨b, rfl, by simp at e; exact e ▸ h⟩
  | _, _, .cons _ t, i + 1, a, e => by simpa using t.get i a (by simpa using e)

/-- how many values the targets take: -1 as soon as one of them takes any number -/
def tot (cs : List Int) : Int := if (-1 : Int) ∈ cs then -1 else cs.sum
def ones : List Addr := [551, 552, 553, 556, 557, 560, 562, 564]
def manys : List Addr := [566, 567, 572, 574, 579, 581]
def Leaf (v : Value) (c : Int) : Prop := (c = 1 ∧ ∃ a ∈ ones, v = .ref a) ∨ (c = -1 ∧ ∃ a ∈ manys, v = .ref a)
/-- a target of height h at most, as the ledger bears it; c: how many values it takes -/
noncomputable def NodeH : Nat → List (Addr × Obj) → Value → Int → Prop
  | 0, _, v, c => Leaf v c
  | h + 1, tl, v, c => Leaf v c ∨ ∃ q l tk vs n cs, v = .ref q ∧ (q, tup [.str (Str.ofString "list") tk, .ref l]) ∈ tl ∧ (l, lst vs n) ∈ tl ∧ vs.length ≤ 8 ∧ c = tot cs ∧ All2 (NodeH h tl) vs cs
theorem NodeH.mono : ∀ (h : Nat) {tl tl' : List (Addr × Obj)} {v : Value} {c : Int}, NodeH h tl v c → (∀ p ∈ tl, p ∈ tl') → NodeH h tl' v c
  | 0, _, _, _, _, x, _ => x
  | h + 1, tl, tl', v, c, x, hs => by
    rcases x with x | ⟨q, l, tk, vs, n, cs, e, h1, h2, h3, h4, h5⟩
    · exact .inl x
    · exact .inr ⟨q, l, tk, vs, n, cs, e, hs _ h1, hs _ h2, h3, h4, h5.imp fun a b y => NodeH.mono h y hs⟩
theorem NodeH.up : ∀ (h : Nat) {tl : List (Addr × Obj)} {v : Value} {c : Int}, NodeH h tl v c → NodeH (h + 1) tl v c
  | 0, _, _, _, x => .inl x
  | h + 1, tl, v, c, x => by
    rcases x with x | ⟨q, l, tk, vs, n, cs, e, h1, h2, h3, h4, h5⟩
    · exact .inl x
    · exact .inr ⟨q, l, tk, vs, n, cs, e, h1, h2, h3, h4, h5.imp fun a b y => NodeH.up h y⟩
theorem tot_nil : tot [] = 0 := rfl
theorem sum_nonneg {cs : List Int} (h : ∀ c ∈ cs, 0 ≤ c) : 0 ≤ cs.sum := by
  induction cs with
  | nil => exact Int.le_refl _
  | cons a r ih =>
    rw [List.sum_cons]
    have h1 := h a (.head _)
    have h2 := ih fun c hc => h c (.tail _ hc)
    omega
theorem tot_ge {cs : List Int} (h : ∀ c ∈ cs, -1 ≤ c) : -1 ≤ tot cs := by
  unfold tot
  split
  · exact Int.le_refl _
  · rename_i hn
    have h0 : 0 ≤ cs.sum := sum_nonneg fun c hc => by
      have h1 := h c hc
      have h2 : c ≠ -1 := fun e => hn (e ▸ hc)
      omega
    omega
theorem tot_neg {cs : List Int} (h : ∀ c ∈ cs, -1 ≤ c) : tot cs < 0 ↔ (-1 : Int) ∈ cs := by
  unfold tot
  split
  · rename_i hn; exact ⟨fun _ => hn, fun _ => by decide⟩
  · rename_i hn
    have h0 : 0 ≤ cs.sum := sum_nonneg fun c hc => by
      have h1 := h c hc
      have h2 : c ≠ -1 := fun e => hn (e ▸ hc)
      omega
    exact ⟨fun hh => absurd h0 (by omega), fun hh => absurd hh hn⟩
theorem tot_snoc {cs : List Int} {c : Int} (h : ∀ c ∈ cs, -1 ≤ c) (hc : -1 ≤ c) : tot (cs ++ [c]) = if c < 0 ∨ tot cs < 0 then -1 else tot cs + c := by
  by_cases h1 : c < 0 ∨ tot cs < 0
  · rw [if_pos h1]
    have : (-1 : Int) ∈ cs ++ [c] := by
      rcases h1 with h1 | h1
      · have : c = -1 := by omega
        rw [this]; simp
      · exact List.mem_append.mpr (.inl ((tot_neg h).mp h1))
    unfold tot
    rw [if_pos this]
  · rw [if_neg h1]
    have hn : ¬ (-1 : Int) ∈ cs := fun hm => h1 (.inr ((tot_neg h).mpr hm))
    have hn' : ¬ (-1 : Int) ∈ cs ++ [c] := by
      intro hm
      rcases List.mem_append.mp hm with hm | hm
      · exact hn hm
      · have : c = -1 := (List.mem_singleton.mp hm).symm
        exact h1 (.inl (by omega))
    unfold tot
    rw [if_neg hn, if_neg hn', List.sum_append]
    simp
theorem Leaf.ge {v : Value} {c : Int} (h : Leaf v c) : -1 ≤ c := by
  rcases h with ⟨rfl, _⟩ | ⟨rfl, _⟩ <;> decide
theorem All2.ge {h : Nat} {tl : List (Addr × Obj)} (f : ∀ v c, NodeH h tl v c → -1 ≤ c) : ∀ {vs : List Value} {cs : List Int}, All2 (NodeH h tl) vs cs → ∀ c ∈ cs, -1 ≤ c
  | _, _, .nil, _, hc => nomatch hc
  | _, _, .cons h' t, c, hc => by
    rcases List.mem_cons.mp hc with rfl | hc
    · exact f _ _ h'
    · exact t.ge f c hc
theorem NodeH.ge : ∀ (h : Nat) {tl : List (Addr × Obj)} {v : Value} {c : Int}, NodeH h tl v c → -1 ≤ c
  | 0, _, _, _, x => Leaf.ge x
  | h + 1, tl, v, c, x => by
    rcases x with x | ⟨q, l, tk, vs, n, cs, e, h1, h2, h3, h4, h5⟩
    · exact Leaf.ge x
    · rw [h4]; exact tot_ge (h5.ge fun v c y => NodeH.ge h y)
end Mine
end
section
open PySem PySem.W PyProof.Rows PySem.Calls PySem.Spec PyProof.V
namespace Mine
section
variable {prog : Program} {w : World} {A : Around} {E : Value → Shared → Prop} {s : Shared} {env : Env} {h₀ : Heap} {x y : Str} {body : List Stmt} {Q : Flow → Shared → Prop}
/-- a turn's end: one node more on the list, what was made for it on the ledger, the count reckoned on -/
def TEnd (h₀ : Heap) (L : Addr) (x y : Str) (stored : List Str) (m₀ : Str → Option Value) (k : Nat) (cup items nl : Addr) (n1 n2 : Nat) (xs : List Value) (vs : List Value) (ds : List Int) (R : List (Addr × Obj)) (s₁ s₂ : Shared) : Prop :=
  ∃ h' tk' m' c' ct' v cn n' new tt', s₂ = { s₁ with heap := h', toks := tk' } ∧ Fr h₀ L h' m' ∧
    News h₀ L h' ((cup, cupO items n1 c' ct') :: (items, lst xs n2) :: (nl, lst (vs ++ [v]) n') :: (new ++ R)) ∧ 0 ≤ c' ∧ NodeH k new v cn ∧
    (∀ p ∈ new, p.1 ≠ cup ∧ p.1 ≠ items ∧ p.1 ≠ nl ∧ ∀ q ∈ R, p.1 ≠ q.1) ∧ m' y = some (.int (tot (ds ++ [cn])) tt') ∧ ∀ z, z ≠ x → z ≠ y → stored.contains z = false → m' z = m₀ z
def TPost (h₀ : Heap) (L : Addr) (x y : Str) (stored : List Str) (m₀ : Str → Option Value) (k : Nat) (cup items nl : Addr) (n1 n2 : Nat) (xs : List Value) (vs : List Value) (ds : List Int) (R : List (Addr × Obj)) (s₁ : Shared) (Q : Flow → Shared → Prop) (f : Flow) (s₂ : Shared) : Prop :=
  match f with
  | .ret v => Q (.ret v) s₂
  | .brk => Q .next s₂
  | _ => TEnd h₀ L x y stored m₀ k cup items nl n1 n2 xs vs ds R s₁ s₂
theorem targ_loop {r : Addr} {count : Int} {t₀ u₀ v₀ : Tok} {m₀ : Str → Option Value} {cup items nl : Addr} {n1 n2 nn k : Nat} {xs : List Value} {c : Int} {ct tt : Tok} {rest : List (Addr × Obj)} (stored : List Str)
    (hh : A.handled = none) (hr : IsRange s.heap r 0 count 1 t₀ u₀ v₀) (hc0 : 0 ≤ count) (hc4 : count ≤ 4) (F : Fr h₀ env.locals s.heap m₀)
    (N : News h₀ env.locals s.heap ((cup, cupO items n1 c ct) :: (items, lst xs n2) :: (nl, lst [] nn) :: rest)) (hc : 0 ≤ c)
    (off : ∀ p ∈ rest, p.1 ≠ cup ∧ p.1 ≠ nl) (hy : m₀ y = some (.int 0 tt))
    (turn : ∀ i ti c ct vs n ds tt (u : Str → Option Value) R h tk, 0 ≤ c → vs.length < 4 → vs.length = ds.length → (∀ d ∈ ds, -1 ≤ d) → (∀ p ∈ R, p.1 ≠ cup) → (∀ p ∈ R, p.1 ≠ nl) →
      Fr h₀ env.locals h (fun z => if z = x then some (.int i ti) else if z = y then some (.int (tot ds) tt) else if stored.contains z then u z else m₀ z) →
      News h₀ env.locals h ((cup, cupO items n1 c ct) :: (items, lst xs n2) :: (nl, lst vs n) :: R) →
      wpAny (model prog w) A (execs body env) (TPost h₀ env.locals x y stored m₀ k cup items nl n1 n2 xs vs ds R { s with heap := h, toks := tk } Q) E { s with heap := h, toks := tk })
    (done : ∀ (u : Str → Option Value) c ct vs n ds tt tl h tk, 0 ≤ c → vs.length ≤ 4 → All2 (NodeH k tl) vs ds → (∀ p ∈ tl, p.1 ≠ cup ∧ p.1 ≠ items ∧ p.1 ≠ nl ∧ ∀ q ∈ rest, p.1 ≠ q.1) →
      Fr h₀ env.locals h (fun z => if z = x then u z else if z = y then some (.int (tot ds) tt) else if stored.contains z then u z else m₀ z) →
      News h₀ env.locals h ((cup, cupO items n1 c ct) :: (items, lst xs n2) :: (nl, lst vs n) :: (tl ++ rest)) → Q .next { s with heap := h, toks := tk }) :
    wpAny (model prog w) A (pyIter (.ref r)) (fun it s₂ => LoopAtV prog w A h₀ env x body Q E it s₂) E s := by
  have canon : ∀ (m₁ : Str → Option Value) (v : Value) (xv : Option Value), m₁ y = some v → (∀ z, z ≠ x → z ≠ y → stored.contains z = false → m₁ z = m₀ z) →
      (fun z => if z = x then xv else m₁ z) = fun z => if z = x then xv else if z = y then some v else if stored.contains z then m₁ z else m₀ z := by
    intro m₁ v xv h1 h2
    funext z
    by_cases e1 : z = x
    · simp [e1]
    · simp only [if_neg e1]
      by_cases e2 : z = y
      · subst e2; simp [h1]
      · simp only [if_neg e2]
        cases e3 : stored.contains z with
        | true => simp
        | false => simp only [Bool.false_eq_true, if_false]; exact h2 z e1 e2 e3
  refine tbr_invG (n := count.toNat) (fun i m nx => ∃ c ct vs n ds tt tl, nx = (cup, cupO items n1 c ct) :: (items, lst xs n2) :: (nl, lst vs n) :: (tl ++ rest) ∧ 0 ≤ c ∧ vs.length = i ∧ All2 (NodeH k tl) vs ds ∧
      (∀ p ∈ tl, p.1 ≠ cup ∧ p.1 ≠ items ∧ p.1 ≠ nl ∧ ∀ q ∈ rest, p.1 ≠ q.1) ∧ m y = some (.int (tot ds) tt) ∧ ∀ z, z ≠ x → z ≠ y → stored.contains z = false → m z = m₀ z)
    hh hr (small_one (by omega) (by omega) (by omega) (by omega)) ?_ F N ⟨c, ct, [], nn, [], tt, [], rfl, hc, rfl, .nil, (fun _ h => nomatch h), hy, fun _ _ _ _ => rfl⟩ ?_ ?_
  · have := rangeSize_nat 0 count
    rw [this, Int.sub_zero]
  · rintro i kk t m₁ nx h tk own hk hoff ⟨c₁, ct₁, vs, n, ds, tt₁, tl, rfl, hc₁, hvi, hall, htl, hm, hz⟩ F₁ N₁
    have hi4 : vs.length < 4 := by
      have := (List.getElem?_eq_some_iff.mp hk).1
      rw [rangeKs_length] at this
      omega
    rw [canon m₁ _ _ hm hz] at F₁
    have oc : ∀ p ∈ own, p.1 ≠ cup := fun p hp => hoff p hp _ (.head _)
    have oi : ∀ p ∈ own, p.1 ≠ items := fun p hp => hoff p hp _ (.tail _ (.head _))
    have on : ∀ p ∈ own, p.1 ≠ nl := fun p hp => hoff p hp _ (.tail _ (.tail _ (.head _)))
    have ot : ∀ p ∈ own, ∀ q ∈ tl, p.1 ≠ q.1 := fun p hp q hq => hoff p hp _ (.tail _ (.tail _ (.tail _ (List.mem_append.mpr (.inl hq)))))
    have or : ∀ p ∈ own, ∀ q ∈ rest, p.1 ≠ q.1 := fun p hp q hq => hoff p hp _ (.tail _ (.tail _ (.tail _ (List.mem_append.mpr (.inr hq)))))
    refine wpAny_mono (turn kk t c₁ ct₁ vs n ds tt₁ m₁ ((tl ++ rest) ++ own) h tk hc₁ hi4 hall.length (hall.ge fun v c y => NodeH.ge k y) ?_ ?_ F₁ (by simpa using N₁)) (fun f s₂ p => ?_) fun _ _ e => e
    · intro p hp
      rcases List.mem_append.mp hp with hp | hp
      · rcases List.mem_append.mp hp with hp | hp
        · exact (htl p hp).1
        · exact (off p hp).1
      · exact oc p hp
    · intro p hp
      rcases List.mem_append.mp hp with hp | hp
      · rcases List.mem_append.mp hp with hp | hp
        · exact (htl p hp).2.2.1
        · exact (off p hp).2
      · exact on p hp
    · have fin : TEnd h₀ env.locals x y stored m₀ k cup items nl n1 n2 xs vs ds ((tl ++ rest) ++ own) { s with heap := h, toks := tk } s₂ →
          TbEnd h₀ env.locals (fun m nx => ∃ c ct vs n ds tt tl, nx = (cup, cupO items n1 c ct) :: (items, lst xs n2) :: (nl, lst vs n) :: (tl ++ rest) ∧ 0 ≤ c ∧ vs.length = i + 1 ∧ All2 (NodeH k tl) vs ds ∧
            (∀ p ∈ tl, p.1 ≠ cup ∧ p.1 ≠ items ∧ p.1 ≠ nl ∧ ∀ q ∈ rest, p.1 ≠ q.1) ∧ m y = some (.int (tot ds) tt) ∧ ∀ z, z ≠ x → z ≠ y → stored.contains z = false → m z = m₀ z) own { s with heap := h, toks := tk } s₂ := by
        rintro ⟨h', tk', m', c', ct', v, cn, n', new, tt', e, F', N', hc', hnode, hnew, hm', hz'⟩
        refine ⟨h', tk', m', _, (cup, cupO items n1 c' ct') :: (items, lst xs n2) :: (nl, lst (vs ++ [v]) n') :: ((new ++ tl) ++ rest), e, F', N', ?_, ?_, ?_,
          c', ct', vs ++ [v], n', ds ++ [cn], tt', new ++ tl, rfl, hc', by rw [List.length_append, hvi]; rfl, All2.snoc (hnode.mono k fun p hp => List.mem_append.mpr (.inl hp)) (hall.imp fun a b y => NodeH.mono k y fun p hp => List.mem_append.mpr (.inr hp)), ?_, hm', hz'⟩
        · intro p hp
          rcases List.mem_cons.mp hp with rfl | hp
          · exact .head _
          rcases List.mem_cons.mp hp with rfl | hp
          · exact .tail _ (.head _)
          rcases List.mem_cons.mp hp with rfl | hp
          · exact .tail _ (.tail _ (.head _))
          refine List.mem_cons_of_mem _ (List.mem_cons_of_mem _ (List.mem_cons_of_mem _ ?_))
          simp only [List.mem_append] at hp ⊢
          rcases hp with (hp | hp) | hp
          · exact .inl hp
          · exact .inr (.inl (.inl hp))
          · exact .inr (.inl (.inr hp))
        · intro p hp
          refine List.mem_cons_of_mem _ (List.mem_cons_of_mem _ (List.mem_cons_of_mem _ ?_))
          simp only [List.mem_append]
          exact .inr (.inr hp)
        · intro p hp q hq
          rcases List.mem_cons.mp hq with rfl | hq
          · exact oc p hp
          rcases List.mem_cons.mp hq with rfl | hq
          · exact oi p hp
          rcases List.mem_cons.mp hq with rfl | hq
          · exact on p hp
          simp only [List.mem_append] at hq
          rcases hq with (hq | hq) | hq
          · exact ((hnew q hq).2.2.2 p (by simp only [List.mem_append]; exact .inr hp)).symm
          · exact ot p hp q hq
          · exact or p hp q hq
        · intro p hp
          rcases List.mem_append.mp hp with hp | hp
          · exact ⟨(hnew p hp).1, (hnew p hp).2.1, (hnew p hp).2.2.1, fun q hq => (hnew p hp).2.2.2 q (by simp only [List.mem_append]; exact .inl (.inr hq))⟩
          · exact htl p hp
      cases f with
      | ret v => exact p
      | brk => exact p
      | next => exact fin p
      | cont => exact fin p
  · rintro m₁ nx h tk ⟨c₁, ct₁, vs, n, ds, tt₁, tl, rfl, hc₁, hvi, hall, htl, hm, hz⟩ F₁ N₁
    refine done m₁ c₁ ct₁ vs n ds tt₁ tl h tk hc₁ (by omega) hall htl ?_ N₁
    have e := canon m₁ _ (m₁ x) hm hz
    have e' : (fun z => if z = x then m₁ x else m₁ z) = m₁ := by
      funext z
      by_cases h1 : z = x
      · simp [h1]
      · simp [h1]
    rw [e'] at e
    have e2 : (fun z => if z = x then m₁ x else if z = y then some (Value.int (tot ds) tt₁) else if stored.contains z then m₁ z else m₀ z) = fun z => if z = x then m₁ z else if z = y then some (Value.int (tot ds) tt₁) else if stored.contains z then m₁ z else m₀ z := by
      funext z
      by_cases h1 : z = x
      · simp [h1]
      · simp [h1]
    rw [← e2, ← e]
    exact F₁
end
end Mine
end
section
open PySem PySem.W PyProof.Rows PySem.Calls PySem.Spec PyProof.V
namespace Mine
section
variable {w : World} {A : Around} {s : Shared} {E : Value → Shared → Prop} {h₀ : Heap} {L : Addr} {m : Str → Option Value} {Q : Value → Shared → Prop}
set_option maxRecDepth 100000 in
theorem ones_at (P : Params) : ∃ tks dd n sl, (hd.heap_1_39 P).lookup 565 = some ⟨.type "tuple", dd, .seq (ones.map Value.ref).toArray n, sl⟩ ∧ tks = (0 : Nat) := ⟨0, _, _, _, rfl, rfl⟩
set_option maxRecDepth 100000 in
theorem manys_at (P : Params) : ∃ tks dd n sl, (hd.heap_1_39 P).lookup 582 = some ⟨.type "tuple", dd, .seq (manys.map Value.ref).toArray n, sl⟩ ∧ tks = (0 : Nat) := ⟨0, _, _, _, rfl, rfl⟩
theorem pick {prog : Program} {K : Frag} {t : Addr} {value slice : Expr} {l : List Addr} {dd : Option Addr} {n : Nat} {sl : Array (Option Value)} {k : Int} {u : Tok} (F : Fr h₀ L s.heap m) (X₀ : K.In h₀)
    (hl : K.lookup t = some ⟨.type "tuple", dd, .seq (l.map Value.ref).toArray n, sl⟩) (h0 : 0 ≤ k) (h8 : k < l.length) (hz : l.length ≤ 8) (h : ∀ a ∈ l, Q (.ref a) s)
    (hs : subscripted slice false (.ref t) (.int k u) = operate [.ref t, .int k u] (getItem (.ref t) (.int k u)) := by with_unfolding_all rfl) :
    wpAny (model prog w) A (subscriptTail value slice (.ref t) (.int k u)) Q E s := by
  have hk : k.toNat < l.length := by omega
  refine topTup_K (j := k.toNat) (v := .ref l[k.toNat]) F X₀ hl (by omega) (by omega) ?_ (by simp [hk]) (h _ (List.getElem_mem hk)) hs
  rw [List.length_map]
  exact seqIndex_at h0 h8
theorem pick_one {prog : Program} {value slice : Expr} {k : Int} {u : Tok} (F : Fr h₀ L s.heap m) (X₀ : (hd.heap_1_39 w.params).In h₀) (h0 : 0 ≤ k) (h8 : k < 8) (h : ∀ a, Leaf (.ref a) 1 → Q (.ref a) s)
    (hs : subscripted slice false (.ref 565) (.int k u) = operate [.ref 565, .int k u] (getItem (.ref 565) (.int k u)) := by with_unfolding_all rfl) :
    wpAny (model prog w) A (subscriptTail value slice (.ref 565) (.int k u)) Q E s := by
  obtain ⟨_, dd, n, sl, e, _⟩ := ones_at w.params
  exact pick F X₀ e h0 (by simpa [ones] using h8) (by decide) (fun a ha => h a (.inl ⟨rfl, a, ha, rfl⟩)) hs
theorem pick_many {prog : Program} {value slice : Expr} {k : Int} {u : Tok} (F : Fr h₀ L s.heap m) (X₀ : (hd.heap_1_39 w.params).In h₀) (h0 : 0 ≤ k) (h6 : k < 6) (h : ∀ a, Leaf (.ref a) (-1) → Q (.ref a) s)
    (hs : subscripted slice false (.ref 582) (.int k u) = operate [.ref 582, .int k u] (getItem (.ref 582) (.int k u)) := by with_unfolding_all rfl) :
    wpAny (model prog w) A (subscriptTail value slice (.ref 582) (.int k u)) Q E s := by
  obtain ⟨_, dd, n, sl, e, _⟩ := manys_at w.params
  exact pick F X₀ e h0 (by simpa [manys] using h6) (by decide) (fun a ha => h a (.inr ⟨rfl, a, ha, rfl⟩)) hs
end
end Mine
namespace Mine
section
variable {h₀ : Heap} {L : Addr} {x y : Str} {stored : List Str} {m₀ m' : Str → Option Value} {k : Nat} {cup items nl : Addr} {n1 n2 n' : Nat} {xs vs : List Value} {ds : List Int} {R : List (Addr × Obj)} {s₁ : Shared} {Q : Flow → Shared → Prop}
  {h' : Heap} {tk' : Nat} {n : Nat} {c' cn t : Int} {ct' tt' : Tok} {news' : List (Addr × Obj)} {v : Value}
theorem tpost_next (F' : Fr h₀ L h' m') (N' : News h₀ L h' news') (new : List (Addr × Obj)) (hsub : ∀ p ∈ (cup, cupO items n1 c' ct') :: (items, lst xs n2) :: (nl, listOf (vs.toArray.push v) n') :: (new ++ R), p ∈ news') (hc' : 0 ≤ c')
    (hnode : NodeH k new v cn) (hnew : ∀ p ∈ new, p.1 ≠ cup ∧ p.1 ≠ items ∧ p.1 ≠ nl ∧ ∀ q ∈ R, p.1 ≠ q.1) (hm : m' y = some (.int t tt')) (ht : t = tot (ds ++ [cn])) (hz : ∀ z, z ≠ x → z ≠ y → stored.contains z = false → m' z = m₀ z) :
    TPost h₀ L x y stored m₀ k cup items nl n1 n2 xs vs ds R s₁ Q .next { s₁ with heap := h', toks := tk' } := by
  refine ⟨h', tk', m', c', ct', v, cn, n', new, tt', rfl, F', ?_, hc', hnode, hnew, by rw [hm, ht], hz⟩
  have e : lst (vs ++ [v]) n' = listOf (vs.toArray.push v) n' := by
    show listOf (vs ++ [v]).toArray n' = _
    rw [List.push_toArray]
  rw [e]
  exact news_sub N' hsub
theorem tpost_leaf (F' : Fr h₀ L h' m') (N' : News h₀ L h' news') (hsub : ∀ p ∈ (cup, cupO items n1 c' ct') :: (items, lst xs n2) :: (nl, listOf (vs.toArray.push v) n') :: R, p ∈ news') (hc' : 0 ≤ c')
    (hleaf : Leaf v cn) (hm : m' y = some (.int t tt')) (ht : t = tot (ds ++ [cn])) (hz : ∀ z, z ≠ x → z ≠ y → stored.contains z = false → m' z = m₀ z) :
    TPost h₀ L x y stored m₀ k cup items nl n1 n2 xs vs ds R s₁ Q .next { s₁ with heap := h', toks := tk' } :=
  tpost_next F' N' [] hsub hc' (by cases k with | zero => exact hleaf | succ k => exact .inl hleaf) (fun _ h => nomatch h) hm ht hz
theorem tpost_node {j : Nat} {q tA nl' : Addr} {o : Obj} {tk : Tok} {vs' : List Value} {nn : Nat} {ds' : List Int} {tl' R2 : List (Addr × Obj)} (F' : Fr h₀ L h' m')
    (N' : News h₀ L h' ((q, tup [.str (Str.ofString "list") tk, .ref nl']) :: (cup, cupO items n1 c' ct') :: (items, lst xs n2) :: (nl, listOf (vs.toArray.push (.ref q)) n') :: (tA, o) :: R2))
    (hR2 : R2 = (nl', lst vs' nn) :: (tl' ++ R)) (l1 : (@LT.lt Nat _ cup q) ∧ (@LT.lt Nat _ items q) ∧ (@LT.lt Nat _ nl q) ∧ (@LT.lt Nat _ tA q) ∧ AllLt q R2) (hc' : 0 ≤ c') (hall : All2 (NodeH j tl') vs' ds') (hlen : vs'.length ≤ 4)
    (nC : nl' ≠ cup ∧ nl' ≠ items ∧ ∀ r ∈ (nl, lst vs n) :: R, nl' ≠ r.1) (lC : ∀ p ∈ tl', p.1 ≠ cup ∧ p.1 ≠ items ∧ ∀ r ∈ (nl, lst vs n) :: R, p.1 ≠ r.1)
    (hm : m' y = some (.int t tt')) (ht : t = tot (ds ++ [tot ds'])) (hz : ∀ z, z ≠ x → z ≠ y → stored.contains z = false → m' z = m₀ z) :
    TPost h₀ L x y stored m₀ (j + 1) cup items nl n1 n2 xs vs ds R s₁ Q .next { s₁ with heap := h', toks := tk' } := by
  obtain ⟨a1, a2, a3, a4, a5⟩ := l1
  have a6 := ktn_ltOf a5
  subst hR2
  refine tpost_next (v := .ref q) (cn := tot ds') (ct' := ct') (n' := n') F' N' ((q, tup [.str (Str.ofString "list") tk, .ref nl']) :: (nl', lst vs' nn) :: tl') ?_ hc' ?_ ?_ hm ht hz
  · intro p hp
    rcases List.mem_cons.mp hp with rfl | hp
    · exact .tail _ (.head _)
    rcases List.mem_cons.mp hp with rfl | hp
    · exact .tail _ (.tail _ (.head _))
    rcases List.mem_cons.mp hp with rfl | hp
    · exact .tail _ (.tail _ (.tail _ (.head _)))
    rcases List.mem_cons.mp hp with rfl | hp
    · exact .head _
    exact .tail _ (.tail _ (.tail _ (.tail _ (.tail _ hp))))
  · exact .inr ⟨q, nl', tk, vs', nn, ds', rfl, .head _, .tail _ (.head _), by omega, rfl, hall.imp fun a b y => NodeH.mono j y fun p hp => .tail _ (.tail _ hp)⟩
  · intro p hp
    rcases List.mem_cons.mp hp with rfl | hp
    · refine ⟨(Nat.ne_of_lt a1).symm, (Nat.ne_of_lt a2).symm, (Nat.ne_of_lt a3).symm, fun r hr => (Nat.ne_of_lt (a6 r (.tail _ (List.mem_append.mpr (.inr hr))))).symm⟩
    rcases List.mem_cons.mp hp with rfl | hp
    · exact ⟨nC.1, nC.2.1, nC.2.2 _ (.head _), fun r hr => nC.2.2 r (.tail _ hr)⟩
    · have z := lC p hp
      exact ⟨z.1, z.2.1, z.2.2 _ (.head _), fun r hr => z.2.2 r (.tail _ hr)⟩
theorem tot_one {ds : List Int} (h : ∀ d ∈ ds, -1 ≤ d) (hn : ¬ tot ds < 0) : tot ds + 1 = tot (ds ++ [1]) := by
  rw [tot_snoc h (by decide), if_neg (by simp only [not_or]; exact ⟨by decide, hn⟩)]
theorem tot_lost {ds : List Int} {c : Int} (h : ∀ d ∈ ds, -1 ≤ d) (hc : -1 ≤ c) (hn : tot ds < 0) : -1 = tot (ds ++ [c]) := by
  rw [tot_snoc h hc, if_pos (.inr hn)]
theorem tot_any {ds : List Int} {c : Int} (h : ∀ d ∈ ds, -1 ≤ d) (hc : -1 ≤ c) (hn : c < 0) : -1 = tot (ds ++ [c]) := by
  rw [tot_snoc h hc, if_pos (.inl hn)]
theorem tot_add {ds : List Int} {c : Int} (h : ∀ d ∈ ds, -1 ≤ d) (hc : -1 ≤ c) (hn : ¬ c < 0) (hn' : ¬ tot ds < 0) : tot ds + c = tot (ds ++ [c]) := by
  rw [tot_snoc h hc, if_neg (by simp only [not_or]; exact ⟨hn, hn'⟩)]
end
end Mine
end
section
open PySem PySem.W PyProof.Rows PySem.Calls
namespace Mine
def Stop (P : Prop) : Prop := P
theorem stop_intro {P : Prop} (h : Stop P) : P := h
local macro_rules | `(tactic| k_all) => `(tactic| with_reducible assumption)
local macro_rules | `(tactic| walk_at "call type:range") => `(tactic| (k_here; (rename Fr _ _ _ _ => F'); (rename News _ _ _ _ => N'); (with_unfolding_all refine range1_rows F' N' ?_; intro _ _ _ _ _ _ _ _ _)))
local macro_rules | `(tactic| walk_at "pyIter ref") => `(tactic| (k_here; refine stop_intro ?_))
local macro_rules | `(tactic| walk_at "call ref") => `(tactic| (k_here; (with_reducible show wpAny _ _ (call (Value.ref 594) _) _ _ _); k_dflt (refine' sip_call ?k1 ?k2 ?k3 ?k4 ?k5 ?k6 ?k7 ?k8 ?k9 ?k10 ?k11 ?k12 ?k13 ?k14 ?_; (case k1 => k_asm); (case k2 => k_asm); (case k3 => k_asm); (case k4 => k_asm); (case k5 => first | exact rfl | assumption); (case k6 => k_asm); (case k7 => k_updF); (case k8 => k_mem); (case k9 => assumption); (case k10 => assumption); (case k11 => assumption); (case k12 => assumption); (case k13 => first | decide | omega); (case k14 => ktr_room)); intro kk9 tk9 c9 ct9 h9 tt9 hk9 hm9 hc9 F9 N9; (try dsimp only)))
local macro_rules | `(tactic| walk_at "subscriptTail") => `(tactic| (k_here; k_dflt (first
  | (refine' pick_one ?k1 ?k2 ?k3 ?k4 ?_; (case k1 => k_asm); (case k2 => k_asm); (case k3 => assumption); (case k4 => assumption))
  | (refine' pick_many ?k1 ?k2 ?k3 ?k4 ?_; (case k1 => k_asm); (case k2 => k_asm); (case k3 => assumption); (case k4 => assumption))); intro a9 hleaf9))
local macro_rules | `(tactic| walk_at "call ref") => `(tactic| (k_here; (with_reducible show wpAny _ _ (call (Value.ref 601) _) _ _ _); refine stop_intro ?_))
def TargetsSat (w : World) (mean : ExcName → Option Value) (mg mb : Str → Option Value) (k : Nat) : Prop :=
  ∀ (dp un : Nat) (gd : Option (List Code)) (cn : Str) (cs : Scope) (a : Addr) (ccd : Value) (cl : List (Str × Addr)) (outer : List Env)
    (A₀ : Around) (base h₀ : Heap) (L : Addr) (m : Str → Option Value) (s : Shared) (Q E : Value → Shared → Prop)
    (cup items : Addr) (c : Int) (ct : Tok) (n1 n2 : Nat) (xs : List Value) (ns : List Int) (rest : List (Addr × Obj)) (count deep : Int) (ut dt : Tok)
    (_B : Below A₀ base outer h₀) (_F : Fr h₀ L s.heap m) (_X : (hd.heap_1_39 w.params).In h₀)
    (_T : Top hd.view_1_40 (looseW hd.view_1_40 [Str.ofString "WORD_SIGNS", Str.ofString "CLOSERS", Str.ofString "FLAGS_OF", Str.ofString "_law_many"]) mean mg mb h₀) (_hk : cs.kind = .function)
    (_N : News h₀ L s.heap ((cup, cupO items n1 c ct) :: (items, lst xs n2) :: rest))
    (_hi : IntsAre xs ns) (_hl : ns.length ≤ 63) (_hc : 0 ≤ c) (_hc0 : 0 ≤ count) (_hc4 : count ≤ 4) (_hdeep : deep + k = 2) (_ne : @Ne Nat cup items) (_off : ∀ p ∈ rest, p.1 ≠ cup)
    (_hd : dp + 20 + 10 * k < recursionLimit) (_hu : un + 100 + 20 * k < cLine)
    (_hret : ∀ t nl tt vs n ds tl c' ct' h' tk', All2 (NodeH k tl) vs ds → vs.length ≤ 4 → 0 ≤ c' → (∀ p ∈ (t, tup [.ref nl, .int (tot ds) tt]) :: (nl, lst vs n) :: tl, p.1 ≠ cup ∧ p.1 ≠ items ∧ ∀ q ∈ rest, p.1 ≠ q.1) → Fr h₀ L h' m →
      News h₀ L h' ((cup, cupO items n1 c' ct') :: (items, lst xs n2) :: (t, tup [.ref nl, .int (tot ds) tt]) :: (nl, lst vs n) :: (tl ++ rest)) → Q (.ref t) { s with heap := h', toks := tk' }),
    wpAny (model PySem.Challenge.rw_qz0113_01.row.prog w) (ktrTop dp un gd cn cs L a ccd cl outer) (call (.ref 601) [.ref cup, .int count ut, .int deep dt]) Q E s
set_option maxRecDepth 100000 in
set_option maxHeartbeats 8000000 in
theorem targets_step {w : World} {mean : ExcName → Option Value} {mg mb : Str → Option Value} {k : Nat} (IH : ∀ j, j + 1 = k → TargetsSat w mean mg mb j) : TargetsSat w mean mg mb k := by
  unfold TargetsSat
  w_top off
  k_fill
  intro dp un gd cn cs a ccd cl outer A₀ base h₀ L m s Q E cup items c ct n1 n2 xs ns rest count deep ut dt B F X T hk N hi hl hc hc0 hc4 hdeep ne off hd hu hret
  refine wpAny_call ?_
  k_dflt ktr_enter
  k_steps
  unfold Stop
  rename_i gG LL hA FG B1 X1 T1 tkx nl hB l1 D hC l2 hE hF hG F1 N1 hH tkH ta tb tc hR F2 N2 hkeep
  refine targ_loop (y := Str.ofString "taken") (k := k) (c := c) (ct := ct) (nn := 0) (cup := cup) (items := items) (nl := nl) (n1 := n1) (n2 := n2) (xs := xs) (rest := rest) [Str.ofString "way", Str.ofString "inner", Str.ofString "more", Str.ofString "table"] (by rfl) hR hc0 hc4 F2 (news_sub N2 ?_) hc ?_ (by with_unfolding_all rfl) ?_ ?_
  · intro p hp
    rcases List.mem_cons.mp hp with rfl | hp
    · exact .tail _ (.tail _ (.head _))
    rcases List.mem_cons.mp hp with rfl | hp
    · exact .tail _ (.tail _ (.tail _ (.head _)))
    rcases List.mem_cons.mp hp with rfl | hp
    · exact .tail _ (.head _)
    · exact .tail _ (.tail _ (.tail _ (.tail _ hp)))
  · intro p hp
    exact ⟨off p hp, Nat.ne_of_lt (ktn_ltOf l1.2.2 p hp)⟩
  · intro i ti c ct vs n ds tt u R h tk hc hl4 hlen hge hRc hRn F N
    clear F1 F2 N1 N2 hR hkeep l2
    have ne2 : @Ne Nat nl cup := Nat.ne_of_gt l1.1
    have ne3 : @Ne Nat nl items := Nat.ne_of_gt l1.2.1
    clear l1
    dsimp only [envOf] at F N
    k_steps
    rotate_left
    iterate 6
      · exact tpost_leaf (by assumption) (by assumption) (by exact fun p hp => .tail _ hp) (by assumption) (by assumption) (by with_unfolding_all rfl) (by first | exact tot_any hge (by decide) (by decide) | exact tot_lost hge (by decide) (by assumption) | exact tot_one hge (by assumption)) (by ktm_same2)
    unfold Stop
    obtain ⟨j, rfl⟩ : ∃ j, k = j + 1 := ⟨k - 1, by omega⟩
    have IHj := IH j rfl
    unfold TargetsSat at IHj
    k_dflt (refine' IHj _ _ _ _ _ _ _ _ _ _ _ _ _ _ _ _ _ _ _ _ _ _ _ _ _ _ _ _ _ _ ?k1 ?k2 ?k3 ?k4 ?k5 ?k6 hi hl ?k7 ?k8 ?k9 ?k10 ne ?k11 ?k12 ?k13 ?_)
    case k1 => k_asm
    case k2 => k_asm
    case k3 => k_asm
    case k4 => k_asm
    case k5 => exact rfl
    case k6 => k_asm
    case k7 => assumption
    case k8 => assumption
    case k9 => omega
    case k10 => omega
    case k11 =>
      intro p hp
      rcases List.mem_cons.mp hp with rfl | hp
      · exact ne2
      · exact hRc p hp
    case k12 => ktr_room
    case k13 => ktr_units
    clear IHj
    intro t nl' tt' vs' n' ds' tl' c' ct' h' tk' hall hlen' hc' hoff F9 N9
    have tC := hoff _ (.head _)
    have nC := hoff _ (.tail _ (.head _))
    have lC := fun p hp => hoff p (.tail _ (.tail _ hp))
    have tne1 : @Ne Nat t cup := tC.1
    have tne2 : @Ne Nat t nl := tC.2.2 _ (.head _)
    clear hoff
    obtain ⟨R2, hR2⟩ : ∃ R2, R2 = (nl', lst vs' n') :: (tl' ++ R) := ⟨_, rfl⟩
    have hR2c : ∀ p ∈ R2, p.1 ≠ cup := by
      intro p hp
      rw [hR2] at hp
      rcases List.mem_cons.mp hp with rfl | hp
      · exact nC.1
      · exact (List.mem_append.mp hp).elim (fun h => (lC p h).1) (hRc p)
    have hR2n : ∀ p ∈ R2, p.1 ≠ nl := by
      intro p hp
      rw [hR2] at hp
      rcases List.mem_cons.mp hp with rfl | hp
      · exact nC.2.2 _ (.head _)
      · exact (List.mem_append.mp hp).elim (fun h => (lC p h).2.2 _ (.head _)) (hRn p)
    have N9' : News gG LL h' ((cup, cupO items n1 c' ct') :: (items, lst xs n2) :: (nl, lst vs n) :: (t, tup [.ref nl', .int (tot ds') tt']) :: R2) := by
      refine news_sub N9 ?_
      intro p hp
      rcases List.mem_cons.mp hp with rfl | hp
      · exact .head _
      rcases List.mem_cons.mp hp with rfl | hp
      · exact .tail _ (.head _)
      rcases List.mem_cons.mp hp with rfl | hp
      · exact .tail _ (.tail _ (.tail _ (.tail _ (List.mem_append.mpr (.inr (.head _))))))
      rcases List.mem_cons.mp hp with rfl | hp
      · exact .tail _ (.tail _ (.head _))
      rw [hR2] at hp
      rcases List.mem_cons.mp hp with rfl | hp
      · exact .tail _ (.tail _ (.tail _ (.head _)))
      rcases List.mem_append.mp hp with hp | hp
      · exact .tail _ (.tail _ (.tail _ (.tail _ (List.mem_append.mpr (.inl hp)))))
      · exact .tail _ (.tail _ (.tail _ (.tail _ (List.mem_append.mpr (.inr (.tail _ hp))))))
    clear N9
    have hge' : -1 ≤ tot ds' := tot_ge (hall.ge fun v c y => NodeH.ge j y)
    try dsimp only
    k_steps
    all_goals exact tpost_node (by assumption) (by assumption) hR2 (by assumption) hc' hall hlen' nC lC (by with_unfolding_all rfl) (by first | exact tot_any hge hge' (by assumption) | exact tot_lost hge hge' (by assumption) | exact tot_add hge hge' (by assumption) (by assumption)) (by ktm_same2)
  · intro u c ct vs n ds tt tl h tk hc hl4 hall htl F N
    clear F1 F2 N1 N2 hR hkeep
    dsimp only [envOf] at F N
    k_steps
    rename_i D9 h9 F9 N9 m9 kF kN T9 X9
    obtain ⟨b1, b2, b3, b4⟩ := m9
    have b5 := ktn_ltOf b4
    have b6 := ktn_ltOf l1.2.2
    refine hret D9 nl tt vs n ds tl c ct _ _ hall hl4 hc ?_ kF (news_sub kN ?_)
    · intro p hp
      rcases List.mem_cons.mp hp with rfl | hp
      · exact ⟨(Nat.ne_of_lt b1).symm, (Nat.ne_of_lt b2).symm, fun r hr => (Nat.ne_of_lt (b5 r (List.mem_append.mpr (.inr hr)))).symm⟩
      rcases List.mem_cons.mp hp with rfl | hp
      · exact ⟨(Nat.ne_of_lt l1.1).symm, (Nat.ne_of_lt l1.2.1).symm, fun r hr => (Nat.ne_of_lt (b6 r hr)).symm⟩
      · have z := htl p hp
        exact ⟨z.1, z.2.1, z.2.2.2⟩
    · intro p hp
      rcases List.mem_cons.mp hp with rfl | hp
      · exact .tail _ (.head _)
      rcases List.mem_cons.mp hp with rfl | hp
      · exact .tail _ (.tail _ (.head _))
      rcases List.mem_cons.mp hp with rfl | hp
      · exact .head _
      rcases List.mem_cons.mp hp with rfl | hp
      · exact .tail _ (.tail _ (.tail _ (.head _)))
      · exact .tail _ (.tail _ (.tail _ (.tail _ hp)))
theorem targets_all {w : World} {mean : ExcName → Option Value} {mg mb : Str → Option Value} : ∀ k, TargetsSat w mean mg mb k
  | 0 => targets_step fun _ h => absurd h (Nat.succ_ne_zero _)
  | k + 1 => targets_step fun j h => Nat.succ.inj h ▸ targets_all k
end Mine
end
section
open PySem PySem.W PyProof.Rows PySem.Calls PySem.Spec PyProof.V
namespace Mine
section
variable {prog : Program} {w : World} {A : Around} {E : Value → Shared → Prop} {s : Shared} {env : Env} {h₀ : Heap} {x : Str} {body : List Stmt} {Q : Flow → Shared → Prop}
/-- a turn's end: nothing but the loop's name has changed -/
def EPost (h₀ : Heap) (L : Addr) (x : Str) (m₀ : Str → Option Value) (R : List (Addr × Obj)) (s₁ : Shared) (f : Flow) (s₂ : Shared) : Prop :=
  f = .next ∧ ∃ h' tk m', s₂ = { s₁ with heap := h', toks := tk } ∧ Fr h₀ L h' m' ∧ (∀ z, z ≠ x → m' z = m₀ z) ∧ News h₀ L h' R
theorem each_loop {l : Addr} {vs : List Value} {n : Nat} {news : List (Addr × Obj)} {m₀ : Str → Option Value}
    (hh : A.handled = none) (hm : (l, lst vs n) ∈ news) (F : Fr h₀ env.locals s.heap m₀) (N : News h₀ env.locals s.heap news)
    (turn : ∀ (i : Nat) v R s₁, vs[i]? = some v → (∀ p ∈ news, p ∈ R) → Fr h₀ env.locals s₁.heap (fun z => if z = x then some v else m₀ z) → News h₀ env.locals s₁.heap R →
      wpAny (model prog w) A (execs body env) (EPost h₀ env.locals x m₀ R s₁) E s₁)
    (done : ∀ (u : Option Value) h tk, Fr h₀ env.locals h (fun z => if z = x then u else m₀ z) → News h₀ env.locals h news → Q .next { s with heap := h, toks := tk }) :
    wpAny (model prog w) A (pyIter (.ref l)) (fun it s₂ => LoopAtU prog w A h₀ env x body Q E it s₂) E s := by
  have z := N _ hm
  have hls : s.heap.IsList l vs.toArray := ⟨_, z.1, rfl, _, rfl⟩
  have hlt : l < s.heap.objs.size := Heap.lt_size z.1
  have hne : l ≠ s.heap.objs.size := Nat.ne_of_lt hlt
  refine wpAny_pyIter_list hls ?_
  have W := Walks.list (prog := prog) (w := w) hh s.heap.objs.size l hne vs.toArray
  refine ⟨_, _, _, vs.toArray.size, _, _, m₀, news, fun _ m₁ nx => nx = news ∧ ∀ y, y ≠ x → m₁ y = m₀ y, rfl, W, ?_, ?_, ?_, ⟨⟨_, Heap.get?_push_size _ rfl, rfl, rfl⟩, hls.at fun o e => Heap.get?_push_of_some _ e⟩, F.push _,
    (fun p hp => ⟨Heap.get?_push_of_some _ (N p hp).1, (N p hp).2⟩), ⟨rfl, fun _ _ => rfl⟩, ?_, ?_⟩
  · intro hm'
    rcases List.mem_cons.mp hm' with e | hm'
    · exact absurd F.ns.lt (e ▸ Nat.lt_irrefl _)
    · exact absurd (List.mem_singleton.mp hm').symm z.2.1
  · intro b hb
    rw [List.mem_singleton.mp hb]
    exact next_is_new F
  · intro p hp hI
    exact absurd (Heap.lt_size (N p hp).1) ((List.mem_singleton.mp hI) ▸ Nat.lt_irrefl _)
  · rintro i v m₁ nx s₁ own hin hP ⟨rfl, hJ⟩ hoff hown _ _ _ F₁ N₁
    have hv : vs[i]? = some v := by simpa using hP
    have e : (fun y => if y = x then some v else m₁ y) = fun y => if y = x then some v else m₀ y := by
      funext y
      by_cases h1 : y = x
      · simp [h1]
      · simp only [if_neg h1]; exact hJ y h1
    rw [e] at F₁
    refine wpAny_mono (turn i v (own ++ nx) s₁ hv (fun p hp => List.mem_append.mpr (.inr hp)) F₁ N₁) (fun f s₂ p => ?_) fun _ _ e => e
    obtain ⟨rfl, h', tk, m', e', F', hm', N'⟩ := p
    exact ⟨rfl, h', tk, m', nx, e', F', N', hoff, rfl, hm'⟩
  · rintro h' tk m' nx F' N' _ ⟨rfl, hJ⟩
    refine done (m' x) h' tk ?_ N'
    have e : (fun y => if y = x then m' x else m₀ y) = m' := by
      funext y
      by_cases h1 : y = x
      · simp [h1]
      · simp only [if_neg h1]; exact (hJ y h1).symm
    rw [e]; exact F'
end
end Mine
end
section
open PySem PySem.W PyProof.Rows PySem.Calls PySem.Spec PyProof.V
namespace Mine
local macro_rules | `(tactic| walk_at "padding") => `(tactic| skip)
local macro_rules | `(tactic| walk_at "padding") => `(tactic| skip)
local macro_rules | `(tactic| walk_at "padding") => `(tactic| skip)
theorem in_words {prog : Program} {w : World} {A : Around} {E : Value → Shared → Prop} {s : Shared} {K : Frag} {h₀ : Heap} {L : Addr} {m : Str → Option Value} {t : Addr} {l : List Value} {n : Nat} {dd : Option Addr} {sl : Array (Option Value)} {ys : List Str} {x : Str} {u : Tok} {Q : Value → Shared → Prop} (b : Bool)
    (F : Fr h₀ L s.heap m) (X₀ : K.In h₀) (hl : K.lookup t = some ⟨.type "tuple", dd, .seq l.toArray n, sl⟩) (hi : StrsAre l ys) (hb : ys.any (· == x) = b)
    (h : Q (.bool b) s) : wpAny (model prog w) A (compareOp .In (.str x u) (.ref t)) Q E s :=
  in_tuple_strs (tupK (X₀.keeps F.keep) hl) hi (hb ▸ h)
local macro_rules | `(tactic| walk_at "compareOp In str ref") => `(tactic| (k_here; (with_reducible show wpAny _ _ (compareOp CmpOp.In (Value.str _ _) (Value.ref _)) _ _ _); k_dflt (first
  | (refine' in_words true ?k1 ?k2 ?k3 ?k4 ?k5 ?_; (case k1 => k_asm); (case k2 => k_asm); (case k3 => k_is); (case k4 => kde_strs); (case k5 => decide +kernel))
  | (refine' in_words false ?k1 ?k2 ?k3 ?k4 ?k5 ?_; (case k1 => k_asm); (case k2 => k_asm); (case k3 => k_is); (case k4 => kde_strs); (case k5 => decide +kernel)))))
local macro_rules | `(tactic| walk_at "subscriptTail") => `(tactic| (k_here; (with_reducible show wpAny _ _ (subscriptTail _ _ (Value.ref _) (Value.int _ _)) _ _ _); k_dflt (refine' topTup_K ?F ?X ?l ?a ?b ?c ?d ?_; (case F => k_asm); (case X => k_asm); (case l => k_is); (case a => decide); (case b => decide); (case c => rfl); (case d => rfl))))
local macro_rules | `(tactic| walk_at "eval Name") => `(tactic| (k_here; k_dflt (refine' ld ?k1 ?k2 ?_; (case k1 => k_asm); (case k2 => exact rfl); k_whole)))
local macro_rules | `(tactic| k_room) => `(tactic| ktr_room)
section
variable {w : World} {mean : ExcName → Option Value} {mg mb : Str → Option Value} {dp un : Nat} {gd : Option (List Code)} {cn : Str} {cs : Scope} {a : Addr} {ccd : Value} {cl : List (Str × Addr)} {outer : List Env}
  {A₀ : Around} {base h₀ : Heap} {L : Addr} {m : Str → Option Value} {news : List (Addr × Obj)} {s : Shared} {Q E : Value → Shared → Prop}
  (B : Below A₀ base outer h₀) (F : Fr h₀ L s.heap m) (X : (hd.heap_1_39 w.params).In h₀)
  (T : Top hd.view_1_40 (looseW hd.view_1_40 [Str.ofString "WORD_SIGNS", Str.ofString "CLOSERS", Str.ofString "FLAGS_OF", Str.ofString "_law_many"]) mean mg mb h₀) (hk : cs.kind = .function)
  (N : News h₀ L s.heap news) (hd : dp + 20 < recursionLimit) (hu : un + 100 < cLine)
include B F X T hk N hd hu
set_option maxRecDepth 100000 in
set_option maxHeartbeats 8000000 in
theorem islist_leaf {v : Addr} {c : Int} (hv : Leaf (.ref v) c)
    (hret : ∀ b h' tk', b = decide (c < 0) → Fr h₀ L h' m → News h₀ L h' news → Q (.bool b) { s with heap := h', toks := tk' }) :
    wpAny (model PySem.Challenge.rw_qz0113_01.row.prog w) (ktrTop dp un gd cn cs L a ccd cl outer) (call (.ref 205) [.ref v]) Q E s := by
  revert X
  w_top off
  k_fill
  intro X
  rcases hv with ⟨rfl, v', hv, e⟩ | ⟨rfl, v', hv, e⟩
  all_goals (
    cases e
    simp only [ones, manys, List.mem_cons, List.not_mem_nil, or_false] at hv
    repeat' (first | (rcases hv with hv | hv) | subst hv)
    all_goals (
      refine wpAny_call ?_
      k_dflt ktr_enter
      k_steps
      rename_i kF kN _ _
      exact hret _ _ _ (by decide +kernel) kF kN))
set_option maxRecDepth 100000 in
set_option maxHeartbeats 8000000 in
theorem islist_list {q l : Addr} {tk : Tok} (hq : (q, tup [.str (Str.ofString "list") tk, .ref l]) ∈ news)
    (hret : ∀ b h' tk', b = true → Fr h₀ L h' m → News h₀ L h' news → Q (.bool b) { s with heap := h', toks := tk' }) :
    wpAny (model PySem.Challenge.rw_qz0113_01.row.prog w) (ktrTop dp un gd cn cs L a ccd cl outer) (call (.ref 205) [.ref q]) Q E s := by
  revert X
  w_top off
  k_fill
  intro X
  refine wpAny_call ?_
  k_dflt ktr_enter
  k_steps
  rename_i kF kN _ _
  exact hret _ _ _ (by decide +kernel) kF kN
end
end Mine
end
section
open PySem PySem.W PyProof.Rows PySem.Calls PySem.Spec PyProof.V
namespace Mine
local macro_rules | `(tactic| walk_at "padding") => `(tactic| skip)
local macro_rules | `(tactic| walk_at "padding") => `(tactic| skip)
local macro_rules | `(tactic| walk_at "padding") => `(tactic| skip)
local macro_rules | `(tactic| walk_at "compareOp In str ref") => `(tactic| (k_here; (with_reducible show wpAny _ _ (compareOp CmpOp.In (Value.str _ _) (Value.ref _)) _ _ _); k_dflt (first
  | (refine' in_words true ?k1 ?k2 ?k3 ?k4 ?k5 ?_; (case k1 => k_asm); (case k2 => k_asm); (case k3 => k_is); (case k4 => kde_strs); (case k5 => decide +kernel))
  | (refine' in_words false ?k1 ?k2 ?k3 ?k4 ?k5 ?_; (case k1 => k_asm); (case k2 => k_asm); (case k3 => k_is); (case k4 => kde_strs); (case k5 => decide +kernel)))))
local macro_rules | `(tactic| walk_at "subscriptTail") => `(tactic| (k_here; (with_reducible show wpAny _ _ (subscriptTail _ _ (Value.ref _) (Value.int _ _)) _ _ _); k_dflt (refine' topTup_K ?F ?X ?l ?a ?b ?c ?d ?_; (case F => k_asm); (case X => k_asm); (case l => k_is); (case a => decide); (case b => decide); (case c => rfl); (case d => rfl))))
local macro_rules | `(tactic| walk_at "eval Name") => `(tactic| (k_here; k_dflt (refine' ld ?k1 ?k2 ?_; (case k1 => k_asm); (case k2 => exact rfl); k_whole)))
local macro_rules | `(tactic| k_room) => `(tactic| ktr_room)
section
variable {w : World} {mean : ExcName → Option Value} {mg mb : Str → Option Value} {dp un : Nat} {gd : Option (List Code)} {cn : Str} {cs : Scope} {a : Addr} {ccd : Value} {cl : List (Str × Addr)} {outer : List Env}
  {A₀ : Around} {base h₀ : Heap} {L : Addr} {m : Str → Option Value} {news : List (Addr × Obj)} {s : Shared} {Q E : Value → Shared → Prop}
  (B : Below A₀ base outer h₀) (F : Fr h₀ L s.heap m) (X : (hd.heap_1_39 w.params).In h₀)
  (T : Top hd.view_1_40 (looseW hd.view_1_40 [Str.ofString "WORD_SIGNS", Str.ofString "CLOSERS", Str.ofString "FLAGS_OF", Str.ofString "_law_many"]) mean mg mb h₀) (hk : cs.kind = .function)
  (N : News h₀ L s.heap news) (hd : dp + 20 < recursionLimit) (hu : un + 100 < cLine)
include B F X T hk N hd hu
theorem islist_one {v : Addr} (hv : v ∈ ones)
    (hret : ∀ h' tk', Fr h₀ L h' m → News h₀ L h' news → Q (.bool false) { s with heap := h', toks := tk' }) :
    wpAny (model PySem.Challenge.rw_qz0113_01.row.prog w) (ktrTop dp un gd cn cs L a ccd cl outer) (call (.ref 205) [.ref v]) Q E s :=
  islist_leaf B F X T hk N hd hu (.inl ⟨rfl, v, hv, rfl⟩) fun b h' tk' e F' N' => by subst e; exact hret h' tk' F' N'
theorem islist_many {v : Addr} (hv : v ∈ manys)
    (hret : ∀ h' tk', Fr h₀ L h' m → News h₀ L h' news → Q (.bool true) { s with heap := h', toks := tk' }) :
    wpAny (model PySem.Challenge.rw_qz0113_01.row.prog w) (ktrTop dp un gd cn cs L a ccd cl outer) (call (.ref 205) [.ref v]) Q E s :=
  islist_leaf B F X T hk N hd hu (.inr ⟨rfl, v, hv, rfl⟩) fun b h' tk' e F' N' => by subst e; exact hret h' tk' F' N'
end
local macro_rules | `(tactic| walk_at "call ref") => `(tactic| (k_here; (with_reducible show wpAny _ _ (call (Value.ref 205) _) _ _ _); k_dflt (first
  | (refine' islist_one ?k1 ?k2 ?k3 ?k4 ?k5 ?k6 ?k7 ?k8 ?k9 ?_; (case k9 => decide); (case k1 => k_asm); (case k2 => k_asm); (case k3 => k_asm); (case k4 => k_asm); (case k5 => exact rfl); (case k6 => k_asm); (case k7 => ktr_room); (case k8 => ktr_units))
  | (refine' islist_many ?k1 ?k2 ?k3 ?k4 ?k5 ?k6 ?k7 ?k8 ?k9 ?_; (case k9 => decide); (case k1 => k_asm); (case k2 => k_asm); (case k3 => k_asm); (case k4 => k_asm); (case k5 => exact rfl); (case k6 => k_asm); (case k7 => ktr_room); (case k8 => ktr_units))); intro h9 tk9 F9 N9; (try dsimp only)))
section
variable {w : World} {mean : ExcName → Option Value} {mg mb : Str → Option Value} {dp un : Nat} {gd : Option (List Code)} {cn : Str} {cs : Scope} {a : Addr} {ccd : Value} {cl : List (Str × Addr)} {outer : List Env}
  {A₀ : Around} {base h₀ : Heap} {L : Addr} {m : Str → Option Value} {news : List (Addr × Obj)} {s : Shared} {Q E : Value → Shared → Prop}
  (B : Below A₀ base outer h₀) (F : Fr h₀ L s.heap m) (X : (hd.heap_1_39 w.params).In h₀)
  (T : Top hd.view_1_40 (looseW hd.view_1_40 [Str.ofString "WORD_SIGNS", Str.ofString "CLOSERS", Str.ofString "FLAGS_OF", Str.ofString "_law_many"]) mean mg mb h₀) (hk : cs.kind = .function)
  (N : News h₀ L s.heap news) (hd : dp + 20 < recursionLimit) (hu : un + 100 < cLine)
include B F X T hk N hd hu
set_option maxRecDepth 100000 in
set_option maxHeartbeats 8000000 in
theorem check_leaf {v : Addr} {c : Int} {rv : Value} (hv : Leaf (.ref v) c)
    (hret : ∀ h' tk', Fr h₀ L h' m → News h₀ L h' news → Q .none { s with heap := h', toks := tk' }) :
    wpAny (model PySem.Challenge.rw_qz0113_01.row.prog w) (ktrTop dp un gd cn cs L a ccd cl outer) (call (.ref 226) [rv, .ref v]) Q E s := by
  revert X
  w_top off
  k_fill
  intro X
  rcases hv with ⟨rfl, v', hv, e⟩ | ⟨rfl, v', hv, e⟩
  all_goals (
    cases e
    simp only [ones, manys, List.mem_cons, List.not_mem_nil, or_false] at hv
    repeat' (first | (rcases hv with hv | hv) | subst hv)
    all_goals (
      refine wpAny_call ?_
      k_dflt ktr_enter
      k_steps
      rename_i kF kN _ _
      exact hret _ _ kF kN))
set_option maxRecDepth 100000 in
set_option maxHeartbeats 8000000 in
theorem count_leaf {v : Addr} {c : Int} (hv : Leaf (.ref v) c)
    (hret : ∀ t h' tk', Fr h₀ L h' m → News h₀ L h' news → Q (.int c t) { s with heap := h', toks := tk' }) :
    wpAny (model PySem.Challenge.rw_qz0113_01.row.prog w) (ktrTop dp un gd cn cs L a ccd cl outer) (call (.ref 238) [.ref v]) Q E s := by
  revert X
  w_top off
  k_fill
  intro X
  rcases hv with ⟨rfl, v', hv, e⟩ | ⟨rfl, v', hv, e⟩
  all_goals (
    cases e
    simp only [ones, manys, List.mem_cons, List.not_mem_nil, or_false] at hv
    repeat' (first | (rcases hv with hv | hv) | subst hv)
    all_goals (
      refine wpAny_call ?_
      k_dflt ktr_enter
      k_steps
      rename_i kF kN _ _
      exact hret _ _ _ kF kN))
end
end Mine
end
section
open PySem PySem.W PyProof.Rows PySem.Calls PySem.Spec PyProof.V
namespace Mine
local macro_rules | `(tactic| walk_at "padding") => `(tactic| skip)
local macro_rules | `(tactic| walk_at "padding") => `(tactic| skip)
local macro_rules | `(tactic| walk_at "padding") => `(tactic| skip)
local macro_rules | `(tactic| walk_at "padding") => `(tactic| skip)
local macro_rules | `(tactic| walk_at "padding") => `(tactic| skip)
local macro_rules | `(tactic| walk_at "padding") => `(tactic| skip)
local macro_rules | `(tactic| k_room) => `(tactic| ktr_room)
local macro_rules | `(tactic| walk_at "call ref") => `(tactic| (k_here; (with_reducible show wpAny _ _ (call (Value.ref 226) _) _ _ _); refine stop_intro ?_))
local macro_rules | `(tactic| walk_at "pyIter ref") => `(tactic| (k_here; refine stop_intro ?_))
def CheckSat (w : World) (mean : ExcName → Option Value) (mg mb : Str → Option Value) (k : Nat) : Prop :=
  ∀ (dp un : Nat) (gd : Option (List Code)) (cn : Str) (cs : Scope) (a : Addr) (ccd : Value) (cl : List (Str × Addr)) (outer : List Env)
    (A₀ : Around) (base h₀ : Heap) (L : Addr) (m : Str → Option Value) (s : Shared) (Q E : Value → Shared → Prop) (news : List (Addr × Obj)) (rv v : Value) (c : Int)
    (_B : Below A₀ base outer h₀) (_F : Fr h₀ L s.heap m) (_X : (hd.heap_1_39 w.params).In h₀)
    (_T : Top hd.view_1_40 (looseW hd.view_1_40 [Str.ofString "WORD_SIGNS", Str.ofString "CLOSERS", Str.ofString "FLAGS_OF", Str.ofString "_law_many"]) mean mg mb h₀) (_hk : cs.kind = .function)
    (_N : News h₀ L s.heap news) (_hn : NodeH k news v c)
    (_hd : dp + 20 + 10 * k < recursionLimit) (_hu : un + 100 + 20 * k < cLine)
    (_hret : ∀ h' tk', Fr h₀ L h' m → News h₀ L h' news → Q .none { s with heap := h', toks := tk' }),
    wpAny (model PySem.Challenge.rw_qz0113_01.row.prog w) (ktrTop dp un gd cn cs L a ccd cl outer) (call (.ref 226) [rv, v]) Q E s
set_option maxRecDepth 100000 in
set_option maxHeartbeats 8000000 in
theorem check_step {w : World} {mean : ExcName → Option Value} {mg mb : Str → Option Value} {k : Nat} (IH : CheckSat w mean mg mb k) : CheckSat w mean mg mb (k + 1) := by
  unfold CheckSat
  w_top off
  k_fill
  intro dp un gd cn cs a ccd cl outer A₀ base h₀ L m s Q E news rv v c B F X T hk N hn hd hu hret
  rcases hn with hn | ⟨q, l, tk, vs, n, cs', rfl, hq, hq2, hlen, rfl, hall⟩
  · obtain ⟨v', rfl⟩ : ∃ v', v = .ref v' := by
      rcases hn with ⟨_, v', _, e⟩ | ⟨_, v', _, e⟩ <;> exact ⟨v', e⟩
    exact check_leaf B F X T hk N (by omega) (by omega) hn hret
  · refine wpAny_call ?_
    k_dflt ktr_enter
    k_steps
    unfold Stop
    rename_i gG LL hA FG F1 N1 B1 X1 T1 t1 t2
    refine each_loop (l := l) (vs := vs) (n := n) (news := news) (by rfl) hq2 F1 N1 ?_ ?_
    · intro i v R s₁ hv hR F N
      dsimp only [envOf] at F N
      k_steps
      unfold Stop
      obtain ⟨c1, hc1, hnode⟩ := hall.get i v hv
      have IHk := IH
      unfold CheckSat at IHk
      k_dflt (refine' IHk _ _ _ _ _ _ _ _ _ _ _ _ _ _ _ _ _ R rv v c1 ?k1 ?k2 ?k3 ?k4 ?k5 ?k6 (hnode.mono k hR) ?k7 ?k8 ?_)
      case k1 => k_asm
      case k2 => k_asm
      case k3 => k_asm
      case k4 => k_asm
      case k5 => exact rfl
      case k6 => k_asm
      case k7 => ktr_room
      case k8 => ktr_units
      clear IHk
      intro h' tk' F9 N9
      try dsimp only
      k_steps
      exact ⟨rfl, _, _, _, rfl, F9, fun z hz => by simp [hz], N9⟩
    · intro u h tk F N
      dsimp only [envOf] at F N
      k_steps
      rename_i kF kN _ _
      exact hret _ _ kF kN
theorem check_zero {w : World} {mean : ExcName → Option Value} {mg mb : Str → Option Value} : CheckSat w mean mg mb 0 := by
  intro dp un gd cn cs a ccd cl outer A₀ base h₀ L m s Q E news rv v c B F X T hk N hn hd hu hret
  obtain ⟨v', rfl⟩ : ∃ v', v = .ref v' := by
    rcases hn with ⟨_, v', _, e⟩ | ⟨_, v', _, e⟩ <;> exact ⟨v', e⟩
  exact check_leaf B F X T hk N (by omega) (by omega) hn hret
theorem check_all {w : World} {mean : ExcName → Option Value} {mg mb : Str → Option Value} : ∀ k, CheckSat w mean mg mb k
  | 0 => check_zero
  | k + 1 => check_step (check_all k)
end Mine
end
section
open PySem PySem.W PyProof.Rows PySem.Calls PySem.Spec PyProof.V
namespace Mine
local macro_rules | `(tactic| walk_at "padding") => `(tactic| skip)
local macro_rules | `(tactic| walk_at "padding") => `(tactic| skip)
local macro_rules | `(tactic| walk_at "padding") => `(tactic| skip)
local macro_rules | `(tactic| walk_at "padding") => `(tactic| skip)
local macro_rules | `(tactic| walk_at "padding") => `(tactic| skip)
local macro_rules | `(tactic| walk_at "padding") => `(tactic| skip)
theorem tot_any_true {ds : List Int} (h : (ds.any fun x => x == -1) = true) : tot ds = -1 := by
  obtain ⟨d, hd, e⟩ := List.any_eq_true.mp h
  have e' : d = -1 := by simpa using e
  unfold tot
  rw [if_pos (e' ▸ hd)]
theorem tot_any_false {ds : List Int} (h : (ds.any fun x => x == -1) = false) : tot ds = ds.sum := by
  unfold tot
  rw [if_neg]
  intro hm
  have : (ds.any fun x => x == -1) = true := List.any_eq_true.mpr ⟨_, hm, by simp⟩
  rw [h] at this
  cases this
section
variable {prog : Program} {w : World} {A : Around} {h₀ : Heap} {L : Addr} {m : Str → Option Value} {env : Env} {elt : Expr} {x : Str} {scope : Scope} {cl : List (Str × Addr)} {s : Shared} {S : List (Addr × Obj) → Prop} {Fin : List Value → List (Addr × Obj) → Prop} {news : List (Addr × Obj)}
theorem comp_each {vs : List Value} {cs : List Int} (hl : vs.length = cs.length)
    (turn : ∀ (i : Nat) v c I oI C oC D m₂ ys h tk (E' : Value → Shared → Prop), vs[i]? = some v → cs[i]? = some c → LCg.NsObj oC m₂ → m₂ x = some v → Fr h₀ L h m → News h₀ L h ((I, oI) :: (C, oC) :: (D, LCg.lst ys) :: news) → LCg.Off3 I C D news →
      wpAny (model prog w) A (eval elt (compEnvC scope cl C env)) (LCg.CompEnd h₀ L m { s with heap := h, toks := tk } I oI C oC D (LCg.lst ys) S (fun y news' => news' = news ∧ ∃ t : Tok, y = .int c t)) E' { s with heap := h, toks := tk })
    (fin : ∀ ys, IntsAre ys cs → Fin ys news) : LCg.CompRest prog w A h₀ L m env elt x scope cl s S (fun i v => vs.toArray[i]? = some v) Fin vs.toArray.size 0 [] news := by
  have key : ∀ (j i : Nat) (ys : List Value), i + j = vs.length → IntsAre ys (cs.take i) → LCg.CompRest prog w A h₀ L m env elt x scope cl s S (fun i v => vs.toArray[i]? = some v) Fin j i ys news := by
    intro j
    induction j with
    | zero =>
      intro i ys hi hy
      have e : i = cs.length := by omega
      subst e
      rw [List.take_length] at hy
      exact LCg.CompRest.zero (fin ys hy)
    | succ j ih =>
      intro i ys hi hy
      refine LCg.CompRest.succ ?_
      intro v I oI C oC D m₂ h tk E' hv hC hx F N off _
      have hv' : vs[i]? = some v := by simpa using hv
      have hi' : i < cs.length := by omega
      refine wpAny_mono (turn i v cs[i] I oI C oC D m₂ ys h tk E' hv' (by simp [hi']) hC hx F N off) (fun y s₂ hq => ?_) fun _ _ e => e
      obtain ⟨h', tk', nw, e, F', N', off', hS, hn, t', hy'⟩ := hq
      subst hn
      refine ⟨h', tk', nw, e, F', N', off', hS, ?_⟩
      rw [hy']
      refine ih (i + 1) _ (by omega) ?_
      have e2 : cs.take (i + 1) = cs.take i ++ [cs[i]] := by rw [List.take_add_one, List.getElem?_eq_getElem hi']; rfl
      rw [e2]
      exact IntsAre.append hy (.cons cs[i] t' .nil)
  have := key vs.length 0 [] (by omega) (by simp only [List.take_zero]; exact .nil)
  simpa using this
end
local macro_rules | `(tactic| k_room) => `(tactic| ktr_room)
local macro_rules | `(tactic| walk_at "call ref") => `(tactic| (k_here; (with_reducible show wpAny _ _ (call (Value.ref 238) _) _ _ _); refine stop_intro ?_))
local macro_rules | `(tactic| walk_at "exec Assign cons ListComp") => `(tactic| (k_here; k_dflt (refine LCg.Assign_ListComp_U (F₀ := by k_asm) (by rfl) (by with_unfolding_all rfl) (by with_unfolding_all rfl) (by decide) (by rfl) (by decide) (by rfl) (by rfl) (by rfl) ?_)))
local macro_rules | `(tactic| walk_at "CompSrc") => `(tactic| (k_here; refine stop_intro ?_))
def CountSat (w : World) (mean : ExcName → Option Value) (mg mb : Str → Option Value) (k : Nat) : Prop :=
  ∀ (dp un : Nat) (gd : Option (List Code)) (cn : Str) (cs : Scope) (a : Addr) (ccd : Value) (cl : List (Str × Addr)) (outer : List Env)
    (A₀ : Around) (base h₀ : Heap) (L : Addr) (m : Str → Option Value) (s : Shared) (Q E : Value → Shared → Prop) (news : List (Addr × Obj)) (v : Value) (c : Int)
    (_B : Below A₀ base outer h₀) (_F : Fr h₀ L s.heap m) (_X : (hd.heap_1_39 w.params).In h₀)
    (_T : Top hd.view_1_40 (looseW hd.view_1_40 [Str.ofString "WORD_SIGNS", Str.ofString "CLOSERS", Str.ofString "FLAGS_OF", Str.ofString "_law_many"]) mean mg mb h₀) (_hk : cs.kind = .function)
    (_N : News h₀ L s.heap news) (_hn : NodeH k news v c)
    (_hd : dp + 20 + 10 * k < recursionLimit) (_hu : un + 100 + 20 * k < cLine)
    (_hret : ∀ t h' tk', Fr h₀ L h' m → News h₀ L h' news → Q (.int c t) { s with heap := h', toks := tk' }),
    wpAny (model PySem.Challenge.rw_qz0113_01.row.prog w) (ktrTop dp un gd cn cs L a ccd cl outer) (call (.ref 238) [v]) Q E s
set_option maxRecDepth 100000 in
set_option maxHeartbeats 8000000 in
theorem count_step {w : World} {mean : ExcName → Option Value} {mg mb : Str → Option Value} {k : Nat} (IH : CountSat w mean mg mb k) : CountSat w mean mg mb (k + 1) := by
  unfold CountSat
  w_top off
  k_fill
  intro dp un gd cn cs a ccd cl outer A₀ base h₀ L m s Q E news v c B F X T hk N hn hd hu hret
  rcases hn with hn | ⟨q, l, tk, vs, n, ds, rfl, hq, hq2, hlen, rfl, hall⟩
  · obtain ⟨v', rfl⟩ : ∃ v', v = .ref v' := by
      rcases hn with ⟨_, v', _, e⟩ | ⟨_, v', _, e⟩ <;> exact ⟨v', e⟩
    exact count_leaf B F X T hk N (by omega) (by omega) hn hret
  · refine wpAny_call ?_
    k_dflt ktr_enter
    k_steps
    unfold Stop
    rename_i gG LL hA FG F1 N1 B1 X1 T1 t1 t2
    refine LCg.CompSrc.ledger (its := vs.toArray) (k := n) (by rfl) F1 N1 hq2 (by rw [PySem.sizeLine_eq]; simp only [List.size_toArray]; omega) ?_
    intro gg
    refine comp_each (cs := ds) hall.length ?_ ?_
    · intro i v c I oI C oC D m₂ ys h tk E' hv hcv hC hx F N off
      k_steps
      unfold Stop
      have IHk := IH
      unfold CountSat at IHk
      k_dflt (refine' IHk _ _ _ _ _ _ _ _ _ _ _ _ _ _ _ _ _ ((I, oI) :: (C, oC) :: (D, LCg.lst ys) :: news) v c ?k1 ?k2 ?k3 ?k4 ?k5 ?k6 ?k9 ?k7 ?k8 ?_)
      case k1 => k_asm
      case k2 => k_asm
      case k3 => k_asm
      case k4 => k_asm
      case k5 => exact rfl
      case k6 => k_asm
      case k7 => ktr_room
      case k8 => ktr_units
      case k9 =>
        obtain ⟨c1, hc1, hnode⟩ := hall.get i v hv
        rw [hcv] at hc1
        cases hc1
        exact hnode.mono k fun p hp => .tail _ (.tail _ (.tail _ hp))
      clear IHk
      intro tt h' tk' F9 N9
      exact ⟨h', tk', news, rfl, F9, N9, off, .inr ⟨_, hq2, rfl, _, rfl⟩, rfl, tt, rfl⟩
    · intro ys hys
      k_steps
      · rename_i kF kN _ _
        have e := tot_any_true (ds := ds) (by assumption)
        rw [e] at hret
        exact hret _ _ _ kF (news_sub kN fun p hp => .tail _ hp)
      · rename_i kF kN _ _
        have e := tot_any_false (ds := ds) (by assumption)
        rw [e] at hret
        exact hret _ _ _ kF (news_sub kN fun p hp => .tail _ hp)
theorem count_zero {w : World} {mean : ExcName → Option Value} {mg mb : Str → Option Value} : CountSat w mean mg mb 0 := by
  intro dp un gd cn cs a ccd cl outer A₀ base h₀ L m s Q E news v c B F X T hk N hn hd hu hret
  obtain ⟨v', rfl⟩ : ∃ v', v = .ref v' := by
    rcases hn with ⟨_, v', _, e⟩ | ⟨_, v', _, e⟩ <;> exact ⟨v', e⟩
  exact count_leaf B F X T hk N (by omega) (by omega) hn hret
theorem count_all {w : World} {mean : ExcName → Option Value} {mg mb : Str → Option Value} : ∀ k, CountSat w mean mg mb k
  | 0 => count_zero
  | k + 1 => count_step (count_all k)
end Mine
end
section
open PySem PySem.W PyProof.Rows PySem.Calls
namespace Mine
section
variable {prog : Program} {w : World} {A : Around} {E : Value → Shared → Prop} {s : Shared}
theorem adjust_to (b n : Nat) : Builtin.Slice.sliceAdjust none (some (b : Int)) 1 (n : Int) = (0, ((min b n : Nat) : Int)) := by
  unfold Builtin.Slice.sliceAdjust
  have h1 : ¬ ((1 : Int) < 0) := by omega
  have h2 : ¬ ((b : Int) < 0) := by omega
  simp only [h1, h2, if_false]
  congr 1
  omega
theorem places_to (k : Nat) : Builtin.Slice.slicePlaces 0 (k : Int) 1 = k := by
  unfold Builtin.Slice.slicePlaces
  have h1 : (1 : Int) > 0 := by omega
  simp only [h1, if_true, Int.ediv_one]
  split <;> omega
theorem sliceApplied_to {sl : Addr} {b n : Nat} {u : Tok} {Q : Int × Int × Nat → Shared → Prop} (hs : s.heap.IsSliceOf sl .none (.int b u) .none) (h : Q (0, 1, min b n) s) :
    wpAny (model prog w) A (Builtin.Slice.sliceApplied (.ref sl) (pure (n : Int))) Q E s := by
  obtain ⟨os, hos, hcs, hds⟩ := id hs
  unfold Builtin.Slice.sliceApplied Builtin.Slice.sliceFields
  refine wpAny_bind (wpAny_bind (wpAny_field hos hds (x := .none) rfl (wpAny_bind (wpAny_field hos hds (x := .int b u) rfl (wpAny_bind (wpAny_field hos hds (x := .none) rfl (wpAny_pure ?_)))))))
  refine wpAny_bind (slicePart_none ?_)
  show wpAny _ _ (if ((1 : Int) == 0) = true then _ else _) _ _ s
  rw [if_neg (by decide)]
  refine wpAny_bind (slicePart_none (wpAny_bind (slicePart_int (wpAny_bind (wpAny_pure ?_)))))
  show wpAny _ _ (match Builtin.Slice.sliceAdjust none (some (b : Int)) 1 (n : Int) with | (lo, hi) => pure (lo, (1 : Int), Builtin.Slice.slicePlaces lo hi 1)) _ _ s
  rw [adjust_to b n]
  show wpAny _ _ (pure ((0 : Int), (1 : Int), Builtin.Slice.slicePlaces 0 ((min b n : Nat) : Int) 1)) _ _ s
  rw [places_to]
  exact wpAny_pure h
theorem pick_to (xs : Array Value) (b : Nat) : ((List.range b).filterMap fun (k : Nat) => xs[((0 : Int) + (k : Int) * 1).toNat]?).toArray = (xs.toList.take b).toArray := by
  have e : (fun (k : Nat) => xs[((0 : Int) + (k : Int) * 1).toNat]?) = fun k => xs[k]? := by
    funext k
    have : ((0 : Int) + (k : Int) * 1).toNat = k := by omega
    rw [this]
  rw [e]
  have := pick_run xs 0 b
  rw [List.filterMap_map] at this
  have e2 : ((fun x => xs[x]?) ∘ fun x => 0 + x) = fun k => xs[k]? := by
    funext k
    simp
  rw [e2] at this
  rw [this, List.drop_zero]
theorem getItem_tuple_to {t sl : Addr} {items : Array Value} {b : Nat} {u : Tok} {Q : Value → Shared → Prop} (ht : IsTup s.heap t items) (hs : s.heap.IsSliceOf sl .none (.int b u) .none) (hb : b < items.size)
    (h : Q (.ref s.heap.objs.size) { s with heap := s.heap.push { cls := .type "tuple", data := .seq (items.toList.take b).toArray } })
    (hsz : items.size ≤ sizeLine) : wpAny (model prog w) A (getItem (.ref t) (.ref sl)) Q E s := by
  have hdrop : sizeOk (.seq (items.toList.take b).toArray) := by
    show (items.toList.take b).toArray.size ≤ sizeLine
    rw [List.size_toArray, List.length_take, Array.length_toList]
    omega
  obtain ⟨os, hos, hcs, hds⟩ := id hs
  have hTs : s.TypeIs (.ref sl) "slice" := ⟨os, hos, hcs⟩
  unfold getItem
  try with_reducible refine wpAny_holding ?_
  first | refine wpAny_bind (wpAny_pure ?_) | skip
  refine wpAny_bind (wpAny_sequenceKey ht.typeIs (by decide) ?_)
  refine wpAny_bind (wpAny_callSpecial?_slot (name := Str.ofString "__getitem__") ht.typeIs slot_tuple_getitem
    (wpAny_call_entry slot_tuple_getitem ht.typeIs entry_tuple_getitem ?_ (args_tuple_getitem _ _)))
  show wpAny _ _ (Builtin.Tuple.tupleItemsOf (.ref t) >>= _) _ _ s
  refine wpAny_bind (tupleItemsOf_ ht ?_)
  refine wpAny_bind (wpAny_typeOf hTs ?_)
  rw [if_pos (by decide)]
  refine wpAny_bind (sliceApplied_to hs ?_)
  have e : min b items.size = b := by omega
  rw [e]
  have hno : ¬ (((0 : Int) == 0 && (1 : Int) == 1 && b == items.size) = true) := by
    have : (b == items.size) = false := by rw [beq_eq_false_iff_ne]; omega
    rw [this]; simp
  show wpAny _ _ (if ((0 : Int) == 0 && (1 : Int) == 1 && b == items.size) = true then _ else _) _ _ s
  rw [if_neg hno, pick_to items b]
  first
    | exact wpAny_bind (m := Builtin.Tuple.tupleExact _) (wpAny_newObj_type (wpAny_pure ⟨_, rfl, wpAny_pure h⟩) hdrop)
    | exact wpAny_bind (m := Builtin.Tuple.tupleExact _) (wpAny_newObj_type (wpAny_bind (wpAny_pure (wpAny_pure ⟨_, rfl, wpAny_pure h⟩))) hdrop)
    | exact wpAny_bind (wpAny_bind (m := Builtin.Tuple.tupleExact _) (wpAny_newObj_type (wpAny_pure (wpAny_pure ⟨_, rfl, wpAny_pure h⟩)) hdrop))
    | exact wpAny_bind (wpAny_bind (m := Builtin.Tuple.tupleExact _) (wpAny_newObj_type (wpAny_pure ⟨_, rfl, wpAny_pure h⟩) hdrop))
theorem getItem_tuple_whole {t sl : Addr} {items : Array Value} {b : Nat} {u : Tok} {Q : Value → Shared → Prop} (ht : IsTup s.heap t items) (hs : s.heap.IsSliceOf sl .none (.int b u) .none) (hb : items.size ≤ b)
    (h : Q (.ref t) s) : wpAny (model prog w) A (getItem (.ref t) (.ref sl)) Q E s := by
  obtain ⟨os, hos, hcs, hds⟩ := id hs
  have hTs : s.TypeIs (.ref sl) "slice" := ⟨os, hos, hcs⟩
  unfold getItem
  try with_reducible refine wpAny_holding ?_
  first | refine wpAny_bind (wpAny_pure ?_) | skip
  refine wpAny_bind (wpAny_sequenceKey ht.typeIs (by decide) ?_)
  refine wpAny_bind (wpAny_callSpecial?_slot (name := Str.ofString "__getitem__") ht.typeIs slot_tuple_getitem
    (wpAny_call_entry slot_tuple_getitem ht.typeIs entry_tuple_getitem ?_ (args_tuple_getitem _ _)))
  show wpAny _ _ (Builtin.Tuple.tupleItemsOf (.ref t) >>= _) _ _ s
  refine wpAny_bind (tupleItemsOf_ ht ?_)
  refine wpAny_bind (wpAny_typeOf hTs ?_)
  rw [if_pos (by decide)]
  refine wpAny_bind (sliceApplied_to hs ?_)
  have e : min b items.size = items.size := by omega
  rw [e]
  show wpAny _ _ (if ((0 : Int) == 0 && (1 : Int) == 1 && items.size == items.size) = true then _ else _) _ _ s
  rw [if_pos (by simp)]
  refine wpAny_bind (m := Builtin.Tuple.tupleIsExact (.ref t)) (wpAny_bind (wpAny_typeOf ht.typeIs (wpAny_pure ?_)))
  rw [if_pos (by decide)]
  exact wpAny_bind (wpAny_rule (wpAny_pure ⟨_, rfl, wpAny_pure h⟩))
end
section
variable {prog : Program} {w : World} {A : Around} {E : Value → Shared → Prop} {s : Shared} {h₀ : Heap} {L : Addr} {m : Str → Option Value} {news : List (Addr × Obj)}
theorem slice_tuple_to {value slice : PySem.Expr} {t : Addr} {items : Array Value} {b : Nat} {u : Tok} {Q : Value → Shared → Prop}
    (F : Fr h₀ L s.heap m) (N : News h₀ L s.heap news) (ht : IsTup s.heap t items) (hb : b < items.size) (hsz : items.size ≤ sizeLine)
    {zs : List Value} (hz : items.toList.take b = zs)
    (h : ∀ D h', Fr h₀ L h' m → News h₀ L h' ((D, { cls := .type "tuple", data := .seq zs.toArray }) :: news) → (∀ p ∈ news, p.1 < D) → Q (.ref D) { s with heap := h' })
    (hs : subscripted slice false (.ref t) (.ref s.heap.objs.size) = operate [.ref s.heap.objs.size, .ref t] (getItem (.ref t) (.ref s.heap.objs.size)) := by with_unfolding_all rfl)
    (hg : ∀ r, letTemporaryGo value (.ref t) r = pure () := by intro _; with_unfolding_all rfl) :
    wpAny (model prog w) A (subscriptTail value slice (.ref t) (.ref s.heap.objs.size)) Q E { s with heap := s.heap.push { cls := .type "slice", data := .fields #[.none, .int b u, .none] } } := by
  have ht' : IsTup (s.heap.push { cls := .type "slice", data := .fields #[.none, .int b u, .none] }) t items := ht.keeps fun _ _ e => Heap.get?_push_of_some _ e
  subst hz
  refine subscriptTail_ops (s := { s with heap := s.heap.push { cls := .type "slice", data := .fields #[.none, .int b u, .none] } }) ht'.typeIs slot_tuple_getitem.lookup
    (getItem_tuple_to ht' (Heap.IsSliceOf.new ..) hb ?_ hsz) hs hg
  have N1 := News.push (F.push { cls := .type "slice", data := .fields #[.none, .int b u, .none] }) (N.grown fun _ _ e => Heap.get?_push_of_some _ e) { cls := .type "tuple", data := .seq (items.toList.take b).toArray }
  refine h _ _ ((F.push _).push _) N1 fun p hp => ?_
  show p.1 < (s.heap.push _).objs.size
  rw [Heap.size_push]
  exact Nat.lt_succ_of_lt (Heap.lt_size (N p hp).1)
theorem slice_tuple_whole {value slice : PySem.Expr} {t : Addr} {items : Array Value} {b : Nat} {u : Tok} {Q : Value → Shared → Prop}
    (F : Fr h₀ L s.heap m) (N : News h₀ L s.heap news) (ht : IsTup s.heap t items) (hb : items.size ≤ b)
    (h : ∀ h', Fr h₀ L h' m → News h₀ L h' news → Q (.ref t) { s with heap := h' })
    (hs : subscripted slice false (.ref t) (.ref s.heap.objs.size) = operate [.ref s.heap.objs.size, .ref t] (getItem (.ref t) (.ref s.heap.objs.size)) := by with_unfolding_all rfl)
    (hg : ∀ r, letTemporaryGo value (.ref t) r = pure () := by intro _; with_unfolding_all rfl) :
    wpAny (model prog w) A (subscriptTail value slice (.ref t) (.ref s.heap.objs.size)) Q E { s with heap := s.heap.push { cls := .type "slice", data := .fields #[.none, .int b u, .none] } } := by
  have ht' : IsTup (s.heap.push { cls := .type "slice", data := .fields #[.none, .int b u, .none] }) t items := ht.keeps fun _ _ e => Heap.get?_push_of_some _ e
  exact subscriptTail_ops (s := { s with heap := s.heap.push { cls := .type "slice", data := .fields #[.none, .int b u, .none] } }) ht'.typeIs slot_tuple_getitem.lookup
    (getItem_tuple_whole ht' (Heap.IsSliceOf.new ..) hb (h _ (F.push _) (N.grown fun _ _ e => Heap.get?_push_of_some _ e))) hs hg
end
end Mine
end
section
open PySem PySem.W PyProof.Rows PySem.Calls PySem.Spec PyProof.V
namespace Mine
local macro_rules | `(tactic| walk_at "padding") => `(tactic| skip)
local macro_rules | `(tactic| walk_at "padding") => `(tactic| skip)
local macro_rules | `(tactic| walk_at "padding") => `(tactic| skip)
local macro_rules | `(tactic| walk_at "padding") => `(tactic| skip)
local macro_rules | `(tactic| walk_at "padding") => `(tactic| skip)
local macro_rules | `(tactic| walk_at "padding") => `(tactic| skip)
local macro_rules | `(tactic| walk_at "padding") => `(tactic| skip)
/-- what stands on the right; true: split with a pattern and a text and no limit -/
inductive RightR (news : List (Addr × Obj)) (r : Addr) : Bool → Prop where
  | op {l : Addr} {t1 t2 : Tok} {n : Nat} : (r, tup [.str (Str.ofString "func") t1, .str (Str.ofString "split") t2, .ref l]) ∈ news → (l, lst [.ref 584, .ref 585] n) ∈ news → RightR news r true
  | three {l : Addr} {t1 t2 : Tok} {n : Nat} : (r, tup [.str (Str.ofString "func") t1, .str (Str.ofString "split") t2, .ref l]) ∈ news → (l, lst [.ref 584, .ref 585, .ref 586] n) ∈ news → RightR news r false
  | join {l : Addr} {t1 t2 : Tok} {n : Nat} : (r, tup [.str (Str.ofString "func") t1, .str (Str.ofString "join") t2, .ref l]) ∈ news → (l, lst [.ref 584, .ref 585] n) ∈ news → RightR news r false
  | list {l sp nm l2 : Addr} {t1 t2 t3 t4 t5 : Tok} {n n2 : Nat} : (r, tup [.str (Str.ofString "list") t1, .ref l]) ∈ news → (l, lst [.ref sp, .ref nm] n) ∈ news →
      (sp, tup [.str (Str.ofString "func") t2, .str (Str.ofString "split") t3, .ref l2]) ∈ news → (l2, lst [.ref 584, .ref 585] n2) ∈ news → (nm, tup [.str (Str.ofString "num") t4, .int 1 t5]) ∈ news → RightR news r false
  | call {l nme li : Addr} {t1 t2 t3 t4 t5 : Tok} {n : Nat} : (r, tup [.str (Str.ofString "call") t1, .ref nme, .ref li]) ∈ news → (nme, tup [.str (Str.ofString "name") t2, .str (Str.ofString "&") t3, .str (Str.ofString "split") t4]) ∈ news →
      (li, tup [.str (Str.ofString "list") t5, .ref l]) ∈ news → (l, lst [.ref 584, .ref 585] n) ∈ news → RightR news r false
/-- all of a list lie above the cup and above the rest -/
noncomputable def Above (cup : Addr) (rest : List (Addr × Obj)) : List (Addr × Obj) → Prop
  | [] => True
  | p :: r => (@LT.lt Nat _ cup p.1 ∧ AllLt p.1 rest) ∧ Above cup rest r
theorem Above.mem {cup : Addr} {rest : List (Addr × Obj)} : ∀ {l : List (Addr × Obj)}, Above cup rest l → ∀ p ∈ l, p.1 ≠ cup ∧ ∀ q ∈ rest, p.1 ≠ q.1
  | [], _, _, hp => nomatch hp
  | _ :: _, h, p, hp => by
    rcases List.mem_cons.mp hp with rfl | hp
    · exact ⟨(Nat.ne_of_lt h.1.1).symm, fun q hq => (Nat.ne_of_lt (ktn_ltOf h.1.2 q hq)).symm⟩
    · exact Above.mem h.2 p hp
theorem list_of_top {prog : Program} {w : World} {A : Around} {E : Value → Shared → Prop} {s : Shared} {K : Frag} {h₀ : Heap} {L : Addr} {m : Str → Option Value} {news : List (Addr × Obj)} {t : Addr} {zs : List Value} {n : Nat} {dd : Option Addr} {sl : Array (Option Value)} {Q : Value → Shared → Prop}
    (F : Fr h₀ L s.heap m) (N : News h₀ L s.heap news) (X₀ : K.In h₀) (hl : K.lookup t = some ⟨.type "tuple", dd, .seq zs.toArray n, sl⟩) (hz : zs.length ≤ sizeLine)
    (h : ∀ D c h', Fr h₀ L h' m → News h₀ L h' ((D, listOf zs.toArray c) :: news) → (∀ q ∈ news, q.1 < D) → Q (.ref D) { s with heap := h' }) : wpAny (model prog w) A (call (.type "list") [.ref t]) Q E s :=
  list_copyKT F N (tupK (X₀.keeps F.keep) hl) (fun D c h' F' N' l1 => h D c h' F' N' l1) (by rw [List.size_toArray]; exact hz)
local macro_rules | `(tactic| k_all) => `(tactic| with_reducible assumption)
local macro_rules | `(tactic| k_room) => `(tactic| ktr_room)
local macro_rules | `(tactic| walk_at "call ref") => `(tactic| (k_here; (with_reducible show wpAny _ _ (call (Value.ref 594) _) _ _ _); refine stop_intro ?_))
local macro_rules | `(tactic| walk_at "subscriptTail") => `(tactic| (k_here; (with_reducible show wpAny _ _ (subscriptTail _ (PySem.Expr.Slice none (some _) none _) (Value.ref _) (Value.ref _)) _ _ _); k_dflt (refine' slice_tuple_to (b := 2) ?F ?N ?t ?b ?z ?e ?_ ?s ?g; (case F => k_asm); (case N => k_asm); (case t => first | exact tupK (by k_in) (by k_is) | exact News.isTup (by k_asm) (by k_mem)); (case b => decide); (case z => exact Nat.le_of_ble_eq_true rfl); (case e => kl_lit); (case s => with_unfolding_all rfl); (case g => intro _; with_unfolding_all rfl)); intro D' h' F' N' l1; (try k_lt l1)))
local macro_rules | `(tactic| walk_at "call type:list") => `(tactic| (k_here; (with_reducible show wpAny _ _ (call (Value.type _) [Value.ref 587]) _ _ _); k_dflt (refine' list_of_top ?F ?N ?X ?l ?z ?_; (case F => k_asm); (case N => k_asm); (case X => k_asm); (case l => k_is); (case z => exact Nat.le_of_ble_eq_true rfl)); intro D' c' h' F' N' l1; (try k_lt l1)))
section
variable {w : World} {mean : ExcName → Option Value} {mg mb : Str → Option Value} {dp un : Nat} {gd : Option (List Code)} {cn : Str} {cs : Scope} {a : Addr} {ccd : Value} {cl : List (Str × Addr)} {outer : List Env}
  {A₀ : Around} {base h₀ : Heap} {L : Addr} {m : Str → Option Value} {news : List (Addr × Obj)} {s : Shared} {Q E : Value → Shared → Prop}
  (B : Below A₀ base outer h₀) (F : Fr h₀ L s.heap m) (X : (hd.heap_1_39 w.params).In h₀)
  (T : Top hd.view_1_40 (looseW hd.view_1_40 [Str.ofString "WORD_SIGNS", Str.ofString "CLOSERS", Str.ofString "FLAGS_OF", Str.ofString "_law_many"]) mean mg mb h₀) (hk : cs.kind = .function)
include B F X T hk
set_option maxRecDepth 100000 in
set_option maxHeartbeats 8000000 in
theorem right_norm {cup items : Addr} {c : Int} {ct : Tok} {n1 n2 : Nat} {xs : List Value} {ns : List Int} {rest : List (Addr × Obj)}
    (N : News h₀ L s.heap ((cup, cupO items n1 c ct) :: (items, lst xs n2) :: rest))
    (hi : IntsAre xs ns) (hl : ns.length ≤ 63) (hc : 0 ≤ c) (ne : @Ne Nat cup items) (off : ∀ p ∈ rest, p.1 ≠ cup) (hd : dp + 20 < recursionLimit) (hu : un + 100 < cLine)
    (hret : ∀ t r b new c' ct' h' tk', RightR new r b → 0 ≤ c' → Above cup rest ((t, tup [.ref r, .bool b]) :: new) → Fr h₀ L h' m →
      News h₀ L h' ((cup, cupO items n1 c' ct') :: (items, lst xs n2) :: (t, tup [.ref r, .bool b]) :: (new ++ rest)) → Q (.ref t) { s with heap := h', toks := tk' }) :
    wpAny (model PySem.Challenge.rw_qz0113_01.row.prog w) (ktrTop dp un gd cn cs L a ccd cl outer) (call (.ref 608) [.ref cup]) Q E s := by
  revert X
  w_top off
  k_fill
  intro X
  refine wpAny_call ?_
  k_dflt ktr_enter
  k_steps
  unfold Stop
  k_dflt (refine' sip_call ?k1 ?k2 ?k3 ?k4 ?k5 ?k6 ?k7 ?k8 ?k9 ?k10 ?k11 ?k12 ?k13 ?k14 ?_)
  case k1 => k_asm
  case k2 => k_asm
  case k3 => k_asm
  case k4 => k_asm
  case k5 => exact rfl
  case k6 => k_asm
  case k7 => k_updF
  case k8 => k_mem
  case k9 => assumption
  case k10 => assumption
  case k11 => assumption
  case k12 => assumption
  case k13 => decide
  case k14 => ktr_room
  intro way tw c' ct' h9 tt9 hw0 hw7 hc' F9 N9
  try dsimp only
  have fin : ∀ {t r : Addr} {b : Bool} {new all : List (Addr × Obj)} {h' : Heap} {tk' : Nat}, Fr h₀ L h' m → News h₀ L h' all → (t, tup [.ref r, .bool b]) ∈ all → RightR new r b → (∀ p ∈ new, p ∈ all) →
      (cup, cupO items n1 c' ct') ∈ all → (items, lst xs n2) ∈ all → (∀ p ∈ rest, p ∈ all) → Above cup rest ((t, tup [.ref r, .bool b]) :: new) → Q (.ref t) { s with heap := h', toks := tk' } := by
    intro t r b new all h' tk' kF kN h2 h3 h4 h5 h6 h7 h8
    refine hret t r b new c' ct' h' tk' h3 hc' h8 kF (news_sub kN ?_)
    intro p hp
    rcases List.mem_cons.mp hp with rfl | hp
    · exact h5
    rcases List.mem_cons.mp hp with rfl | hp
    · exact h6
    rcases List.mem_cons.mp hp with rfl | hp
    · exact h2
    rcases List.mem_append.mp hp with hp | hp
    · exact h4 p hp
    · exact h7 p hp
  clear hret
  have hway : way < 3 ∨ way = 3 ∨ way = 4 ∨ way = 5 ∨ way = 6 := by omega
  k_steps
  · rename_i kF kN _ _
    refine' fin (new := [(_, tup [.str _ _, .str _ _, .ref _]), (_, lst [.ref 584, .ref 585] _)]) kF kN ?m1 (RightR.op (.head _) (.tail _ (.head _))) ?mn (by kcf_m) (by kcf_m) (by intro p hp; kcf_m) ?ab
    case m1 => kcf_m
    case mn => kcf_all
    case ab => (simp only [Above, and_true]; repeat' (first | omega | tbn_find | assumption | refine And.intro ?_ ?_))
  · rename_i kF kN _ _
    refine' fin (new := [(_, tup [.str _ _, .str _ _, .ref _]), (_, lst [.ref 584, .ref 585, .ref 586] _)]) kF kN ?m1 (RightR.three (.head _) (.tail _ (.head _))) ?mn (by kcf_m) (by kcf_m) (by intro p hp; kcf_m) ?ab
    case m1 => kcf_m
    case mn => kcf_all
    case ab => (simp only [Above, and_true]; repeat' (first | omega | tbn_find | assumption | refine And.intro ?_ ?_))
  · rcases hway with hway | hway | hway | hway | hway
    · omega
    · omega
    · subst hway
      k_steps
      rename_i kF kN _ _
      refine' fin (new := [(_, tup [.str _ _, .str _ _, .ref _]), (_, lst [.ref 584, .ref 585] _)]) kF kN ?m1 (RightR.join (.head _) (.tail _ (.head _))) ?mn (by kcf_m) (by kcf_m) (by intro p hp; kcf_m) ?ab
      case m1 => kcf_m
      case mn => kcf_all
      case ab => (simp only [Above, and_true]; repeat' (first | omega | tbn_find | assumption | refine And.intro ?_ ?_))
    · subst hway
      k_steps
      rename_i kF kN _ _
      refine' fin (new := [(_, tup [.str _ _, .ref _]), (_, lst [.ref _, .ref _] _), (_, tup [.str _ _, .str _ _, .ref _]), (_, lst [.ref 584, .ref 585] _), (_, tup [.str _ _, .int 1 _])]) kF kN ?m1 (RightR.list (.head _) (.tail _ (.head _)) (.tail _ (.tail _ (.head _))) (.tail _ (.tail _ (.tail _ (.head _)))) (.tail _ (.tail _ (.tail _ (.tail _ (.head _)))))) ?mn (by kcf_m) (by kcf_m) (by intro p hp; kcf_m) ?ab
      case m1 => kcf_m
      case mn => kcf_all
      case ab => (simp only [Above, and_true]; repeat' (first | omega | tbn_find | assumption | refine And.intro ?_ ?_))
    · subst hway
      k_steps
      rename_i kF kN _ _
      refine' fin (new := [(_, tup [.str _ _, .ref _, .ref _]), (_, tup [.str _ _, .str _ _, .str _ _]), (_, tup [.str _ _, .ref _]), (_, lst [.ref 584, .ref 585] _)]) kF kN ?m1 (RightR.call (.head _) (.tail _ (.head _)) (.tail _ (.tail _ (.head _))) (.tail _ (.tail _ (.tail _ (.head _))))) ?mn (by kcf_m) (by kcf_m) (by intro p hp; kcf_m) ?ab
      case m1 => kcf_m
      case mn => kcf_all
      case ab => (simp only [Above, and_true]; repeat' (first | omega | tbn_find | assumption | refine And.intro ?_ ?_))
end
end Mine
end
section
open PySem PySem.W PyProof.Rows PySem.Calls PySem.Spec PyProof.V
namespace Mine
section
variable {h₀ : Heap} {news news' : List (Addr × Obj)}
theorem rv_str (x : Str) (t : Tok) : ReadsVia h₀ news (.str x t) (.str x) := fun _ _ _ => ⟨_, .str x t⟩
theorem rv_int (i : Int) (t : Tok) : ReadsVia h₀ news (.int i t) (.int i) := fun _ _ _ => ⟨_, .int i t⟩
theorem rva_nil : ReadsViaAll h₀ news [] [] := fun _ _ _ => ⟨_, .nil⟩
theorem rva_cons {v : Value} {d : PyData} {vs : List Value} {ds : List PyData} (a : ReadsVia h₀ news v d) (b : ReadsViaAll h₀ news vs ds) : ReadsViaAll h₀ news (v :: vs) (d :: ds) := fun h k n =>
  let ⟨_, x⟩ := a h k n; let ⟨_, y⟩ := b h k n; ⟨_, .cons x y⟩
theorem rv_tup {a : Addr} {vs : List Value} {ds : List PyData} (hm : (a, tup vs) ∈ news) (b : ReadsViaAll h₀ news vs ds) : ReadsVia h₀ news (.ref a) (.tuple ds) := fun h k n =>
  let ⟨_, y⟩ := b h k n; ⟨_, .tuple (n _ hm) rfl rfl (by simpa using y)⟩
theorem rv_lst {a : Addr} {n : Nat} {vs : List Value} {ds : List PyData} (hm : (a, lst vs n) ∈ news) (b : ReadsViaAll h₀ news vs ds) : ReadsVia h₀ news (.ref a) (.list ds) := fun h k n' =>
  let ⟨_, y⟩ := b h k n'; ⟨_, .list (n' _ hm) rfl rfl (by simpa using y)⟩
theorem rv_base {v : Value} {d : PyData} {as : List Addr} (r : Reads h₀ v d as) : ReadsVia h₀ news v d := fun _ k _ => ⟨_, Reads.keeps k r⟩
abbrev sD (x : String) : PyData := .str (Str.ofString x)
abbrev d584 : PyData := .tuple [sD "match", .none, .tuple [sD "str", sD ","], sD "", .bool false]
abbrev d585 : PyData := .tuple [sD "name", sD "$", sD "t"]
abbrev d586 : PyData := .tuple [sD "num", .int 0]
/-- the table of the arguments, as it reads -/
structure ArgsAt (h : Heap) : Prop where
  a4 : ∃ as, Reads h (.ref 584) d584 as
  a5 : ∃ as, Reads h (.ref 585) d585 as
  a6 : ∃ as, Reads h (.ref 586) d586 as
/-- the leaves, as they read -/
def LeavesAt (h : Heap) : Prop := ∀ v c, Leaf v c → ∃ d as, Reads h v d as ∧ d.canLay0 = true ∧ d.depth ≤ 4
theorem ex_reads {h : Heap} {v : Value} {d : PyData} {as : List Addr} (r : Reads h v d as) (hp : d.canLay0 = true ∧ d.depth ≤ 4) : ∃ d as, Reads h v d as ∧ d.canLay0 = true ∧ d.depth ≤ 4 := ⟨d, as, r, hp⟩
theorem ex_reads1 {h : Heap} {v : Value} {d : PyData} {as : List Addr} (r : Reads h v d as) : ∃ as, Reads h v d as := ⟨as, r⟩
set_option maxRecDepth 100000 in
theorem args_at {P : Params} {h : Heap} (X : (hd.heap_1_39 P).In h) : ArgsAt h := by
  refine' ⟨ex_reads1 ?_, ex_reads1 ?_, ex_reads1 ?_⟩
  all_goals (repeat' (first | exact ReadsAll.nil | refine' ReadsAll.cons ?_ ?_ | exact Reads.str _ _ | exact Reads.int _ _ | exact Reads.none | exact Reads.bool _ | (refine' Reads.tuple (X _ _ rfl) rfl rfl ?_) | (refine' Reads.list (X _ _ rfl) rfl rfl ?_)))
set_option maxRecDepth 100000 in
theorem leaves_at {P : Params} {h : Heap} (X : (hd.heap_1_39 P).In h) : LeavesAt h := by
  intro v c hv
  have key : ∀ a ∈ ones ++ manys, ∃ d as, Reads h (.ref a) d as ∧ d.canLay0 = true ∧ d.depth ≤ 4 := by
    intro a ha
    simp only [ones, manys, List.cons_append, List.nil_append, List.mem_cons, List.not_mem_nil, or_false] at ha
    repeat' (first | (rcases ha with ha | ha) | subst ha)
    all_goals (
      refine' ex_reads ?r ?p
      case r => (repeat' (first | exact ReadsAll.nil | refine' ReadsAll.cons ?_ ?_ | exact Reads.str _ _ | exact Reads.int _ _ | exact Reads.none | exact Reads.bool _ | (refine' Reads.tuple (X _ _ rfl) rfl rfl ?_) | (refine' Reads.list (X _ _ rfl) rfl rfl ?_)))
      case p => decide +kernel)
  rcases hv with ⟨_, a, ha, rfl⟩ | ⟨_, a, ha, rfl⟩
  · exact key a (List.mem_append.mpr (.inl ha))
  · exact key a (List.mem_append.mpr (.inr ha))
end
end Mine
end
section
open PySem PySem.W PyProof.Rows PySem.Calls PySem.Spec PyProof.V
namespace Mine
local macro_rules | `(tactic| walk_at "padding") => `(tactic| skip)
local macro_rules | `(tactic| walk_at "padding") => `(tactic| skip)
local macro_rules | `(tactic| walk_at "padding") => `(tactic| skip)
local macro_rules | `(tactic| walk_at "padding") => `(tactic| skip)
local macro_rules | `(tactic| walk_at "padding") => `(tactic| skip)
local macro_rules | `(tactic| walk_at "padding") => `(tactic| skip)
local macro_rules | `(tactic| walk_at "padding") => `(tactic| skip)
local macro_rules | `(tactic| walk_at "padding") => `(tactic| skip)
/-- split with its limit where it is due, the right as it stood else -/
def LimR (news : List (Addr × Obj)) (r : Addr) (b : Bool) (c : Int) (v : Value) : Prop :=
  (b = true ∧ 0 ≤ c ∧ ∃ q l m t1 t2 t3 t4 n, v = .ref q ∧ (q, tup [.str (Str.ofString "func") t1, .str (Str.ofString "split") t2, .ref l]) ∈ news ∧ (l, lst [.ref 584, .ref 585, .ref m] n) ∈ news ∧
    (m, tup [.str (Str.ofString "num") t3, .int (c + 1) t4]) ∈ news) ∨ (¬ (b = true ∧ 0 ≤ c) ∧ v = .ref r)
local macro_rules | `(tactic| k_mem) => `(tactic| first | assumption | exact List.mem_cons_self | (refine List.mem_cons_of_mem _ ?_; k_mem))
local macro_rules | `(tactic| k_room) => `(tactic| ktr_room)
local macro_rules | `(tactic| walk_at "call ref") => `(tactic| (k_here; (with_reducible show wpAny _ _ (call (Value.ref 238) _) _ _ _); refine stop_intro ?_))
local macro_rules | `(tactic| walk_at "subscriptTail") => `(tactic| (k_here; (with_reducible show wpAny _ _ (subscriptTail _ (PySem.Expr.Slice none (some _) none _) (Value.ref _) (Value.ref _)) _ _ _); k_dflt (refine' slice_tuple_whole (b := 2) ?F ?N ?t ?b ?_ ?s ?g; (case F => k_asm); (case N => k_asm); (case t => exact News.isTup (by k_asm) (by k_mem)); (case b => exact Nat.le_of_ble_eq_true rfl); (case s => with_unfolding_all rfl); (case g => intro _; with_unfolding_all rfl)); intro h' F' N'))
local macro_rules | `(tactic| walk_at "subscriptTail") => `(tactic| (k_here; (with_reducible show wpAny _ _ (subscriptTail _ (PySem.Expr.Slice none (some _) none _) (Value.ref _) (Value.ref _)) _ _ _); k_dflt (refine' slice_tuple_to (b := 2) ?F ?N ?t ?b ?z ?e ?_ ?s ?g; (case F => k_asm); (case N => k_asm); (case t => exact News.isTup (by k_asm) (by k_mem)); (case b => exact Nat.le_of_ble_eq_true rfl); (case z => exact Nat.le_of_ble_eq_true rfl); (case e => kl_lit); (case s => with_unfolding_all rfl); (case g => intro _; with_unfolding_all rfl)); intro D' h' F' N' l1; (try k_lt l1)))
section
variable {w : World} {mean : ExcName → Option Value} {mg mb : Str → Option Value} {dp un : Nat} {gd : Option (List Code)} {cn : Str} {cs : Scope} {a : Addr} {ccd : Value} {cl : List (Str × Addr)} {outer : List Env}
  {A₀ : Around} {base h₀ : Heap} {L : Addr} {m : Str → Option Value} {news : List (Addr × Obj)} {s : Shared} {Q E : Value → Shared → Prop}
  (B : Below A₀ base outer h₀) (F : Fr h₀ L s.heap m) (X : (hd.heap_1_39 w.params).In h₀)
  (T : Top hd.view_1_40 (looseW hd.view_1_40 [Str.ofString "WORD_SIGNS", Str.ofString "CLOSERS", Str.ofString "FLAGS_OF", Str.ofString "_law_many"]) mean mg mb h₀) (hk : cs.kind = .function)
include B F X T hk
set_option maxRecDepth 100000 in
set_option maxHeartbeats 8000000 in
theorem limit_call {r : Addr} {b : Bool} {v : Value} {c : Int} (N : News h₀ L s.heap news) (hn : NodeH 3 news v c) (hr : RightR news r b) (hd : dp + 100 < recursionLimit) (hu : un + 300 < cLine)
    (hret : ∀ v' news' h' tk', (∀ p ∈ news, p ∈ news') → LimR news' r b c v' → Fr h₀ L h' m → News h₀ L h' news' → Q v' { s with heap := h', toks := tk' }) :
    wpAny (model PySem.Challenge.rw_qz0113_01.row.prog w) (ktrTop dp un gd cn cs L a ccd cl outer) (call (.ref 245) [v, .ref r]) Q E s := by
  revert X
  w_top off
  k_fill
  intro X
  refine wpAny_call ?_
  k_dflt ktr_enter
  k_steps
  unfold Stop
  have CS := count_all (w := w) (mean := mean) (mg := mg) (mb := mb) 3
  unfold CountSat at CS
  k_dflt (refine' CS _ _ _ _ _ _ _ _ _ _ _ _ _ _ _ _ _ news v c ?k1 ?k2 ?k3 ?k4 ?k5 ?k6 hn ?k7 ?k8 ?_)
  case k1 => k_asm
  case k2 => k_asm
  case k3 => k_asm
  case k4 => k_asm
  case k5 => exact rfl
  case k6 => k_asm
  case k7 => ktr_room
  case k8 => ktr_units
  clear CS
  intro tc h' tk' F9 N9
  try dsimp only
  cases hr with
  | op h1 h2 =>
    k_steps
    · rename_i kF kN _ _
      exact hret _ _ _ _ (by intro p hp; kcf_m) (.inr ⟨fun h => by omega, rfl⟩) kF kN
    · rename_i kF kN _ _
      refine' hret _ _ _ _ (by intro p hp; kcf_m) (.inl ⟨rfl, by omega, _, _, _, _, _, _, _, _, rfl, ?m1, ?m2, ?m3⟩) kF kN
      case m1 => kcf_m
      case m2 => kcf_m
      case m3 => kcf_m
  | three h1 h2 =>
    k_steps
    rename_i kF kN _ _
    exact hret _ _ _ _ (by intro p hp; kcf_m) (.inr ⟨fun h => by simp at h, rfl⟩) kF kN
  | join h1 h2 =>
    k_steps
    rename_i kF kN _ _
    exact hret _ _ _ _ (by intro p hp; kcf_m) (.inr ⟨fun h => by simp at h, rfl⟩) kF kN
  | list h1 h2 h3 h4 h5 =>
    (rename Frag.In _ _ => Xg)
    obtain ⟨⟨_, R4⟩, ⟨_, R5⟩, _⟩ := args_at Xg
    k_steps
    rename_i kF kN _ _
    exact hret _ _ _ _ (by intro p hp; kcf_m) (.inr ⟨fun h => by simp at h, rfl⟩) kF kN
  | call h1 h2 h3 h4 =>
    k_steps
    rename_i kF kN _ _
    exact hret _ _ _ _ (by intro p hp; kcf_m) (.inr ⟨fun h => by simp at h, rfl⟩) kF kN
end
end Mine
end
section
open PySem PySem.W PyProof.Rows PySem.Calls PySem.Spec PyProof.V
namespace Mine
local macro_rules | `(tactic| walk_at "padding") => `(tactic| skip)
local macro_rules | `(tactic| walk_at "padding") => `(tactic| skip)
local macro_rules | `(tactic| walk_at "padding") => `(tactic| skip)
local macro_rules | `(tactic| walk_at "padding") => `(tactic| skip)
local macro_rules | `(tactic| walk_at "padding") => `(tactic| skip)
local macro_rules | `(tactic| walk_at "padding") => `(tactic| skip)
local macro_rules | `(tactic| walk_at "padding") => `(tactic| skip)
local macro_rules | `(tactic| walk_at "padding") => `(tactic| skip)
local macro_rules | `(tactic| walk_at "padding") => `(tactic| skip)
local macro_rules | `(tactic| walk_at "padding") => `(tactic| skip)
/-- the targets that list_target wraps in a list -/
def wraps : List Addr := [562, 572, 579, 581]
def LtR (news : List (Addr × Obj)) (v v' : Value) : Prop :=
  ((∃ a ∈ wraps, v = .ref a) ∧ ∃ q l tk n, v' = .ref q ∧ (q, tup [.str (Str.ofString "list") tk, .ref l]) ∈ news ∧ (l, lst [v] n) ∈ news) ∨ (¬ (∃ a ∈ wraps, v = .ref a) ∧ v' = v)
theorem LtR.mono {news news' : List (Addr × Obj)} {v v' : Value} (h : LtR news v v') (hs : ∀ p ∈ news, p ∈ news') : LtR news' v v' := by
  rcases h with ⟨h, q, l, tk, n, e, h1, h2⟩ | h
  · exact .inl ⟨h, q, l, tk, n, e, hs _ h1, hs _ h2⟩
  · exact .inr h
theorem LimR.mono {news news' : List (Addr × Obj)} {r : Addr} {b : Bool} {c : Int} {v : Value} (h : LimR news r b c v) (hs : ∀ p ∈ news, p ∈ news') : LimR news' r b c v := by
  rcases h with ⟨h1, h2, q, l, m, t1, t2, t3, t4, n, e, m1, m2, m3⟩ | h
  · exact .inl ⟨h1, h2, q, l, m, t1, t2, t3, t4, n, e, hs _ m1, hs _ m2, hs _ m3⟩
  · exact .inr h
theorem RightR.mono {news news' : List (Addr × Obj)} {r : Addr} {b : Bool} (h : RightR news r b) (hs : ∀ p ∈ news, p ∈ news') : RightR news' r b := by
  cases h with
  | op a1 a2 => exact .op (hs _ a1) (hs _ a2)
  | three a1 a2 => exact .three (hs _ a1) (hs _ a2)
  | join a1 a2 => exact .join (hs _ a1) (hs _ a2)
  | list a1 a2 a3 a4 a5 => exact .list (hs _ a1) (hs _ a2) (hs _ a3) (hs _ a4) (hs _ a5)
  | call a1 a2 a3 a4 => exact .call (hs _ a1) (hs _ a2) (hs _ a3) (hs _ a4)
/-- a list of targets on the ledger -/
def ListN (h : Nat) (news : List (Addr × Obj)) (v : Value) (c : Int) : Prop :=
  ∃ q l tk vs n cs, v = .ref q ∧ (q, tup [.str (Str.ofString "list") tk, .ref l]) ∈ news ∧ (l, lst vs n) ∈ news ∧ vs.length ≤ 8 ∧ c = tot cs ∧ All2 (NodeH h news) vs cs
/-- the left of a list assignment -/
def LeftOk (news : List (Addr × Obj)) (v : Value) (c : Int) : Prop := (Leaf v c ∧ c < 0) ∨ ListN 2 news v c
theorem LeftOk.node {news : List (Addr × Obj)} {v : Value} {c : Int} (h : LeftOk news v c) : NodeH 3 news v c := h.elim (fun h => .inl h.1) .inr
theorem LeftOk.mono {news news' : List (Addr × Obj)} {v : Value} {c : Int} (h : LeftOk news v c) (hs : ∀ p ∈ news, p ∈ news') : LeftOk news' v c := by
  rcases h with h | ⟨q, l, tk, vs, n, cs, e, h1, h2, h3, h4, h5⟩
  · exact .inl h
  · exact .inr ⟨q, l, tk, vs, n, cs, e, hs _ h1, hs _ h2, h3, h4, h5.imp fun a b y => NodeH.mono 2 y hs⟩
set_option maxRecDepth 100000 in
theorem not_wraps {P : Params} {h₀ h : Heap} {L q : Addr} {o : Obj} {news : List (Addr × Obj)} (X : (hd.heap_1_39 P).In h₀) (N : News h₀ L h news) (hq : (q, o) ∈ news) : ¬ ∃ a ∈ wraps, Value.ref q = .ref a := by
  rintro ⟨a, ha, e⟩
  cases e
  have hn := (N _ hq).2.2
  simp only [wraps, List.mem_cons, List.not_mem_nil, or_false] at ha
  rcases ha with rfl | rfl | rfl | rfl
  · rw [X 562 _ rfl] at hn; cases hn
  · rw [X 572 _ rfl] at hn; cases hn
  · rw [X 579 _ rfl] at hn; cases hn
  · rw [X 581 _ rfl] at hn; cases hn
local macro_rules | `(tactic| k_mem) => `(tactic| first | assumption | exact List.mem_cons_self | (refine List.mem_cons_of_mem _ ?_; k_mem))
local macro_rules | `(tactic| k_room) => `(tactic| ktr_room)
local macro_rules | `(tactic| walk_at "compareOp In str ref") => `(tactic| (k_here; (with_reducible show wpAny _ _ (compareOp CmpOp.In (Value.str _ _) (Value.ref _)) _ _ _); k_dflt (first
  | (refine' in_words true ?k1 ?k2 ?k3 ?k4 ?k5 ?_; (case k1 => k_asm); (case k2 => k_asm); (case k3 => k_is); (case k4 => kde_strs); (case k5 => decide +kernel))
  | (refine' in_words false ?k1 ?k2 ?k3 ?k4 ?k5 ?_; (case k1 => k_asm); (case k2 => k_asm); (case k3 => k_is); (case k4 => kde_strs); (case k5 => decide +kernel)))))
local macro_rules | `(tactic| walk_at "call ref") => `(tactic| (k_here; (first | (with_reducible show wpAny _ _ (call (Value.ref 205) _) _ _ _) | (with_reducible show wpAny _ _ (call (Value.ref 226) _) _ _ _) | (with_reducible show wpAny _ _ (call (Value.ref 233) _) _ _ _) | (with_reducible show wpAny _ _ (call (Value.ref 245) _) _ _ _)); refine stop_intro ?_))
section
variable {w : World} {mean : ExcName → Option Value} {mg mb : Str → Option Value} {dp un : Nat} {gd : Option (List Code)} {cn : Str} {cs : Scope} {a : Addr} {ccd : Value} {cl : List (Str × Addr)} {outer : List Env}
  {A₀ : Around} {base h₀ : Heap} {L : Addr} {m : Str → Option Value} {news : List (Addr × Obj)} {s : Shared} {Q E : Value → Shared → Prop}
  (B : Below A₀ base outer h₀) (F : Fr h₀ L s.heap m) (X : (hd.heap_1_39 w.params).In h₀)
  (T : Top hd.view_1_40 (looseW hd.view_1_40 [Str.ofString "WORD_SIGNS", Str.ofString "CLOSERS", Str.ofString "FLAGS_OF", Str.ofString "_law_many"]) mean mg mb h₀) (hk : cs.kind = .function)
include B F X T hk
set_option maxRecDepth 100000 in
set_option maxHeartbeats 8000000 in
theorem lt_call {v : Value} {c : Int} (N : News h₀ L s.heap news) (hn : LeftOk news v c) (hd : dp + 100 < recursionLimit)
    (hret : ∀ v' news' h' tk', (∀ p ∈ news, p ∈ news') → LtR news' v v' → Fr h₀ L h' m → News h₀ L h' news' → Q v' { s with heap := h', toks := tk' }) :
    wpAny (model PySem.Challenge.rw_qz0113_01.row.prog w) (ktrTop dp un gd cn cs L a ccd cl outer) (call (.ref 233) [v]) Q E s := by
  revert X
  w_top off
  k_fill
  intro X
  rcases hn with ⟨hn, hc⟩ | ⟨q, l, tk, vs, n, ds, rfl, hq, hq2, hlen, rfl, hall⟩
  · rcases hn with ⟨rfl, v', hv, rfl⟩ | ⟨rfl, v', hv, rfl⟩
    · exact absurd hc (by decide)
    · simp only [manys, List.mem_cons, List.not_mem_nil, or_false] at hv
      repeat' (first | (rcases hv with hv | hv) | subst hv)
      all_goals (
        refine wpAny_call ?_
        k_dflt ktr_enter
        k_steps
        rename_i kF kN _ _
        first
          | exact hret _ _ _ _ (by intro p hp; kcf_m) (.inr ⟨by simp [wraps], rfl⟩) kF kN
          | (refine' hret _ _ _ _ (by intro p hp; kcf_m) (.inl ⟨⟨_, ?mw, rfl⟩, _, _, _, _, rfl, ?m1, ?m2⟩) kF kN
             case mw => simp [wraps]
             case m1 => kcf_m
             case m2 => kcf_m))
  · have hw := not_wraps X N hq
    refine wpAny_call ?_
    k_dflt ktr_enter
    k_steps
    rename_i kF kN _ _
    exact hret _ _ _ _ (by intro p hp; kcf_m) (.inr ⟨hw, rfl⟩) kF kN
theorem islist_ok {v : Value} {c : Int} (N : News h₀ L s.heap news) (hn : LeftOk news v c) (hd : dp + 20 < recursionLimit) (hu : un + 100 < cLine)
    (hret : ∀ h' tk', Fr h₀ L h' m → News h₀ L h' news → Q (.bool true) { s with heap := h', toks := tk' }) :
    wpAny (model PySem.Challenge.rw_qz0113_01.row.prog w) (ktrTop dp un gd cn cs L a ccd cl outer) (call (.ref 205) [v]) Q E s := by
  rcases hn with ⟨hn, hc⟩ | ⟨q, l, tk, vs, n, ds, rfl, hq, hq2, hlen, rfl, hall⟩
  · obtain ⟨v', rfl⟩ : ∃ v', v = .ref v' := by
      rcases hn with ⟨_, v', _, e⟩ | ⟨_, v', _, e⟩ <;> exact ⟨v', e⟩
    refine islist_leaf B F X T hk N hd hu hn fun b h' tk' e F' N' => ?_
    have e' : b = true := by rw [e]; exact decide_eq_true hc
    subst e'
    exact hret h' tk' F' N'
  · exact islist_list B F X T hk N hd hu hq fun b h' tk' e F' N' => by subst e; exact hret h' tk' F' N'
set_option maxRecDepth 100000 in
set_option maxHeartbeats 8000000 in
theorem build_call {v rv : Value} {c : Int} {r : Addr} {b : Bool} {te : Tok} (N : News h₀ L s.heap news) (hn : LeftOk news v c) (hr : RightR news r b) (hd : dp + 200 < recursionLimit) (hu : un + 400 < cLine)
    (hret : ∀ t v1 v2 tt news' h' tk', (∀ p ∈ news, p ∈ news') → (t, tup [.str (Str.ofString "aassign") tt, v1, v2]) ∈ news' → LtR news' v v1 → LimR news' r b c v2 → Fr h₀ L h' m → News h₀ L h' news' → Q (.ref t) { s with heap := h', toks := tk' }) :
    wpAny (model PySem.Challenge.rw_qz0113_01.row.prog w) (ktrTop dp un gd cn cs L a ccd cl outer) (call (.ref 252) [rv, .str (Str.ofString "=") te, v, .ref r]) Q E s := by
  revert X
  w_top off
  k_fill
  intro X
  refine wpAny_call ?_
  k_dflt ktr_enter
  k_steps
  unfold Stop
  k_dflt (refine' islist_ok ?k1 ?k2 ?k3 ?k4 ?k5 ?k6 hn ?k7 ?k8 ?_)
  case k1 => k_asm
  case k2 => k_asm
  case k3 => k_asm
  case k4 => k_asm
  case k5 => exact rfl
  case k6 => k_asm
  case k7 => ktr_room
  case k8 => ktr_units
  intro h1 tk1 F1 N1
  try dsimp only
  k_steps
  unfold Stop
  have CS := check_all (w := w) (mean := mean) (mg := mg) (mb := mb) 3
  unfold CheckSat at CS
  k_dflt (refine' CS _ _ _ _ _ _ _ _ _ _ _ _ _ _ _ _ _ news rv v c ?k1 ?k2 ?k3 ?k4 ?k5 ?k6 hn.node ?k7 ?k8 ?_)
  case k1 => k_asm
  case k2 => k_asm
  case k3 => k_asm
  case k4 => k_asm
  case k5 => exact rfl
  case k6 => k_asm
  case k7 => ktr_room
  case k8 => ktr_units
  clear CS
  intro h2 tk2 F2 N2
  try dsimp only
  k_steps
  unfold Stop
  k_dflt (refine' lt_call ?k1 ?k2 ?k3 ?k4 ?k5 ?k6 hn ?k7 ?_)
  case k1 => k_asm
  case k2 => k_asm
  case k3 => k_asm
  case k4 => k_asm
  case k5 => exact rfl
  case k6 => k_asm
  case k7 => ktr_room
  intro v1 nw1 h3 tk3 hs1 hlt F3 N3
  try dsimp only
  k_steps
  unfold Stop
  have hr1 := hr.mono hs1
  k_dflt (refine' limit_call ?k1 ?k2 ?k3 ?k4 ?k5 ?k6 (hn.mono hs1).node hr1 ?k7 ?k8 ?_)
  case k1 => k_asm
  case k2 => k_asm
  case k3 => k_asm
  case k4 => k_asm
  case k5 => exact rfl
  case k6 => k_asm
  case k7 => ktr_room
  case k8 => ktr_units
  intro v2 nw2 h4 tk4 hs2 hlim F4 N4
  try dsimp only
  k_steps
  rename_i kF kN _ _
  exact hret _ _ _ _ _ _ _ (fun p hp => .tail _ (hs2 p (hs1 p hp))) (.head _) (hlt.mono fun p hp => .tail _ (hs2 p hp)) (hlim.mono fun p hp => .tail _ hp) kF kN
end
end Mine
end
section
open PySem PySem.W PyProof.Rows PySem.Calls PySem.Spec PyProof.V
namespace Mine
section
variable {h₀ : Heap} {news : List (Addr × Obj)}
/-- data that repr shows -/
structure ShowD (d : PyData) : Prop where
  s1 : d.showable = true
  s2 : d.hasDict = false
  s3 : isDisplay d = true
  s4 : d.depth ≤ 8
  s5 : d.shown.length ≤ sizeLine
  s6 : d.canLay0 = true
theorem right_reads (AA : ArgsAt h₀) {r : Addr} {b : Bool} (hr : RightR news r b) : ∃ d, ReadsVia h₀ news (.ref r) d ∧ ShowD d := by
  obtain ⟨⟨_, a4⟩, ⟨_, a5⟩, ⟨_, a6⟩⟩ := AA
  cases hr with
  | op h1 h2 => exact ⟨.tuple [sD "func", sD "split", .list [d584, d585]], rv_tup h1 (rva_cons (rv_str _ _) (rva_cons (rv_str _ _) (rva_cons (rv_lst h2 (rva_cons (rv_base a4) (rva_cons (rv_base a5) rva_nil))) rva_nil))), by constructor <;> decide +kernel⟩
  | three h1 h2 => exact ⟨.tuple [sD "func", sD "split", .list [d584, d585, d586]], rv_tup h1 (rva_cons (rv_str _ _) (rva_cons (rv_str _ _) (rva_cons (rv_lst h2 (rva_cons (rv_base a4) (rva_cons (rv_base a5) (rva_cons (rv_base a6) rva_nil)))) rva_nil))), by constructor <;> decide +kernel⟩
  | join h1 h2 => exact ⟨.tuple [sD "func", sD "join", .list [d584, d585]], rv_tup h1 (rva_cons (rv_str _ _) (rva_cons (rv_str _ _) (rva_cons (rv_lst h2 (rva_cons (rv_base a4) (rva_cons (rv_base a5) rva_nil))) rva_nil))), by constructor <;> decide +kernel⟩
  | list h1 h2 h3 h4 h5 =>
    exact ⟨.tuple [sD "list", .list [.tuple [sD "func", sD "split", .list [d584, d585]], .tuple [sD "num", .int 1]]],
      rv_tup h1 (rva_cons (rv_str _ _) (rva_cons (rv_lst h2 (rva_cons (rv_tup h3 (rva_cons (rv_str _ _) (rva_cons (rv_str _ _) (rva_cons (rv_lst h4 (rva_cons (rv_base a4) (rva_cons (rv_base a5) rva_nil))) rva_nil)))) (rva_cons (rv_tup h5 (rva_cons (rv_str _ _) (rva_cons (rv_int _ _) rva_nil))) rva_nil))) rva_nil)),
      by constructor <;> decide +kernel⟩
  | call h1 h2 h3 h4 =>
    exact ⟨.tuple [sD "call", .tuple [sD "name", sD "&", sD "split"], .tuple [sD "list", .list [d584, d585]]],
      rv_tup h1 (rva_cons (rv_str _ _) (rva_cons (rv_tup h2 (rva_cons (rv_str _ _) (rva_cons (rv_str _ _) (rva_cons (rv_str _ _) rva_nil)))) (rva_cons (rv_tup h3 (rva_cons (rv_str _ _) (rva_cons (rv_lst h4 (rva_cons (rv_base a4) (rva_cons (rv_base a5) rva_nil))) rva_nil))) rva_nil))),
      by constructor <;> decide +kernel⟩
theorem depth_tuple (xs : List PyData) : PyData.depth (.tuple xs) = PyData.depthAll xs + 1 := by simp [PyData.depth]
theorem depth_list (xs : List PyData) : PyData.depth (.list xs) = PyData.depthAll xs + 1 := by simp [PyData.depth]
theorem all_reads {k : Nat} {R : Value → Int → Prop} (f : ∀ v c, R v c → ∃ d, ReadsVia h₀ news v d ∧ d.canLay0 = true ∧ d.depth ≤ k) : ∀ {vs : List Value} {cs : List Int}, All2 R vs cs →
    ∃ ds, ReadsViaAll h₀ news vs ds ∧ PyData.canLayAll0 ds = true ∧ PyData.depthAll ds ≤ k + 1
  | _, _, .nil => ⟨[], rva_nil, by simp [PyData.canLayAll0], by simp [PyData.depthAll]⟩
  | _, _, .cons h t => by
    obtain ⟨d, d1, d2, d3⟩ := f _ _ h
    obtain ⟨ds, e1, e2, e3⟩ := all_reads f t
    refine ⟨d :: ds, rva_cons d1 e1, by simp [PyData.canLayAll0, d2, e2], ?_⟩
    simp only [PyData.depthAll]
    omega
theorem node_reads (LA : LeavesAt h₀) : ∀ (h : Nat) {v : Value} {c : Int}, NodeH h news v c → ∃ d, ReadsVia h₀ news v d ∧ d.canLay0 = true ∧ d.depth ≤ 4 + 4 * h
  | 0, v, c, hn => by
    obtain ⟨d, as, r, p1, p2⟩ := LA v c hn
    exact ⟨d, rv_base r, p1, by omega⟩
  | h + 1, v, c, hn => by
    rcases hn with hn | ⟨q, l, tk, vs, n, cs, rfl, h1, h2, h3, h4, h5⟩
    · obtain ⟨d, as, r, p1, p2⟩ := LA v c hn
      exact ⟨d, rv_base r, p1, by omega⟩
    · obtain ⟨ds, e1, e2, e3⟩ := all_reads (fun v c y => node_reads LA h y) h5
      refine ⟨.tuple [sD "list", .list ds], rv_tup h1 (rva_cons (rv_str _ _) (rva_cons (rv_lst h2 e1) rva_nil)), ?_, ?_⟩
      · have : PyData.strOk (Str.ofString "list") = true := by decide +kernel
        simp [PyData.canLay0, PyData.canLayAll0, e2, this]
      · simp only [depth_tuple, depth_list, PyData.depthAll, PyData.depth]
        omega
/-- one value's data, and how deep it is -/
structure Same (h₀ : Heap) (news : List (Addr × Obj)) (v v' : Value) (k : Nat) : Prop where
  ex : ∃ d, ReadsVia h₀ news v d ∧ ReadsVia h₀ news v' d ∧ d.canLay0 = true ∧ d.depth ≤ k
theorem both_lt {v v1 v2 : Value} {d : PyData} {k : Nat} (hv : ReadsVia h₀ news v d) (hc : d.canLay0 = true) (hk : d.depth ≤ k) (h1 : LtR news v v1) (h2 : LtR news v v2) : Same h₀ news v1 v2 (k + 2) := by
  have hs : PyData.strOk (Str.ofString "list") = true := by decide +kernel
  have wrapped : ∀ {v' : Value}, (∃ q l tk n, v' = .ref q ∧ (q, tup [.str (Str.ofString "list") tk, .ref l]) ∈ news ∧ (l, lst [v] n) ∈ news) → ReadsVia h₀ news v' (.tuple [sD "list", .list [d]]) := by
    rintro v' ⟨q, l, tk, n, rfl, a1, a2⟩
    exact rv_tup a1 (rva_cons (rv_str _ _) (rva_cons (rv_lst a2 (rva_cons hv rva_nil)) rva_nil))
  rcases h1 with ⟨w1, x1⟩ | ⟨w1, rfl⟩
  · rcases h2 with ⟨_, x2⟩ | ⟨w2, _⟩
    · refine ⟨_, wrapped x1, wrapped x2, by simp [PyData.canLay0, PyData.canLayAll0, hc, hs], ?_⟩
      simp only [PyData.depth, PyData.depthAll]
      omega
    · exact absurd w1 w2
  · rcases h2 with ⟨w2, _⟩ | ⟨_, rfl⟩
    · exact absurd w2 w1
    · exact ⟨d, hv, hv, hc, by omega⟩
theorem both_lim (AA : ArgsAt h₀) {r : Addr} {b : Bool} {c : Int} {v1 v2 : Value} (hr : RightR news r b) (h1 : LimR news r b c v1) (h2 : LimR news r b c v2) : Same h₀ news v1 v2 8 := by
  obtain ⟨d, hd, sd⟩ := right_reads AA hr
  obtain ⟨⟨_, a4⟩, ⟨_, a5⟩, _⟩ := AA
  have due : ∀ {v' : Value}, (∃ q l m t1 t2 t3 t4 n, v' = .ref q ∧ (q, tup [.str (Str.ofString "func") t1, .str (Str.ofString "split") t2, .ref l]) ∈ news ∧ (l, lst [.ref 584, .ref 585, .ref m] n) ∈ news ∧
      (m, tup [.str (Str.ofString "num") t3, .int (c + 1) t4]) ∈ news) → ReadsVia h₀ news v' (.tuple [sD "func", sD "split", .list [d584, d585, .tuple [sD "num", .int (c + 1)]]]) := by
    rintro v' ⟨q, l, m, t1, t2, t3, t4, n, rfl, m1, m2, m3⟩
    exact rv_tup m1 (rva_cons (rv_str _ _) (rva_cons (rv_str _ _) (rva_cons (rv_lst m2 (rva_cons (rv_base a4) (rva_cons (rv_base a5) (rva_cons (rv_tup m3 (rva_cons (rv_str _ _) (rva_cons (rv_int _ _) rva_nil))) rva_nil)))) rva_nil)))
  rcases h1 with ⟨w1, w1', x1⟩ | ⟨w1, rfl⟩
  · rcases h2 with ⟨_, _, x2⟩ | ⟨w2, _⟩
    · refine ⟨_, due x1, due x2, ?_, ?_⟩
      · have f : ∀ x : PyData, (PyData.tuple [sD "func", sD "split", .list [d584, d585, .tuple [sD "num", x]]]).canLay0 = ((PyData.tuple [sD "func", sD "split", .list [d584, d585, .tuple [sD "num", .int 0]]]).canLay0 && x.canLay0) := by
          intro x
          simp only [PyData.canLay0, PyData.canLayAll0, Bool.and_true, Bool.and_assoc]
        rw [f]
        have g : (PyData.tuple [sD "func", sD "split", .list [d584, d585, .tuple [sD "num", .int 0]]]).canLay0 = true := by decide +kernel
        rw [g]
        rfl
      · simp only [PyData.depth, PyData.depthAll]
        omega
    · exact absurd ⟨w1, w1'⟩ w2
  · rcases h2 with ⟨w2, w2', _⟩ | ⟨_, rfl⟩
    · exact absurd ⟨w2, w2'⟩ w1
    · exact ⟨d, hd, hd, sd.s6, sd.s4⟩
theorem same_tuple {t1 t2 : Addr} {x1 x2 y1 y2 : Value} {ta tb : Tok} {k : Nat} (hk : k ≤ 60) (m1 : (t1, tup [.str (Str.ofString "aassign") ta, x1, y1]) ∈ news) (m2 : (t2, tup [.str (Str.ofString "aassign") tb, x2, y2]) ∈ news)
    (hx : Same h₀ news x1 x2 k) (hy : Same h₀ news y1 y2 k) : ∃ d, ReadsVia h₀ news (.ref t1) d ∧ ReadsVia h₀ news (.ref t2) d ∧ SeqAt.shaped d = true := by
  obtain ⟨d, a1, a2, a3, a4⟩ := hx.ex
  obtain ⟨e, b1, b2, b3, b4⟩ := hy.ex
  refine ⟨.tuple [sD "aassign", d, e], rv_tup m1 (rva_cons (rv_str _ _) (rva_cons a1 (rva_cons b1 rva_nil))), rv_tup m2 (rva_cons (rv_str _ _) (rva_cons a2 (rva_cons b2 rva_nil))), ?_⟩
  have hs : PyData.strOk (Str.ofString "aassign") = true := by decide +kernel
  have h2 : PyData.depth (.tuple [sD "aassign", d, e]) ≤ 64 := by
    simp only [PyData.depth, PyData.depthAll]
    omega
  show (PyData.canLay0 (.tuple [sD "aassign", d, e]) && decide (PyData.depth (.tuple [sD "aassign", d, e]) ≤ 64)) = true
  rw [Bool.and_eq_true]
  exact ⟨by simp [PyData.canLay0, PyData.canLayAll0, a3, b3, hs], decide_eq_true h2⟩
theorem eq_same {prog : Program} {w : World} {A : Around} {E : Value → Shared → Prop} {s : Shared} {L : Addr} {m : Str → Option Value} {t1 t2 : Addr} {Q : Value → Shared → Prop} (F : Fr h₀ L s.heap m) (N : News h₀ L s.heap news)
    (hx : ∃ d, ReadsVia h₀ news (.ref t1) d ∧ ReadsVia h₀ news (.ref t2) d ∧ SeqAt.shaped d = true) (hu : A.units + 64 < cLine) (h : Q (.bool true) s) : wpAny (model prog w) A (compareOp .Eq (.ref t1) (.ref t2)) Q E s := by
  obtain ⟨d, r1, r2, sd⟩ := hx
  obtain ⟨_, q1⟩ := r1.at F N
  obtain ⟨_, q2⟩ := r2.at F N
  refine eq_dataH q1 q2 sd sd hu ?_
  rw [SeqAt.eqv_refl d (SeqAt.canLay_of_shaped sd)]
  exact h
end
end Mine
end
section
open PySem PySem.W PyProof.Rows PySem.Calls PySem.Spec PyProof.V
namespace Mine
local macro_rules | `(tactic| walk_at "padding") => `(tactic| skip)
local macro_rules | `(tactic| walk_at "padding") => `(tactic| skip)
local macro_rules | `(tactic| walk_at "padding") => `(tactic| skip)
local macro_rules | `(tactic| k_mem) => `(tactic| first | assumption | exact List.mem_cons_self | (refine List.mem_cons_of_mem _ ?_; k_mem))
local macro_rules | `(tactic| k_all) => `(tactic| with_reducible assumption)
local macro_rules | `(tactic| walk_at "call ref") => `(tactic| (k_here; (with_reducible show wpAny _ _ (call (Value.ref 594) _) _ _ _); k_dflt (refine' sip_call ?k1 ?k2 ?k3 ?k4 ?k5 ?k6 ?k7 ?k8 ?k9 ?k10 ?k11 ?k12 ?k13 ?k14 ?_; (case k1 => k_asm); (case k2 => k_asm); (case k3 => k_asm); (case k4 => k_asm); (case k5 => exact rfl); (case k6 => k_asm); (case k7 => k_updF); (case k8 => k_mem); (case k9 => k_ne); (case k10 => assumption); (case k11 => first | decide | with_reducible assumption | omega); (case k12 => first | decide | with_reducible assumption); (case k13 => decide); (case k14 => first | decide | ktr_room)); intro kk9 tk9 c9 ct9 h9 tt9 hk9 hm9 hc9 F9 N9; (try dsimp only); (try k_fold)))
local macro_rules | `(tactic| walk_at "call ref") => `(tactic| (k_here; (with_reducible show wpAny _ _ (call (Value.ref 601) _) _ _ _); refine stop_intro ?_))
local macro_rules | `(tactic| walk_at "call ref") => `(tactic| (k_here; (with_reducible show wpAny _ _ (call (Value.ref 608) _) _ _ _); refine stop_intro ?_))
local macro_rules | `(tactic| walk_at "call builtin:repr") => `(tactic| (k_here; refine stop_intro ?_))
/-- the end of a branch that binds one name -/
def JPost (h₀ : Heap) (L : Addr) (x : Str) (m : Str → Option Value) (P : Value → List (Addr × Obj) → Prop) (s : Shared) (f : Flow) (s₂ : Shared) : Prop :=
  f = .next ∧ ∃ v news h' tk' m', s₂ = { s with heap := h', toks := tk' } ∧ Fr h₀ L h' m' ∧ News h₀ L h' news ∧ P v news ∧ m' x = some v ∧ ∀ z, z ≠ x → m' z = m z
theorem join_name {prog : Program} {w : World} {A : Around} {E : Value → Shared → Prop} {s : Shared} {stmt : Stmt} {env : Env} {Q : Flow → Shared → Prop} {h₀ : Heap} {L : Addr} (x : Str) {m : Str → Option Value} (P : Value → List (Addr × Obj) → Prop)
    (_F : Fr h₀ L s.heap m) (step : wpAny (model prog w) A (exec stmt env) (JPost h₀ L x m P s) E s)
    (go : ∀ v news h' tk', P v news → Fr h₀ L h' (fun z => if z = x then some v else m z) → News h₀ L h' news → Q .next { s with heap := h', toks := tk' }) :
    wpAny (model prog w) A (exec stmt env) Q E s := by
  refine wpAny_mono step (fun f s₂ p => ?_) fun _ _ e => e
  obtain ⟨rfl, v, news, h', tk', m', rfl, F', N', p, e, he⟩ := p
  refine go v news h' tk' p ?_ N'
  have : m' = fun z => if z = x then some v else m z := by
    funext z
    by_cases h1 : z = x
    · subst h1; simp [e]
    · simp only [if_neg h1]; exact he z h1
  rwa [this] at F'
theorem tot_single (d : Int) : tot [d] = d := by
  unfold tot
  by_cases h : d = -1
  · subst h; rfl
  · rw [if_neg (by simp; exact fun e => h e.symm)]; simp
theorem Same.more {h₀ : Heap} {news news' : List (Addr × Obj)} {v v' : Value} {k k' : Nat} (h : Same h₀ news v v' k) (hk : k ≤ k') (hs : ∀ p ∈ news, p ∈ news') : Same h₀ news' v v' k' := by
  obtain ⟨d, a1, a2, a3, a4⟩ := h.ex
  exact ⟨d, a1.more hs, a2.more hs, a3, Nat.le_trans a4 hk⟩
theorem both_eq {h₀ : Heap} {nw : List (Addr × Obj)} {t1 t2 : Addr} {x1 x2 y1 y2 : Value} {ta tb : Tok} (hx : Same h₀ nw x1 x2 18) (hy : Same h₀ nw y1 y2 8) (hm : (t1, tup [.str (Str.ofString "aassign") ta, x1, y1]) ∈ nw) :
    ∃ d, ReadsVia h₀ ((t2, tup [.str (Str.ofString "aassign") tb, x2, y2]) :: nw) (.ref t1) d ∧ ReadsVia h₀ ((t2, tup [.str (Str.ofString "aassign") tb, x2, y2]) :: nw) (.ref t2) d ∧ SeqAt.shaped d = true :=
  same_tuple (k := 18) (by decide) (.tail _ hm) (.head _) (hx.more (Nat.le_refl _) fun p hp => .tail _ hp) (hy.more (by decide) fun p hp => .tail _ hp)
theorem len_lst {prog : Program} {w : World} {A : Around} {E : Value → Shared → Prop} {s : Shared} {h₀ : Heap} {L a : Addr} {news : List (Addr × Obj)} {vs : List Value} {n k : Nat} {Q : Value → Shared → Prop}
    (N : News h₀ L s.heap news) (hm : (a, lst vs n) ∈ news) (hk : vs.length = k) (hf : k ≤ 8) (h : Q (.int (k : Nat) (s.toks + 1)) { s with toks := s.toks + 1 + 1 }) : wpAny (model prog w) A (call (.builtin "len") [.ref a]) Q E s := by
  refine Calls.call_len_list (News.isList N hm) ?_ ?_
  · rw [List.size_toArray]; omega
  · rw [List.size_toArray, hk]; exact h
theorem list_one {α : Type} : ∀ {vs : List α}, vs.length = 1 → ∃ v0, vs = [v0]
  | [v], _ => ⟨v, rfl⟩
theorem All2.one {α β : Type} {R : α → β → Prop} {a : α} {bs : List β} (h : All2 R [a] bs) : ∃ b, bs = [b] ∧ R a b := by
  cases h with
  | cons h t => cases t; exact ⟨_, rfl, h⟩
theorem node_one {R : List (Addr × Obj)} {v : Value} {c : Int} (h1 : NodeH 2 R v c) : (∃ la, v = .ref la) ∧ (c < 0 → LeftOk R v c) := by
  rcases h1 with h1 | ⟨q, l, tk, vs, n, cs, rfl, a1, a2, a3, a4, a5⟩
  · refine ⟨?_, fun hd => .inl ⟨h1, hd⟩⟩
    rcases h1 with ⟨_, a, _, e⟩ | ⟨_, a, _, e⟩ <;> exact ⟨a, e⟩
  · exact ⟨⟨_, rfl⟩, fun hd => .inr ⟨q, l, tk, vs, n, cs, rfl, a1, a2, a3, a4, a5.imp fun a b y => NodeH.up 1 y⟩⟩
theorem ne_cast {n : Nat} (h : n ≠ 1) : ((n : Nat) : Int) ≠ 1 := by omega
structure MkNe : Prop
local macro_rules | `(tactic| walk_at "compareOp Lt int int") => `(tactic| (k_here; (rename MkNe => mkNe9); refine stop_intro ?_))
theorem one_or (n : Nat) : n = 1 ∨ n ≠ 1 := by omega
theorem first_item {prog : Program} {w : World} {A : Around} {E : Value → Shared → Prop} {s : Shared} {h₀ : Heap} {L a : Addr} {news : List (Addr × Obj)} {value slice : Expr} {v : Value} {u : Tok} {n : Nat} {Q : Value → Shared → Prop}
    (N : News h₀ L s.heap news) (hm : (a, lst [v] n) ∈ news) (h : Q v s)
    (hs : subscripted slice false (.ref a) (.int 0 u) = operate [.ref a, .int 0 u] (getItem (.ref a) (.int 0 u)) := by with_unfolding_all rfl) :
    wpAny (model prog w) A (subscriptTail value slice (.ref a) (.int 0 u)) Q E s :=
  item_listR (News.isList N hm) (by decide) (by decide) rfl h hs
structure MkOne : Prop
local macro_rules | `(tactic| walk_at "subscriptTail") => `(tactic| (k_here; (rename MkOne => mkOne9); k_dflt (refine' first_item ?k1 ?k2 ?_; (case k1 => k_asm); (case k2 => k_mem))))
structure MkIf : Prop
local macro_rules | `(tactic| walk_at "call builtin:len") => `(tactic| (k_here; (with_reducible show wpAny _ _ (call (Value.builtin "len") [Value.ref _]) _ _ _); k_dflt (refine' len_lst ?k1 ?k2 ?k3 ?k4 ?_; (case k1 => k_asm); (case k2 => k_mem); (case k3 => first | with_reducible assumption | exact rfl); (case k4 => first | with_reducible assumption | decide))))
local macro_rules | `(tactic| walk_at "compareOp Eq ref ref") => `(tactic| (k_here; refine stop_intro ?_))
local macro_rules | `(tactic| walk_at "call ref") => `(tactic| (k_here; (first | (with_reducible show wpAny _ _ (call (Value.ref 233) _) _ _ _) | (with_reducible show wpAny _ _ (call (Value.ref 252) _) _ _ _)); refine stop_intro ?_))
local macro_rules | `(tactic| walk_at "exec If") => `(tactic| (k_here; (rename MkIf => mk9); refine stop_intro ?_))
set_option maxRecDepth 100000 in
set_option maxHeartbeats 8000000 in
theorem t : PySem.Challenge.rw_qz0113_01.Holds := by
  w_top off
  refine hd.law fun said => ?_
  refine holds_open (XP := XL hd.view_1_40 _) hd.left (Hook.of _) (Hook.keeps _) (fun s e => xl_of s (Bool.and_eq_true_iff.mp e).1) XL.keeps (by rfl) (by rfl) (by rfl) (fun s e => recFacts_of (Bool.and_eq_true_iff.mp e).2) (by rfl) said (by decide +kernel) ⟨rfl, rfl, rfl, rfl, rfl, by decide +kernel⟩ hd.wit ?_
  clear said t
  k_go0
  (all_goals try k_fold)
  k_steps
  unfold Stop
  rename_i kk9 tk9 c9 ct9 h9 tt9 hk9 hm9 hc9 F9 N9
  have TS := fun w mean mg mb => targets_all (w := w) (mean := mean) (mg := mg) (mb := mb) 2
  unfold TargetsSat at TS
  k_dflt (refine' TS _ _ _ _ _ _ _ _ _ _ _ _ _ _ _ _ _ _ _ _ _ _ _ _ _ _ _ _ _ [] _ _ _ _ ?k1 ?k2 ?k3 ?k4 ?k5 ?k6 ?kI ?kL ?k7 ?k8 ?k9 ?k10 ?kN ?k11 ?k12 ?k13 ?_)
  case k1 => k_asm
  case k2 => k_asm
  case k3 => k_asm
  case k4 => k_asm
  case k5 => exact rfl
  case k6 => k_asm
  case kI => assumption
  case kL => omega
  case k7 => assumption
  case k8 => assumption
  case k9 => omega
  case k10 => decide
  case kN => k_ne
  case k11 => exact fun _ h => nomatch h
  case k12 => decide
  case k13 => decide
  clear TS
  intro t nl tt vs n ds tl c' ct' h' tk' hall hlen hc' hoff F N
  rw [List.append_nil] at N
  have hT := (hoff _ (.head _)).1
  have hNl := (hoff _ (.tail _ (.head _))).1
  have hTl : ∀ p ∈ tl, p.1 ≠ _ := fun p hp => (hoff p (.tail _ (.tail _ hp))).1
  replace hT : @Ne Nat t _ := hT
  replace hNl : @Ne Nat nl _ := hNl
  have hR0 : ∀ p ∈ (t, tup [.ref nl, .int (tot ds) tt]) :: (nl, lst vs n) :: tl, p.1 ≠ _ := fun p hp => (hoff p hp).1
  clear hoff
  try dsimp only
  k_steps
  unfold Stop
  k_dflt (refine' right_norm ?k1 ?k2 ?k3 ?k4 ?k5 ?k6 ?kI ?kL ?k7 ?k8 ?k9 ?k10 ?k11 ?_)
  case k1 => k_asm
  case k2 => k_asm
  case k3 => k_asm
  case k4 => k_asm
  case k5 => exact rfl
  case k6 => k_asm
  case kI => assumption
  case kL => omega
  case k7 => assumption
  case k8 => k_ne
  case k9 => exact hR0
  case k10 => decide
  case k11 => decide
  intro tr r b new c1 ct1 h1 tk1 hr hc1 hab F1 N1
  have hab' := hab.mem
  obtain ⟨R, hR⟩ : ∃ R, R = new ++ (t, tup [.ref nl, .int (tot ds) tt]) :: (nl, lst vs n) :: tl := ⟨_, rfl⟩
  rw [← hR] at N1
  have hRc : ∀ p ∈ R, p.1 ≠ _ := fun p hp => by
    rw [hR] at hp
    exact (List.mem_append.mp hp).elim (fun h => (hab' p (.tail _ h)).1) (hR0 p)
  have htr : @Ne Nat tr _ := (hab' _ (.head _)).1
  have hrR : RightR R r b := hr.mono fun p hp => by rw [hR]; exact List.mem_append.mpr (.inl hp)
  have hnlR : (nl, lst vs n) ∈ R := by rw [hR]; exact List.mem_append.mpr (.inr (.tail _ (.head _)))
  have hallR : All2 (NodeH 2 R) vs ds := hall.imp fun a b y => NodeH.mono 2 y fun p hp => by rw [hR]; exact List.mem_append.mpr (.inr (.tail _ (.tail _ hp)))
  clear hab hab' hR hR0 hr hall hT hNl hTl
  try dsimp only
  k_steps
  unfold Stop
  -- repr(right), the first time
  have AA := args_at (P := _) (by assumption)
  have LA := leaves_at (P := _) (by assumption)
  obtain ⟨dr, hdr, sdr⟩ := right_reads AA hrR
  (rename Fr _ _ _ _ => F2)
  (rename News _ _ _ _ => N2)
  refine repr_via (hdr.more fun p hp => .tail _ (.tail _ (.tail _ hp))) F2 N2 sdr.s1 sdr.s2 sdr.s3 (by rfl) ?hu ?_ sdr.s5
  case hu =>
    have := sdr.s4
    refine Nat.lt_of_le_of_lt (Nat.add_le_add_left (Nat.add_le_add_right this 1) _) ?_
    exact Nat.le_of_ble_eq_true rfl
  clear F2 N2
  intro h2 u2 tk2 F2 N2
  try dsimp only
  have mkIf : MkIf := ⟨⟩
  k_steps
  unfold Stop
  (rename MkIf => mkIf); clear mkIf
  refine join_name (Str.ofString "left") (fun v nw => (∃ la, v = .ref la) ∧ LeftOk nw v (tot ds) ∧ ∀ p ∈ R, p ∈ nw) (by k_asm) ?_ ?_
  · (rename Fr _ _ _ _ => F2)
    have keep : ∀ {D : Addr} {tk0 : Tok} {all : List (Addr × Obj)}, (D, tup [.str (Str.ofString "list") tk0, .ref nl]) ∈ all → (∀ p ∈ R, p ∈ all) → (∃ la, Value.ref D = .ref la) ∧ LeftOk all (.ref D) (tot ds) ∧ ∀ p ∈ R, p ∈ all :=
      fun hm hs => ⟨⟨_, rfl⟩, .inr ⟨_, nl, _, vs, n, ds, rfl, hm, hs _ hnlR, by omega, rfl, hallR.imp fun a b y => NodeH.mono 2 y hs⟩, hs⟩
    obtain hk1 | hk1 := one_or vs.length
    · obtain ⟨v0, rfl⟩ := list_one hk1
      obtain ⟨d0, rfl, h1⟩ := hallR.one
      obtain ⟨⟨a0, rfl⟩, hv0⟩ := node_one h1
      have ht := tot_single d0
      have hv1 : tot [d0] < 0 → LeftOk R (.ref a0) (tot [d0]) := fun h => by rw [ht] at h ⊢; exact hv0 h
      clear hv0 h1 hallR ht
      have mkOne : MkOne := ⟨⟩
      try dsimp only
      k_steps
      · exact ⟨rfl, _, _, _, _, _, rfl, (by assumption), (by assumption), ⟨⟨_, rfl⟩, (hv1 (by with_reducible assumption)).mono (by intro p hp; kcf_m), (by intro p hp; kcf_m)⟩, rfl, fun z hz => by simp only [if_neg hz]⟩
      · exact ⟨rfl, _, _, _, _, _, rfl, (by assumption), (by assumption), keep (by kcf_m) (by intro p hp; kcf_m), rfl, fun _ _ => rfl⟩
      · exact ⟨rfl, _, _, _, _, _, rfl, (by assumption), (by assumption), keep (by kcf_m) (by intro p hp; kcf_m), rfl, fun _ _ => rfl⟩
    · have hkI : ((vs.length : Nat) : Int) ≠ 1 := ne_cast hk1
      have hlen8 : vs.length ≤ 8 := Nat.le_trans hlen (by decide)
      have mkNe : MkNe := ⟨⟩
      try dsimp only
      k_steps
      · unfold Stop
        exact (hkI (by with_reducible assumption)).elim
      · exact ⟨rfl, _, _, _, _, _, rfl, (by assumption), (by assumption), keep (by kcf_m) (by intro p hp; kcf_m), rfl, fun _ _ => rfl⟩
  (rename Fr _ _ _ _ => Fo); (rename News _ _ _ _ => No); clear Fo No
  intro v nw h3 tk3 hP F3 N3
  obtain ⟨⟨la, rfl⟩, hL, hsub⟩ := hP
  have mkIf : MkIf := ⟨⟩
  try dsimp only
  k_steps
  unfold Stop
  (rename MkIf => mkIf); clear mkIf
  refine join_name (Str.ofString "due") (fun v nw' => LimR nw' r b (tot ds) v ∧ ∀ p ∈ nw, p ∈ nw') (by k_asm) ?_ ?_
  · cases hrR with
    | op h1 h2 =>
      have g1 := hsub _ h1
      have g2 := hsub _ h2
      try dsimp only
      k_steps
      · (rename Fr _ _ _ _ => kF); (rename News _ _ _ _ => kN)
        refine' ⟨rfl, _, _, _, _, _, rfl, kF, kN, ⟨.inl ⟨rfl, ?h0, _, _, _, _, _, _, _, _, rfl, ?m1, ?m2, ?m3⟩, ?ms⟩, rfl, ?z⟩
        case h0 => with_reducible assumption
        case m1 => kcf_m
        case m2 => kcf_m
        case m3 => kcf_m
        case ms => (intro p hp; kcf_m)
        case z => (intro z hz; simp only [if_neg hz])
      · exact ⟨rfl, _, _, _, _, _, rfl, (by assumption), (by assumption), ⟨.inr ⟨fun h => absurd h.2 (by with_reducible assumption), rfl⟩, fun p hp => hp⟩, rfl, fun _ _ => rfl⟩
    | three h1 h2 =>
      try dsimp only
      k_steps
      exact ⟨rfl, _, _, _, _, _, rfl, (by assumption), (by assumption), ⟨.inr ⟨fun h => Bool.noConfusion h.1, rfl⟩, fun p hp => hp⟩, rfl, fun _ _ => rfl⟩
    | join h1 h2 =>
      try dsimp only
      k_steps
      exact ⟨rfl, _, _, _, _, _, rfl, (by assumption), (by assumption), ⟨.inr ⟨fun h => Bool.noConfusion h.1, rfl⟩, fun p hp => hp⟩, rfl, fun _ _ => rfl⟩
    | list h1 h2 h3 h4 h5 =>
      try dsimp only
      k_steps
      exact ⟨rfl, _, _, _, _, _, rfl, (by assumption), (by assumption), ⟨.inr ⟨fun h => Bool.noConfusion h.1, rfl⟩, fun p hp => hp⟩, rfl, fun _ _ => rfl⟩
    | call h1 h2 h3 h4 =>
      try dsimp only
      k_steps
      exact ⟨rfl, _, _, _, _, _, rfl, (by assumption), (by assumption), ⟨.inr ⟨fun h => Bool.noConfusion h.1, rfl⟩, fun p hp => hp⟩, rfl, fun _ _ => rfl⟩
  (rename Fr _ _ _ _ => Fo); (rename News _ _ _ _ => No); clear Fo No
  intro v2 nw2 h5 tk5 hP F3 N3
  obtain ⟨hD, hsub2⟩ := hP
  try dsimp only
  k_steps
  unfold Stop
  have hR2 := (hrR.mono hsub).mono hsub2
  have hL2 := hL.mono hsub2
  have hcut : LimR nw2 r b (tot ds) v2 := hD
  k_dflt (refine' build_call (c := tot ds) (b := b) ?k1 ?k2 ?k3 ?k4 ?k5 ?k6 ?k7 ?k8 ?k9 ?k10 ?_)
  case k1 => k_asm
  case k2 => k_asm
  case k3 => k_asm
  case k4 => k_asm
  case k5 => exact rfl
  case k6 => k_asm
  case k7 => exact hL2.mono (by intro p hp; kcf_m)
  case k8 => exact hR2.mono (by intro p hp; kcf_m)
  case k9 => decide
  case k10 => decide
  intro ta va vb tta nw3 h6 tk6 hs3 hma hva hvb F6 N6
  try dsimp only
  k_steps
  unfold Stop
  have hL3 : LeftOk nw3 (.ref la) (tot ds) := hL2.mono (fun p hp => hs3 p (by kcf_m))
  have hR3 : RightR nw3 r b := hR2.mono (fun p hp => hs3 p (by kcf_m))
  have hD3 : LimR nw3 r b (tot ds) v2 := hcut.mono (fun p hp => hs3 p (by kcf_m))
  have hsub3 : ∀ p ∈ R, p ∈ nw3 := fun p hp => hs3 p (by have := hsub2 p (hsub p hp); kcf_m)
  clear hs3 hcut hD hL hL2 hR2
  k_dflt (refine' lt_call (c := tot ds) ?k1 ?k2 ?k3 ?k4 ?k5 ?k6 ?k7 ?k9 ?_)
  case k1 => k_asm
  case k2 => k_asm
  case k3 => k_asm
  case k4 => k_asm
  case k5 => exact rfl
  case k6 => k_asm
  case k7 => exact hL3
  case k9 => decide
  intro v4 nw4 h7 tk7 hs4 hlt F7 N7
  try dsimp only
  k_steps
  unfold Stop
  have hL4 : LtR nw4 (.ref la) va := hva.mono hs4
  have hR4 : RightR nw4 r b := hR3.mono hs4
  have hD4 : LimR nw4 r b (tot ds) v2 := hD3.mono hs4
  have hE4 : LimR nw4 r b (tot ds) vb := hvb.mono hs4
  have hma4 := hs4 _ hma
  have hsub4 : ∀ p ∈ R, p ∈ nw4 := fun p hp => hs4 p (hsub3 p hp)
  obtain ⟨dl, hdl, pl1, pl2⟩ := node_reads LA 3 (hL3.mono hs4).node
  have SL := both_lt hdl pl1 pl2 hL4 hlt
  have SR := both_lim AA hR4 hE4 hD4
  (rename Fr _ _ _ _ => kF); (rename News _ _ _ _ => kN)
  refine eq_same kF kN (both_eq SL SR hma4) (by exact Nat.le_of_ble_eq_true rfl) ?_
  try dsimp only
  k_steps
  unfold Stop
  (rename Fr _ _ _ _ => kF2); (rename News _ _ _ _ => kN2)
  refine repr_via (hdr.more fun p hp => .tail _ (hsub4 p hp)) kF2 kN2 sdr.s1 sdr.s2 sdr.s3 (by rfl) ?hu ?_ sdr.s5
  case hu =>
    have := sdr.s4
    refine Nat.lt_of_le_of_lt (Nat.add_le_add_left (Nat.add_le_add_right this 1) _) ?_
    exact Nat.le_of_ble_eq_true rfl
  clear kF2 kN2
  intro h8 u8 tk8 F8 N8
  try dsimp only
  k_steps
end Mine
end
theorem PySem.Challenge.cw_qz0113_01_holds : PySem.Challenge.rw_qz0113_01.Holds := by
  exact Mine.t
