import PyProof.Rows.All
import Wide.All
import OpenK.AllK
import Wide.FinOn
import Lean
import PySem.Challenge.RW_sq0050_01
open PySem PySem.W PyProof.Rows PySem.Spec PySem.Calls
set_option Elab.async false
set_option maxRecDepth 100000
set_option maxHeartbeats 8000000
set_option linter.all false
set_option compiler.extract_closed false
namespace Mine.hd
theorem tw10004797160117703195 : True := trivial
theorem tw10012880186880212623 : True := trivial
theorem tw10030107230732127627 : True := trivial
theorem tw100483095206116625 : True := trivial
theorem tw10111801491309104144 : True := trivial
theorem tw1011335219593555734 : True := trivial
theorem tw10117440562283002822 : True := trivial
theorem tw1013155817946168525 : True := trivial
theorem tw10170382586518783626 : True := trivial
theorem tw10216474801634566288 : True := trivial
theorem tw10246146449241189800 : True := trivial
theorem tw10258999931320997221 : True := trivial
theorem tw10292235466723388172 : True := trivial
theorem tw10403243965636340961 : True := trivial
theorem tw10404513684093684653 : True := trivial
theorem tw10424393626065333798 : True := trivial
theorem tw10458740792067480800 : True := trivial
theorem tw10491609206876299696 : True := trivial
theorem tw10507497572311344420 : True := trivial
theorem tw10525666975642140466 : True := trivial
theorem tw10543509907540572799 : True := trivial
theorem tw10583446816852156582 : True := trivial
theorem tw10603584201595350602 : True := trivial
theorem tw10614716105012338702 : True := trivial
theorem tw10691667921657928471 : True := trivial
theorem tw10727248033764811480 : True := trivial
theorem tw10743916045514856203 : True := trivial
theorem tw10752148897807903841 : True := trivial
theorem tw10781468475247234061 : True := trivial
theorem tw10792051664901133789 : True := trivial
theorem tw10806950440038215891 : True := trivial
theorem tw10844753989422098599 : True := trivial
theorem tw10847404155465417027 : True := trivial
theorem tw10860895700388868024 : True := trivial
theorem tw10879034167726328663 : True := trivial
theorem tw1088296927520436173 : True := trivial
theorem tw10905682514733158466 : True := trivial
theorem tw10919297434634762262 : True := trivial
theorem tw10949625832625181284 : True := trivial
theorem tw1097998534492414930 : True := trivial
theorem tw11011131195910976488 : True := trivial
theorem tw11032806212648032379 : True := trivial
theorem tw11034497122203965937 : True := trivial
theorem tw11054480109507316185 : True := trivial
theorem tw11128854368766332075 : True := trivial
theorem tw11162318198679636149 : True := trivial
theorem tw1118553966540926140 : True := trivial
theorem tw11210553801493137410 : True := trivial
theorem tw11213053971927718326 : True := trivial
theorem tw11232374478483605306 : True := trivial
theorem tw11249132867342737325 : True := trivial
theorem tw11251137523995926341 : True := trivial
theorem tw11256106856564762260 : True := trivial
theorem tw11319892378374348655 : True := trivial
theorem tw11375277706881905925 : True := trivial
theorem tw11389486352061984695 : True := trivial
theorem tw11402939732021071671 : True := trivial
theorem tw11465210709893060100 : True := trivial
theorem tw1147470481896660410 : True := trivial
theorem tw11513968764499736323 : True := trivial
theorem tw11551083187376567056 : True := trivial
theorem tw11631947586910100387 : True := trivial
theorem tw11632984921778587759 : True := trivial
theorem tw11652457597714270106 : True := trivial
theorem tw11660266114150955751 : True := trivial
theorem tw11713075325732132258 : True := trivial
theorem tw11754176132448286083 : True := trivial
theorem tw11778180911958503814 : True := trivial
theorem tw11801993109049149486 : True := trivial
theorem tw11893437276241958245 : True := trivial
theorem tw11912922877643110818 : True := trivial
theorem tw11917015161858427179 : True := trivial
theorem tw1194904439430580092 : True := trivial
theorem tw11953376511379268794 : True := trivial
theorem tw11968265576560266318 : True := trivial
theorem tw1197925565968671727 : True := trivial
theorem tw12050417470231563642 : True := trivial
theorem tw12070051907170230399 : True := trivial
theorem tw12070654863422294720 : True := trivial
theorem tw12112201142124510154 : True := trivial
theorem tw12127338746724423809 : True := trivial
theorem tw12173100003817136821 : True := trivial
theorem tw1222794163293265305 : True := trivial
theorem tw12239354291974867115 : True := trivial
theorem tw12268275109542032366 : True := trivial
theorem tw12350410155528471161 : True := trivial
theorem tw12393119488966705847 : True := trivial
theorem tw12394076208661396346 : True := trivial
theorem tw12399718760709695909 : True := trivial
theorem tw1241404454085649124 : True := trivial
theorem tw12414669353804360901 : True := trivial
theorem tw12459740579856956213 : True := trivial
theorem tw12487502673411948298 : True := trivial
theorem tw12575139184659369484 : True := trivial
theorem tw12588582704262371052 : True := trivial
theorem tw12591134339009171964 : True := trivial
theorem tw12611767792052310623 : True := trivial
theorem tw12614811148066621264 : True := trivial
theorem tw12629568148972539762 : True := trivial
theorem tw12744807935193187038 : True := trivial
theorem tw12767517992797551901 : True := trivial
theorem tw12769127236821124696 : True := trivial
theorem tw12832683148521936107 : True := trivial
theorem tw128412058910260475 : True := trivial
theorem tw12949589719889679912 : True := trivial
theorem tw1299046323782801668 : True := trivial
theorem tw12994019391074448376 : True := trivial
theorem tw13029831319620015485 : True := trivial
theorem tw13047593935725612058 : True := trivial
theorem tw13066319289922817542 : True := trivial
theorem tw13132618709999183898 : True := trivial
theorem tw13181700845877081190 : True := trivial
theorem tw13217225542625558698 : True := trivial
theorem tw13220430256171166289 : True := trivial
theorem tw13225837485096350037 : True := trivial
theorem tw13267510147771200024 : True := trivial
theorem tw13277076834127875243 : True := trivial
theorem tw13285133528070534704 : True := trivial
theorem tw1331086792558400476 : True := trivial
theorem tw13315533130655954831 : True := trivial
theorem tw13321331477185743149 : True := trivial
theorem tw13322179722446271537 : True := trivial
theorem tw13330244855972007585 : True := trivial
theorem tw13362437707155312330 : True := trivial
theorem tw13363553139645760527 : True := trivial
theorem tw13368278939475635651 : True := trivial
theorem tw13372043803930879067 : True := trivial
theorem tw13409441903868389331 : True := trivial
theorem tw13431754692932380062 : True := trivial
theorem tw13466754112058979494 : True := trivial
theorem tw13483081372092288885 : True := trivial
theorem tw13518370688599389936 : True := trivial
theorem tw13566260322249332789 : True := trivial
theorem tw13590489896138608164 : True := trivial
theorem tw13599939671180243173 : True := trivial
theorem tw13609717118414637909 : True := trivial
theorem tw13638418597567726942 : True := trivial
theorem tw13642289790063256904 : True := trivial
theorem tw13770079208771991547 : True := trivial
theorem tw13790719812936386609 : True := trivial
theorem tw13828106393651249627 : True := trivial
theorem tw13855946660403688772 : True := trivial
theorem tw13866372431405929976 : True := trivial
theorem tw13903934854276604550 : True := trivial
theorem tw13919464512627920130 : True := trivial
theorem tw13929354066492186541 : True := trivial
theorem tw13931416462566266981 : True := trivial
theorem tw14029546391885035639 : True := trivial
theorem tw1409312971732116557 : True := trivial
theorem tw14176624398918483544 : True := trivial
theorem tw1425423193147277237 : True := trivial
theorem tw14294344414604881677 : True := trivial
theorem tw14353793391729792155 : True := trivial
theorem tw14400467628812073631 : True := trivial
theorem tw14478148883734587675 : True := trivial
theorem tw1452849714261714991 : True := trivial
theorem tw14553816603554493358 : True := trivial
theorem tw14560493823538711346 : True := trivial
theorem tw14598272352848978880 : True := trivial
theorem tw14620637471214046174 : True := trivial
theorem tw14685462170515437407 : True := trivial
theorem tw14705683404202351889 : True := trivial
theorem tw14745743045033390146 : True := trivial
theorem tw14754404106442844205 : True := trivial
theorem tw14768889098011018680 : True := trivial
theorem tw14892549342360969540 : True := trivial
theorem tw14896477498954680388 : True := trivial
theorem tw14906377314874228009 : True := trivial
theorem tw14955159897011116063 : True := trivial
theorem tw14980023328507725902 : True := trivial
theorem tw15042006015671813226 : True := trivial
theorem tw15048261121198461528 : True := trivial
theorem tw1506431575118746342 : True := trivial
theorem tw15083628210047938546 : True := trivial
theorem tw15089522573102190283 : True := trivial
theorem tw15103106377680225435 : True := trivial
theorem tw15166520500009309586 : True := trivial
theorem tw15207398651663016943 : True := trivial
theorem tw15213948185873263833 : True := trivial
theorem tw15219587754997711946 : True := trivial
theorem tw15220180469806662145 : True := trivial
theorem tw15259186466874283072 : True := trivial
theorem tw15344866539931968096 : True := trivial
theorem tw15367242080415987702 : True := trivial
theorem tw15368132723985388332 : True := trivial
theorem tw15416985209724490359 : True := trivial
theorem tw15427206886491885616 : True := trivial
theorem tw15463257786427224491 : True := trivial
theorem tw15508949281206285077 : True := trivial
theorem tw15527848837575444561 : True := trivial
theorem tw15529170255622000948 : True := trivial
theorem tw15578025631644234493 : True := trivial
theorem tw15595854959937240912 : True := trivial
theorem tw15610959940260225430 : True := trivial
theorem tw15615537253650120727 : True := trivial
theorem tw15616948245753086127 : True := trivial
theorem tw1563692795949630186 : True := trivial
theorem tw15643275761693703936 : True := trivial
theorem tw15657480282248853141 : True := trivial
theorem tw15673258824015622330 : True := trivial
theorem tw15683763237869141255 : True := trivial
theorem tw15759970867653108152 : True := trivial
theorem tw15790720579355451973 : True := trivial
theorem tw1580110805410547442 : True := trivial
theorem tw15813434630575017362 : True := trivial
theorem tw15852365999677673905 : True := trivial
theorem tw1588505670450824345 : True := trivial
theorem tw1589133516308662214 : True := trivial
theorem tw15910714762333108613 : True := trivial
theorem tw15948780112781908787 : True := trivial
theorem tw15992342658441690333 : True := trivial
theorem tw1600037746751723098 : True := trivial
theorem tw16006246977917349235 : True := trivial
theorem tw16007149819294483003 : True := trivial
theorem tw16011055738799735888 : True := trivial
theorem tw16029623286316568529 : True := trivial
theorem tw16037735763661986305 : True := trivial
theorem tw16053994301053490033 : True := trivial
theorem tw16056359734778111409 : True := trivial
theorem tw16064382804478563927 : True := trivial
theorem tw16091413853298234908 : True := trivial
theorem tw1610171440888473627 : True := trivial
theorem tw16124447700955497774 : True := trivial
theorem tw16154546982801380032 : True := trivial
theorem tw16155205043701107222 : True := trivial
theorem tw16157073509204512506 : True := trivial
theorem tw16171809288044610508 : True := trivial
theorem tw16194383521188589630 : True := trivial
theorem tw16240987189780228909 : True := trivial
theorem tw16257038226119295666 : True := trivial
theorem tw16259696140248634718 : True := trivial
theorem tw162610821266807592 : True := trivial
theorem tw16299908979028503884 : True := trivial
theorem tw16302227732802510677 : True := trivial
theorem tw16332348944364537037 : True := trivial
theorem tw16345102440705955213 : True := trivial
theorem tw16412773359747925120 : True := trivial
theorem tw16432713993328977331 : True := trivial
theorem tw16456969618363192440 : True := trivial
theorem tw16473244170626142550 : True := trivial
theorem tw16477043939570097188 : True := trivial
theorem tw16502264421070913907 : True := trivial
theorem tw16634568088961857937 : True := trivial
theorem tw16640546478005224243 : True := trivial
theorem tw16649331688326792143 : True := trivial
theorem tw1666387254794493845 : True := trivial
theorem tw16694946328126371552 : True := trivial
theorem tw16713699803418581334 : True := trivial
theorem tw16722109127936396110 : True := trivial
theorem tw16772102934027710169 : True := trivial
theorem tw16853341256802265648 : True := trivial
theorem tw16858285156579221889 : True := trivial
theorem tw16868993833207775613 : True := trivial
theorem tw16904818350239718627 : True := trivial
theorem tw16919406825032445293 : True := trivial
theorem tw16920754564084929960 : True := trivial
theorem tw16945582573551092051 : True := trivial
theorem tw16970440968685349367 : True := trivial
theorem tw17001982702790524580 : True := trivial
theorem tw17054507655720011243 : True := trivial
theorem tw17062030032774818151 : True := trivial
theorem tw17087091549796120035 : True := trivial
theorem tw1712922718373300912 : True := trivial
theorem tw17130151131035750659 : True := trivial
theorem tw17234923516513369237 : True := trivial
theorem tw17252143746492648416 : True := trivial
theorem tw17311223219408574766 : True := trivial
theorem tw17330945745186091897 : True := trivial
theorem tw17387473266821786944 : True := trivial
theorem tw17447410573909459338 : True := trivial
theorem tw17454471701868102899 : True := trivial
theorem tw17491280204586788870 : True := trivial
theorem tw17542962492245011380 : True := trivial
theorem tw17562767543260142214 : True := trivial
theorem tw17574625026820762457 : True := trivial
theorem tw17579296083999419209 : True := trivial
theorem tw17588044629489971554 : True := trivial
theorem tw1760603350576429475 : True := trivial
theorem tw17672654358674132775 : True := trivial
theorem tw17673860158736603733 : True := trivial
theorem tw17681399029576232318 : True := trivial
theorem tw17696971302532935780 : True := trivial
theorem tw17711083657039698284 : True := trivial
theorem tw17714235663813219645 : True := trivial
theorem tw17739348878880393726 : True := trivial
theorem tw1781861727890032366 : True := trivial
theorem tw17821661813734597965 : True := trivial
theorem tw17843490464661113860 : True := trivial
theorem tw17893044597097874663 : True := trivial
theorem tw17895171251205151618 : True := trivial
theorem tw17903497710992402801 : True := trivial
theorem tw17919194246423945575 : True := trivial
theorem tw17925215291927510665 : True := trivial
theorem tw17948085552500728524 : True := trivial
theorem tw17950676927832955104 : True := trivial
theorem tw17975533764899295144 : True := trivial
theorem tw17986969038992634876 : True := trivial
theorem tw18093812233618175256 : True := trivial
theorem tw18103342009636024947 : True := trivial
theorem tw18103420901670897651 : True := trivial
theorem tw18166333605607142505 : True := trivial
theorem tw18185175575083235020 : True := trivial
theorem tw18241275227582772068 : True := trivial
theorem tw18264374347568628810 : True := trivial
theorem tw18293732401869909652 : True := trivial
theorem tw18293851220164018083 : True := trivial
theorem tw18322514126500204803 : True := trivial
theorem tw18343703819029505601 : True := trivial
theorem tw1836080755315867724 : True := trivial
theorem tw18397336696600119226 : True := trivial
theorem tw1848646778235469078 : True := trivial
theorem tw185848376630758926 : True := trivial
theorem tw1865391376527767206 : True := trivial
theorem tw1882180444382439491 : True := trivial
theorem tw189712035060473897 : True := trivial
theorem tw1997569388931296116 : True := trivial
theorem tw2000490053193787569 : True := trivial
theorem tw2051048951616859547 : True := trivial
theorem tw2068664650715991707 : True := trivial
theorem tw2101469004524951375 : True := trivial
theorem tw212345690472687942 : True := trivial
theorem tw2134215046882385847 : True := trivial
theorem tw2167537188350426706 : True := trivial
theorem tw2195365466389143174 : True := trivial
theorem tw2216850387143573719 : True := trivial
theorem tw226724450230711188 : True := trivial
theorem tw2274498078352570744 : True := trivial
theorem tw2295870552580634182 : True := trivial
theorem tw2304311442786299043 : True := trivial
theorem tw2323474266016966308 : True := trivial
theorem tw2327210489368252092 : True := trivial
theorem tw2329189449893159454 : True := trivial
theorem tw2386827423013361158 : True := trivial
theorem tw2391449824757734642 : True := trivial
theorem tw2442259710966052079 : True := trivial
theorem tw2448417245163862455 : True := trivial
theorem tw2457190517430149469 : True := trivial
theorem tw2480057099694739299 : True := trivial
theorem tw250903467453971090 : True := trivial
theorem tw2603259988358896889 : True := trivial
theorem tw2608437505485318709 : True := trivial
theorem tw26425463804135960 : True := trivial
theorem tw2674002104343415650 : True := trivial
theorem tw2701402951725559080 : True := trivial
theorem tw2708950531961675432 : True := trivial
theorem tw2788664435532181463 : True := trivial
theorem tw280609765759037681 : True := trivial
theorem tw2845679848157327705 : True := trivial
theorem tw2855845756224970109 : True := trivial
theorem tw2867327485932766208 : True := trivial
theorem tw2887051446865420828 : True := trivial
theorem tw2930668341846507884 : True := trivial
theorem tw3008623586974134963 : True := trivial
theorem tw307737655149646647 : True := trivial
theorem tw3085183777334472315 : True := trivial
theorem tw3109861748172591687 : True := trivial
theorem tw3182187488490625086 : True := trivial
theorem tw3229955645248102723 : True := trivial
theorem tw3350844169311001129 : True := trivial
theorem tw3381375190539634487 : True := trivial
theorem tw3404104791013757517 : True := trivial
theorem tw3434918251397683217 : True := trivial
theorem tw3451239065008710300 : True := trivial
theorem tw3452082135128663414 : True := trivial
theorem tw3571134770919094901 : True := trivial
theorem tw3646829019195819677 : True := trivial
theorem tw3673020696563887462 : True := trivial
theorem tw3677445259266111403 : True := trivial
theorem tw3694398316872202419 : True := trivial
theorem tw3701997929742219716 : True := trivial
theorem tw3704167492566942397 : True := trivial
theorem tw3759623122121258479 : True := trivial
theorem tw3789350110615891812 : True := trivial
theorem tw3795277891434052102 : True := trivial
theorem tw3828038474966422129 : True := trivial
theorem tw3908008828416456254 : True := trivial
theorem tw3915529967508079626 : True := trivial
theorem tw3919010098100093602 : True := trivial
theorem tw3941438180925939637 : True := trivial
theorem tw395138700845864316 : True := trivial
theorem tw3953601041324332601 : True := trivial
theorem tw4014540891139286612 : True := trivial
theorem tw4065347644161347641 : True := trivial
theorem tw4068527845204499245 : True := trivial
theorem tw4086058157674990017 : True := trivial
theorem tw4111692666942324129 : True := trivial
theorem tw4115565904173853331 : True := trivial
theorem tw4136554803537287180 : True := trivial
theorem tw4138081844389336918 : True := trivial
theorem tw4182648748547736412 : True := trivial
theorem tw4225703048834024713 : True := trivial
theorem tw4272726840584523970 : True := trivial
theorem tw4282304852377368616 : True := trivial
theorem tw4297731678662094536 : True := trivial
theorem tw4315991029959535628 : True := trivial
theorem tw432457690288141553 : True := trivial
theorem tw4360684699965382250 : True := trivial
theorem tw4363365295628954845 : True := trivial
theorem tw4367231431732253908 : True := trivial
theorem tw4377701919642642989 : True := trivial
theorem tw4402725079659364252 : True := trivial
theorem tw442638132926106271 : True := trivial
theorem tw4449123307109862055 : True := trivial
theorem tw4478166936697009375 : True := trivial
theorem tw4478177076189095293 : True := trivial
theorem tw4494801613693538912 : True := trivial
theorem tw4511701632830243264 : True := trivial
theorem tw4523669819894539328 : True := trivial
theorem tw461538923250603899 : True := trivial
theorem tw4623786553483054578 : True := trivial
theorem tw4642405928176397000 : True := trivial
theorem tw4643362625855044894 : True := trivial
theorem tw464777395874653626 : True := trivial
theorem tw4654797750381630734 : True := trivial
theorem tw4702841417184801058 : True := trivial
theorem tw4788038989552484473 : True := trivial
theorem tw4832075414478813256 : True := trivial
theorem tw4851647983119433812 : True := trivial
theorem tw4870687313549177768 : True := trivial
theorem tw4971549296188076032 : True := trivial
theorem tw4990156530697904881 : True := trivial
theorem tw4993660671451451078 : True := trivial
theorem tw5009564483982726761 : True := trivial
theorem tw5036846961687405229 : True := trivial
theorem tw5054737718236178183 : True := trivial
theorem tw5130813555471234732 : True := trivial
theorem tw5148922909946612681 : True := trivial
theorem tw515116654868589033 : True := trivial
theorem tw5167245352685981253 : True := trivial
theorem tw5174551420813472067 : True := trivial
theorem tw5190246844813560578 : True := trivial
theorem tw5238241317806426387 : True := trivial
theorem tw5245234834050458271 : True := trivial
theorem tw5247051413645994129 : True := trivial
theorem tw526207354791536317 : True := trivial
theorem tw5278057926702712004 : True := trivial
theorem tw5283464899586487735 : True := trivial
theorem tw5292301768408028288 : True := trivial
theorem tw5318216170032084099 : True := trivial
theorem tw5343241284826551009 : True := trivial
theorem tw5363564295841288755 : True := trivial
theorem tw5366084841770067474 : True := trivial
theorem tw5373601922739893978 : True := trivial
theorem tw5388632664720090651 : True := trivial
theorem tw541196102884509978 : True := trivial
theorem tw5412792607806067344 : True := trivial
theorem tw5416991563250132298 : True := trivial
theorem tw5480042469492414594 : True := trivial
theorem tw5505005885091257285 : True := trivial
theorem tw5505332120971382143 : True := trivial
theorem tw5549315172176941698 : True := trivial
theorem tw5553992367299722356 : True := trivial
theorem tw5562173858411828344 : True := trivial
theorem tw5592360268479517082 : True := trivial
theorem tw5608270528595127837 : True := trivial
theorem tw5622408433266565701 : True := trivial
theorem tw5629675986466331604 : True := trivial
theorem tw5635641802508607975 : True := trivial
theorem tw5657824000916062451 : True := trivial
theorem tw5732804406350252772 : True := trivial
theorem tw5781342201191254626 : True := trivial
theorem tw5814283452226095208 : True := trivial
theorem tw5858630264745516266 : True := trivial
theorem tw5902613922787404954 : True := trivial
theorem tw5961118342813265553 : True := trivial
theorem tw5976792059365374437 : True := trivial
theorem tw5978321128707920903 : True := trivial
theorem tw5987830557187376847 : True := trivial
theorem tw6038821095411175016 : True := trivial
theorem tw6046454685291232161 : True := trivial
theorem tw6060742912462422084 : True := trivial
theorem tw6123773746684550334 : True := trivial
theorem tw6136932545381038964 : True := trivial
theorem tw6140570298594658328 : True := trivial
theorem tw6184208073178115725 : True := trivial
theorem tw6184460063843016694 : True := trivial
theorem tw6196171512934965099 : True := trivial
theorem tw6264232113106981867 : True := trivial
theorem tw6276725880618359904 : True := trivial
theorem tw6293948785866598258 : True := trivial
theorem tw6320253292602491972 : True := trivial
theorem tw6394381022753523788 : True := trivial
theorem tw6407587892757256292 : True := trivial
theorem tw6411954120941647267 : True := trivial
theorem tw6423634429210846174 : True := trivial
theorem tw6442067068224118133 : True := trivial
theorem tw6482722132109649516 : True := trivial
theorem tw6545403380812914513 : True := trivial
theorem tw6547078798241139092 : True := trivial
theorem tw6555240042291301478 : True := trivial
theorem tw6578402527460240241 : True := trivial
theorem tw6598312636042714100 : True := trivial
theorem tw6627881031435992008 : True := trivial
theorem tw663384727985864361 : True := trivial
theorem tw6683769817339685419 : True := trivial
theorem tw6694175594444238480 : True := trivial
theorem tw6759412095888398321 : True := trivial
theorem tw6761669909254768831 : True := trivial
theorem tw6767318904944593275 : True := trivial
theorem tw6804821044290156842 : True := trivial
theorem tw6818987989461384207 : True := trivial
theorem tw6819123309680001836 : True := trivial
theorem tw6820862383352777685 : True := trivial
theorem tw6830512106363814048 : True := trivial
theorem tw6868836192036940282 : True := trivial
theorem tw6882427118574961969 : True := trivial
theorem tw6906073325868019850 : True := trivial
theorem tw6931407450589930559 : True := trivial
theorem tw6965799899956892507 : True := trivial
theorem tw6982297934935202809 : True := trivial
theorem tw6998783941825042932 : True := trivial
theorem tw701787995468756871 : True := trivial
theorem tw7023034057667863975 : True := trivial
theorem tw7023726343779634624 : True := trivial
theorem tw7028611270464810887 : True := trivial
theorem tw7082855905992002993 : True := trivial
theorem tw7085514621470718492 : True := trivial
theorem tw7120233287515763914 : True := trivial
theorem tw7152984921513172624 : True := trivial
theorem tw7153062008950511462 : True := trivial
theorem tw7270182246851987180 : True := trivial
theorem tw728884934406724761 : True := trivial
theorem tw7289634563603522867 : True := trivial
theorem tw7292484366425897655 : True := trivial
theorem tw7296583596125217682 : True := trivial
theorem tw7317836474542784337 : True := trivial
theorem tw732345407407602841 : True := trivial
theorem tw7355570028127101125 : True := trivial
theorem tw7366208706002141716 : True := trivial
theorem tw7369741819223213686 : True := trivial
theorem tw7379015992945566340 : True := trivial
theorem tw7382370116671421104 : True := trivial
theorem tw7445831232043701609 : True := trivial
theorem tw7494724483528729301 : True := trivial
theorem tw7510230149288206974 : True := trivial
theorem tw7519716089354478335 : True := trivial
theorem tw7523672394736509286 : True := trivial
theorem tw7525542149764818722 : True := trivial
theorem tw7526368328331116154 : True := trivial
theorem tw7534799579077118603 : True := trivial
theorem tw7540655947842036084 : True := trivial
theorem tw7540741092611519060 : True := trivial
theorem tw757023831726929577 : True := trivial
theorem tw7578210074245671484 : True := trivial
theorem tw758273949599710562 : True := trivial
theorem tw7598622570094877466 : True := trivial
theorem tw7610815399733428385 : True := trivial
theorem tw7628703163842673926 : True := trivial
theorem tw7654286748164834634 : True := trivial
theorem tw7676003278276379012 : True := trivial
theorem tw7698358502638924378 : True := trivial
theorem tw7721951785955056133 : True := trivial
theorem tw7746578258024575070 : True := trivial
theorem tw7752767780024739350 : True := trivial
theorem tw7754304195085646258 : True := trivial
theorem tw7759468741731315421 : True := trivial
theorem tw7763873220885509757 : True := trivial
theorem tw7793673504863384051 : True := trivial
theorem tw7854228177987924090 : True := trivial
theorem tw7880807054014371918 : True := trivial
theorem tw7891253978561527248 : True := trivial
theorem tw7914949630228597729 : True := trivial
theorem tw8015326511298524721 : True := trivial
theorem tw8047900516022102942 : True := trivial
theorem tw8068729725432388964 : True := trivial
theorem tw8081886968326746073 : True := trivial
theorem tw8096613928993691855 : True := trivial
theorem tw8112040973832200146 : True := trivial
theorem tw8117029840178788049 : True := trivial
theorem tw8134915037123179040 : True := trivial
theorem tw8226494294326810461 : True := trivial
theorem tw8228950375871286339 : True := trivial
theorem tw8242931771332617035 : True := trivial
theorem tw8269573656231971908 : True := trivial
theorem tw8273930003744585626 : True := trivial
theorem tw8343274005884668182 : True := trivial
theorem tw8351282476255451920 : True := trivial
theorem tw8356816923877370021 : True := trivial
theorem tw8381844023166312768 : True := trivial
theorem tw8457440626546761165 : True := trivial
theorem tw8458067239894703972 : True := trivial
theorem tw8493152586797012548 : True := trivial
theorem tw8516288146210602744 : True := trivial
theorem tw8538877666451538035 : True := trivial
theorem tw8545014587354053640 : True := trivial
theorem tw8587404781116728655 : True := trivial
theorem tw8609351116199087170 : True := trivial
theorem tw8652628183442184457 : True := trivial
theorem tw8664936974563722654 : True := trivial
theorem tw8671608845466749128 : True := trivial
theorem tw8684328023851190084 : True := trivial
theorem tw8716120427605611371 : True := trivial
theorem tw8727321023445011275 : True := trivial
theorem tw8770205317985620760 : True := trivial
theorem tw8801323125487838256 : True := trivial
theorem tw881544763273948857 : True := trivial
theorem tw8879563391730754479 : True := trivial
theorem tw8934143017859847078 : True := trivial
theorem tw8965841893048198262 : True := trivial
theorem tw8977307856219701671 : True := trivial
theorem tw8990313861142287110 : True := trivial
theorem tw9131607905817354932 : True := trivial
theorem tw9141302689577602353 : True := trivial
theorem tw9153386212771759811 : True := trivial
theorem tw9170477692918782315 : True := trivial
theorem tw9184186324627900627 : True := trivial
theorem tw9184937214172932282 : True := trivial
theorem tw920214292312260371 : True := trivial
theorem tw9228397985900620932 : True := trivial
theorem tw9244321171653502345 : True := trivial
theorem tw9271970288684553227 : True := trivial
theorem tw9277588360372424766 : True := trivial
theorem tw9345676750909349944 : True := trivial
theorem tw9345929723534960622 : True := trivial
theorem tw9386895884608548742 : True := trivial
theorem tw9398405308114057262 : True := trivial
theorem tw9406673726873002282 : True := trivial
theorem tw9421340871869096474 : True := trivial
theorem tw9427301549700849589 : True := trivial
theorem tw9496365245306024149 : True := trivial
theorem tw9499510787657705874 : True := trivial
theorem tw9533747618267967006 : True := trivial
theorem tw9555612238305686254 : True := trivial
theorem tw9557236495431379559 : True := trivial
theorem tw9566141503761928105 : True := trivial
theorem tw961146359098324282 : True := trivial
theorem tw9617658007855726926 : True := trivial
theorem tw9657781627882305391 : True := trivial
theorem tw9673543361469618366 : True := trivial
theorem tw9702936160620672325 : True := trivial
theorem tw9719896912496429819 : True := trivial
theorem tw9731375825926819010 : True := trivial
theorem tw9741134391959003819 : True := trivial
theorem tw9748044761591592747 : True := trivial
theorem tw9763420282994701918 : True := trivial
theorem tw9783614193127449063 : True := trivial
theorem tw978945382295711627 : True := trivial
theorem tw9908193460736022307 : True := trivial
theorem tw991583007596301734 : True := trivial
theorem tw9960721518486171458 : True := trivial
theorem tw9983995961361265002 : True := trivial
end Mine.hd
section
set_option Elab.async true
set_option hygiene false in
local macro_rules
  | `(tactic| refine $f:ident $args*) => do
    unless f.getId.eraseMacroScopes.getString!.startsWith "holds_open" do Lean.Macro.throwUnsupported
    let some l := args.back? | Lean.Macro.throwUnsupported
    match l with
    | `(?$h:ident) =>
      if h.getId.eraseMacroScopes != `hc then Lean.Macro.throwUnsupported
      let as := args.pop
      `(tactic| refine $f $as* walk)
    | _ => Lean.Macro.throwUnsupported
theorem Mine.hd : True := by
  let rec top : _ := (fun (walk : _) => (by w_on; o_law; k_head; (case hw => w_witness2) : PySem.Challenge.rw_sq0050_01.Holds))
  trivial
end
set_option Elab.async false
/-! Base -/
namespace Mine


noncomputable abbrev Up (h h' : Heap) : Prop := ∀ b o, h.get? b = some o → h'.get? b = some o

structure Rm (n : Nat) (A : Around) : Prop where
  hd : A.handled = none
  dp : A.depth + 2 * n < recursionLimit
  un : A.units + 8 * n < cLine
theorem Rm.lt {n : Nat} {A : Around} (R : Rm n A) : A.depth < recursionLimit := by have := R.dp; omega
theorem Rm.ult {n : Nat} {A : Around} (R : Rm n A) : A.units < cLine := by have := R.un; omega
theorem Rm.le {n k : Nat} {A : Around} (R : Rm n A) (h : k ≤ n) : Rm k A := ⟨R.hd, by have := R.dp; omega, by have := R.un; omega⟩
theorem Rm.deeper {n : Nat} {A : Around} (R : Rm (n + 1) A) (env : Env) : Rm n (A.deeper env) :=
  ⟨R.hd, by have := R.dp; show A.depth + 1 + 2 * n < _; omega, by have := R.un; show A.units + 3 + 8 * n < _; omega⟩
theorem Rm.in1 {n : Nat} {A : Around} (R : Rm (n + 1) A) : Rm n A.in1 :=
  ⟨R.hd, by have := R.dp; show A.depth + 2 * n < _; omega, by have := R.un; show A.units + 1 + 8 * n < _; omega⟩

structure Gd (w : World) (p : Program) (loose : List Str) (mg mb : Str → Option Value) (h : Heap) : Prop where
  x : (Mine.hd.heap_1_39 w.params).In h
  t : TopRead p loose mg mb h

/-- the locals: what was stored, newest first, over a map that is known in part -/
noncomputable def lo (l : List (Str × Value)) (m : Str → Option Value) : Str → Option Value := fun y => (l.lookup y).or (m y)
theorem lo_cons (x : Str) (v : Value) (l : List (Str × Value)) (m : Str → Option Value) : (fun y => if y = x then some v else lo l m y) = lo ((x, v) :: l) m := by
  funext y
  unfold lo
  rw [List.lookup_cons]
  by_cases h : y = x
  · subst h; simp
  · have : (y == x) = false := beq_eq_false_iff_ne.mpr h
    rw [if_neg h, this]
theorem lo_nil (l : List (Str × Value)) : (fun y => l.lookup y) = lo l (fun _ => none) := by
  funext y; unfold lo; cases l.lookup y <;> rfl

theorem Fr.up {g h h' : Heap} {L : Addr} {m : Str → Option Value} (F : Fr g L h m) (u : Up h h') : Fr g L h' m := Fr.grownK F u
theorem News.up {g h h' : Heap} {L : Addr} {l : List (Addr × Obj)} (N : News g L h l) (u : Up h h') : News g L h' l := News.grown N u

noncomputable def RetQ (Q : Value → Shared → Prop) : Flow → Shared → Prop := fun f s => match f with | .ret v => Q v s | _ => Q .none s

/-- a bool that decides between two ways -/
noncomputable def Br (b : Bool) (X Y : Prop) : Prop := (b = true → X) ∧ (b = false → Y)
theorem br_tt {X Y : Prop} (h : X) : Br true X Y := ⟨fun _ => h, fun e => nomatch e⟩
theorem br_ff {X Y : Prop} (h : Y) : Br false X Y := ⟨fun e => (nomatch e), fun _ => h⟩
theorem br_pos {b : Bool} {X Y : Prop} (e : b = true) (h : X) : Br b X Y := by subst e; exact br_tt h
theorem br_neg {b : Bool} {X Y : Prop} (e : b = false) (h : Y) : Br b X Y := by subst e; exact br_ff h
theorem br_dec {c : Prop} [Decidable c] {X Y : Prop} (h1 : c → X) (h2 : ¬ c → Y) : Br (decide c) X Y := ⟨fun e => h1 (of_decide_eq_true e), fun e => h2 (of_decide_eq_false e)⟩
theorem br_eq {a b : Int} {X Y : Prop} (h1 : a = b → X) (h2 : a ≠ b → Y) : Br (a == b) X Y := ⟨fun e => h1 (beq_iff_eq.mp e), fun e => h2 (by simpa using e)⟩
theorem br_ne {a b : Int} {X Y : Prop} (h1 : a ≠ b → X) (h2 : a = b → Y) : Br (a != b) X Y := ⟨fun e => h1 (by simpa using e), fun e => h2 (by simpa using e)⟩
theorem br_not {b : Bool} {X Y : Prop} (h : Br b Y X) : Br (!b) X Y := by cases b; exact br_tt (h.2 rfl); exact br_ff (h.1 rfl)
theorem br_any {b : Bool} {X Y : Prop} (h1 : b = true → X) (h2 : b = false → Y) : Br b X Y := ⟨h1, h2⟩
theorem br_ite {b : Bool} {X Y : Prop} (h : Br b X Y) : if b then X else Y := by cases b; exact h.2 rfl; exact h.1 rfl

section
variable {prog : Program} {w : World} {A : Around} {E : Value → Shared → Prop} {s : Shared} {h g : Heap} {gs : Array GenState} {dr : Drawn} {tk : Nat} {os : OsState} {L a : Addr} {m : Str → Option Value}
  {cn : Str} {cs : Scope} {ccd : Value} {cl : List (Str × Addr)} {led : List (Addr × Obj)} {env : Env} {p : Program} {loose : List Str} {mg mb : Str → Option Value} {P : Flow → Shared → Prop}

theorem Gd.up {h' : Heap} (G : Gd w p loose mg mb h) (u : Up h h') : Gd w p loose mg mb h' := ⟨G.x.keeps u, G.t.keeps u⟩
theorem Gd.fr {h' : Heap} (G : Gd w p loose mg mb h) (F : Fr h L h' m) : Gd w p loose mg mb h' := G.up F.keep

/-! statements -/
theorem x_nil (k : P .next s) : wpAny (model prog w) A (execs [] env) P E s := wpAny_execs_nil k
theorem x_ret {e : Expr} {pos : Pos} {rest : List Stmt} (k : wpAny (model prog w) A (eval e env) (fun v => P (.ret v)) E s) : wpAny (model prog w) A (execs (.Return (some e) pos :: rest) env) P E s :=
  wpAny_execs_cons (wpAny_Return_some k)
theorem x_ret0 {pos : Pos} {rest : List Stmt} (k : P (.ret .none) s) : wpAny (model prog w) A (execs (.Return none pos :: rest) env) P E s :=
  wpAny_execs_cons (wpAny_Return_none k)
theorem x_assign {x : Str} {pos' pos : Pos} {value : Expr} {rest : List Stmt}
    (k : wpAny (model prog w) A (eval value env) (fun v s₁ => wpAny (model prog w) A (storeName env x v) (fun _ s₂ => wpAny (model prog w) A (execs rest env) P E s₂) E s₁) E s)
    (hs : swapsWith value (some (.Name x pos')) pos.line env = pure false := by rfl) : wpAny (model prog w) A (execs (.Assign [.Name x pos'] value pos :: rest) env) P E s :=
  wpAny_execs_cons (wpAny_Assign_Name k hs)
theorem x_attr {o : Expr} {attr : Str} {pos' pos : Pos} {value : Expr} {rest : List Stmt}
    (k : wpAny (model prog w) A (eval value env) (fun v s₁ => wpAny (model prog w) A (eval o env) (fun ov s₂ => wpAny (model prog w) A (setAttr ov attr v) (fun _ s₃ => wpAny (model prog w) A (execs rest env) P E s₃) E s₂) E s₁) E s)
    (hs : swapsWith value (some (.Attribute o attr pos')) pos.line env = pure false := by rfl) : wpAny (model prog w) A (execs (.Assign [.Attribute o attr pos'] value pos :: rest) env) P E s :=
  wpAny_execs_cons (plainObj_wpAny_Assign_Attribute k hs)
theorem x_tuple {elts : List Expr} {k' : Nat} {tpos pos : Pos} {value : Expr} {rest : List Stmt}
    (k : wpAny (model prog w) A (eval value env) (fun v s₁ => wpAny (model prog w) A (assign (.Tuple elts k' tpos) env v) (fun _ s₂ => wpAny (model prog w) A (execs rest env) P E s₂) E s₁) E s)
    (hs : swapsWithSole [.Tuple elts k' tpos] value pos.line env = pure false := by rfl) (hw : swappedStores [.Tuple elts k' tpos] value env = pure none := by rfl) :
    wpAny (model prog w) A (execs (.Assign [.Tuple elts k' tpos] value pos :: rest) env) P E s := wpAny_execs_cons (Assign_Tuple k hs hw)
/-- what is behind a block: its rest, or the block's own end -/
noncomputable def SeqP (prog : Program) (w : World) (A : Around) (env : Env) (E : Value → Shared → Prop) (rest : List Stmt) (P : Flow → Shared → Prop) : Flow → Shared → Prop := fun f s' => match f with
  | .next => wpAny (model prog w) A (execs rest env) P E s'
  | f => P f s'
theorem x_if {test : Expr} {body orelse rest : List Stmt} {pos : Pos}
    (k : wpAny (model prog w) A (isTrue test env (eval test env)) (fun b s₂ => Br b (wpAny (model prog w) A (execs body env) (SeqP prog w A env E rest P) E s₂) (wpAny (model prog w) A (execs orelse env) (SeqP prog w A env E rest P) E s₂)) E s) :
    wpAny (model prog w) A (execs (.If test body orelse pos :: rest) env) P E s := by
  refine wpAny_execs_cons (wpAny_If (wpAny_mono k (fun b s₂ z => ?_) fun _ _ x => x))
  cases b with
  | true => exact wpAny_mono (z.1 rfl) (fun f s' h => by cases f <;> exact h) fun _ _ x => x
  | false => exact wpAny_mono (z.2 rfl) (fun f s' h => by cases f <;> exact h) fun _ _ x => x
theorem x_nil_seq {rest : List Stmt} (k : wpAny (model prog w) A (execs rest env) P E s) : wpAny (model prog w) A (execs [] env) (SeqP prog w A env E rest P) E s := wpAny_execs_nil k
theorem x_ret_seq {e : Expr} {pos : Pos} {r rest : List Stmt} (k : wpAny (model prog w) A (eval e env) (fun v => P (.ret v)) E s) : wpAny (model prog w) A (execs (.Return (some e) pos :: r) env) (SeqP prog w A env E rest P) E s :=
  wpAny_execs_cons (wpAny_Return_some k)
/-- the last if of a block: no rest to keep -/
theorem x_if_last {test : Expr} {body orelse : List Stmt} {pos : Pos}
    (k : wpAny (model prog w) A (isTrue test env (eval test env)) (fun b s₂ => Br b (wpAny (model prog w) A (execs body env) P E s₂) (wpAny (model prog w) A (execs orelse env) P E s₂)) E s) :
    wpAny (model prog w) A (execs [.If test body orelse pos] env) P E s := by
  refine wpAny_execs_cons (wpAny_If (wpAny_mono k (fun b s₂ z => ?_) fun _ _ x => x))
  cases b with
  | true => exact wpAny_mono (z.1 rfl) (fun f s' h => by cases f <;> first | exact h | exact wpAny_execs_nil h) fun _ _ x => x
  | false => exact wpAny_mono (z.2 rfl) (fun f s' h => by cases f <;> first | exact h | exact wpAny_execs_nil h) fun _ _ x => x
end
end Mine
/-! Base2 -/
namespace Mine
section
variable {prog : Program} {w : World} {A : Around} {E : Value → Shared → Prop} {s : Shared} {h g : Heap} {gs : Array GenState} {dr : Drawn} {tk : Nat} {os : OsState} {L a : Addr} {m : Str → Option Value}
  {cn : Str} {cs : Scope} {ccd : Value} {cl : List (Str × Addr)} {led : List (Addr × Obj)} {env : Env} {p : Program} {loose : List Str} {mg mb : Str → Option Value} {Q : Value → Shared → Prop} {x : Str} {pos np : Pos} {v : Value} {i j : Int} {ti tj : Tok} {QB : Bool → Shared → Prop} {QU : Unit → Shared → Prop}

/-! leaves -/
theorem e_int {k : Nat} (kq : Q (.int i tk) ⟨h, gs, dr, tk + 1, os⟩) : wpAny (model prog w) A (eval (.Constant (.int i) k pos) env) Q E ⟨h, gs, dr, tk, os⟩ := wpAny_Constant_int kq
theorem e_none {k : Nat} (kq : Q .none s) : wpAny (model prog w) A (eval (.Constant .none k pos) env) Q E s := Constant_none kq
theorem e_bool {k : Nat} {c : Bool} (kq : Q (.bool c) s) : wpAny (model prog w) A (eval (.Constant (.bool c) k pos) env) Q E s := Constant_bool kq
theorem e_loc (F : Fr g L h m) (hv : m x = some v) (kq : Q v ⟨h, gs, dr, tk, os⟩)
    (hk : cs.kind = .function := by rfl) (hx : (envX cn cs L a ccd cl).kindOf x = some .local := by rfl) (hd : (x == ("__debug__" : Str)) = false := by decide) :
    wpAny (model prog w) A (eval (.Name x pos) (envX cn cs L a ccd cl)) Q E ⟨h, gs, dr, tk, os⟩ := wpAny_Name (wpAny_loadName_local hk hx F.ns hv kq) hd
theorem e_glob (F : Fr g L h m) (G : Gd w p loose mg mb g) (e : nsIn (Mine.hd.heap_1_39 w.params) mainGlobals x = some (some v)) (kq : Q v ⟨h, gs, dr, tk, os⟩)
    (hk : cs.kind = .function := by rfl) (hx : (envX cn cs L a ccd cl).kindOf x = some .globalImplicit := by rfl) (hd : (x == ("__debug__" : Str)) = false := by decide) :
    wpAny (model prog w) A (eval (.Name x pos) (envX cn cs L a ccd cl)) Q E ⟨h, gs, dr, tk, os⟩ := nameX_K F G.x G.t e kq hk hx hd
theorem e_blt (F : Fr g L h m) (G : Gd w p loose mg mb g) (e : nsIn (Mine.hd.heap_1_39 w.params) mainGlobals x = some none) (hv : bootBuiltins x = some v) (hn : x ≠ "__name__") (kq : Q v ⟨h, gs, dr, tk, os⟩)
    (hk : cs.kind = .function := by rfl) (hx : (envX cn cs L a ccd cl).kindOf x = some .globalImplicit := by rfl) (hd : (x == ("__debug__" : Str)) = false := by decide) :
    wpAny (model prog w) A (eval (.Name x pos) (envX cn cs L a ccd cl)) Q E ⟨h, gs, dr, tk, os⟩ := nameX_B F G.x G.t e hv hn kq hk hx hd
theorem s_loc (F : Fr g L h m) (N : News g L h led) (kq : ∀ h', Fr g L h' (fun y => if y = x then some v else m y) → News g L h' led → QU () ⟨h', gs, dr, tk + 1, os⟩)
    (hk : cs.kind = .function := by rfl) (hx : (envX cn cs L a ccd cl).kindOf x = some .local := by rfl) :
    wpAny (model prog w) A (storeName (envX cn cs L a ccd cl) x v) QU E ⟨h, gs, dr, tk, os⟩ := storeX_L (s := ⟨h, gs, dr, tk, os⟩) F N (fun h' F' N' => kq h' F' N') hk hx
theorem s_lo {l : List (Str × Value)} (F : Fr g L h (lo l m)) (N : News g L h led) (kq : ∀ h', Fr g L h' (lo ((x, v) :: l) m) → News g L h' led → QU () ⟨h', gs, dr, tk + 1, os⟩)
    (hk : cs.kind = .function := by rfl) (hx : (envX cn cs L a ccd cl).kindOf x = some .local := by rfl) :
    wpAny (model prog w) A (storeName (envX cn cs L a ccd cl) x v) QU E ⟨h, gs, dr, tk, os⟩ := s_loc F N (fun h' F' N' => kq h' (lo_cons x v l m ▸ F') N') hk hx

/-! arithmetic -/
theorem b_add (kq : Q (.int (i + j) tk) ⟨h, gs, dr, tk + 1, os⟩) : wpAny (model prog w) A (binaryOp .Add (.int i ti) (.int j tj)) Q E ⟨h, gs, dr, tk, os⟩ := PySem.P.add_int kq
theorem b_sub (kq : Q (.int (i - j) tk) ⟨h, gs, dr, tk + 1, os⟩) : wpAny (model prog w) A (binaryOp .Sub (.int i ti) (.int j tj)) Q E ⟨h, gs, dr, tk, os⟩ := PySem.P.sub_int kq
theorem b_mul (hm : IntMulOk i j) (kq : Q (.int (i * j) tk) ⟨h, gs, dr, tk + 1, os⟩) : wpAny (model prog w) A (binaryOp .Mult (.int i ti) (.int j tj)) Q E ⟨h, gs, dr, tk, os⟩ := PySem.P.mul_int kq hm
theorem b_div (hb : j ≠ 0) (hp : Builtin.divisionGoesByPylong i j = false) (kq : Q (.int (i.fdiv j) tk) ⟨h, gs, dr, tk + 1, os⟩) : wpAny (model prog w) A (binaryOp .FloorDiv (.int i ti) (.int j tj)) Q E ⟨h, gs, dr, tk, os⟩ :=
  floordiv_int hb kq (.inl hp)
theorem b_mod (hb : j ≠ 0) (kq : Q (.int (i.fmod j) tk) ⟨h, gs, dr, tk + 1, os⟩) : wpAny (model prog w) A (binaryOp .Mod (.int i ti) (.int j tj)) Q E ⟨h, gs, dr, tk, os⟩ := mod_int' hb kq
theorem u_neg (kq : Q (.int (-i) tk) ⟨h, gs, dr, tk + 1, os⟩) : wpAny (model prog w) A (unaryOp .USub (.int i ti)) Q E ⟨h, gs, dr, tk, os⟩ := PySem.P.neg_int kq
theorem u_not {c : Bool} (kq : Q (.bool (!c)) s) : wpAny (model prog w) A (unaryOp .Not (.bool c)) Q E s := not_of (wpAny_truthy_bool kq)
theorem c_eq (kq : Q (.bool (i == j)) s) : wpAny (model prog w) A (compareOp .Eq (.int i ti) (.int j tj)) Q E s := PySem.P.eq_int kq
theorem c_ne (kq : Q (.bool (i != j)) s) : wpAny (model prog w) A (compareOp .NotEq (.int i ti) (.int j tj)) Q E s := PySem.P.ne_int kq
theorem c_lt (kq : Q (.bool (decide (i < j))) s) : wpAny (model prog w) A (compareOp .Lt (.int i ti) (.int j tj)) Q E s := PySem.P.lt_int kq
theorem c_le (kq : Q (.bool (decide (i ≤ j))) s) : wpAny (model prog w) A (compareOp .LtE (.int i ti) (.int j tj)) Q E s := PySem.P.le_int kq
theorem c_gt (kq : Q (.bool (decide (i > j))) s) : wpAny (model prog w) A (compareOp .Gt (.int i ti) (.int j tj)) Q E s := PySem.P.gt_int kq
theorem c_ge (kq : Q (.bool (decide (i ≥ j))) s) : wpAny (model prog w) A (compareOp .GtE (.int i ti) (.int j tj)) Q E s := PySem.P.ge_int kq
theorem c_is (kq : Q (.bool (v == .none)) s) : wpAny (model prog w) A (compareOp .Is v .none) Q E s := PySem.is_none kq
theorem c_isnot (kq : Q (.bool (!(v == .none))) s) : wpAny (model prog w) A (compareOp .IsNot v .none) Q E s := PySem.isNot_none kq
theorem t_bool {b : Bool} (kq : QB b s) : wpAny (model prog w) A (truthy (.bool b)) QB E s := wpAny_truthy_bool kq

/-! nodes -/
theorem e_bin {l r : Expr} {op : Operator} (kq : wpAny (model prog w) A (eval l env) (fun a s₁ => wpAny (model prog w) A (eval r env) (fun b s₂ => wpAny (model prog w) A (binaryOp op a b) Q E s₂) E s₁) E s) :
    wpAny (model prog w) A (eval (.BinOp l op r pos) env) Q E s := wpAny_BinOp kq
theorem e_una {x : Expr} {op : UnaryOp} (kq : wpAny (model prog w) A (eval x env) (fun v s₁ => wpAny (model prog w) A (unaryOp op v) Q E s₁) E s) :
    wpAny (model prog w) A (eval (.UnaryOp op x pos) env) Q E s := UnaryOp_ kq
theorem e_cmp {l r : Expr} {op : CmpOp} (kq : wpAny (model prog w) A (eval l env) (fun a s₁ => wpAny (model prog w) A (eval r env) (fun b s₂ => wpAny (model prog w) A (compareOp op a b) Q E s₂) E s₁) E s)
    (hm : behindInMarks op r = false := by with_unfolding_all rfl) : wpAny (model prog w) A (eval (.Compare l [op] [r] pos) env) Q E s := wpAny_Compare1 kq hm
theorem e_cmp2 {l r₁ r₂ : Expr} {o₁ o₂ : CmpOp} (kq : wpAny (model prog w) A (eval l env) (fun a s₁ => wpAny (model prog w) A (eval r₁ env) (fun b s₂ => wpAny (model prog w) A (compareOp o₁ a b) (fun c s₃ => wpAny (model prog w) A (truthy c)
      (fun t s₄ => Br t (wpAny (model prog w) A (eval r₂ env) (fun d s₅ => wpAny (model prog w) A (compareOp o₂ b d) Q E s₅) E s₄) (Q c s₄)) E s₃) E s₂) E s₁) E s)
    (hm : lastMarks [o₁, o₂] [r₁, r₂] = false := by with_unfolding_all rfl) : wpAny (model prog w) A (eval (.Compare l [o₁, o₂] [r₁, r₂] pos) env) Q E s := by
  refine Compare_chain (rs := []) (ops := []) (wpAny_mono kq (fun a s₁ h₁ => chain_link (wpAny_mono h₁ (fun b s₂ h₂ => wpAny_mono h₂ (fun c s₃ h₃ => wpAny_mono h₃ (fun t s₄ h₄ => ?_) fun _ _ x => x) fun _ _ x => x) fun _ _ x => x)) fun _ _ x => x) hm
  cases t with
  | true => rw [if_pos rfl]; exact chain_last (h₄.1 rfl)
  | false => rw [if_neg Bool.false_ne_true]; exact h₄.2 rfl
theorem e_ifexp {test body orelse : Expr} (kq : wpAny (model prog w) A (isTrue test env (eval test env)) (fun b s₂ => Br b (wpAny (model prog w) A (eval body env) Q E s₂) (wpAny (model prog w) A (eval orelse env) Q E s₂)) E s) :
    wpAny (model prog w) A (eval (.IfExp test body orelse pos) env) Q E s := IfExp_ (wpAny_mono kq (fun _ _ z => br_ite z) fun _ _ x => x)
theorem e_and {e₁ e₂ : Expr} {rest : List Expr} (kq : wpAny (model prog w) A (eval e₁ env) (fun v s₁ => wpAny (model prog w) A (truthy v) (fun c s₂ => Br c (wpAny (model prog w) A (eval (.BoolOp .And (e₂ :: rest) pos) env) Q E s₂) (Q v s₂)) E s₁) E s) :
    wpAny (model prog w) A (eval (.BoolOp .And (e₁ :: e₂ :: rest) pos) env) Q E s := BoolOp_and (wpAny_mono kq (fun _ _ z => wpAny_mono z (fun _ _ y => br_ite y) fun _ _ x => x) fun _ _ x => x)
theorem e_or {e₁ e₂ : Expr} {rest : List Expr} (kq : wpAny (model prog w) A (eval e₁ env) (fun v s₁ => wpAny (model prog w) A (truthy v) (fun c s₂ => Br c (Q v s₂) (wpAny (model prog w) A (eval (.BoolOp .Or (e₂ :: rest) pos) env) Q E s₂)) E s₁) E s) :
    wpAny (model prog w) A (eval (.BoolOp .Or (e₁ :: e₂ :: rest) pos) env) Q E s := BoolOp_or (wpAny_mono kq (fun _ _ z => wpAny_mono z (fun _ _ y => br_ite y) fun _ _ x => x) fun _ _ x => x)
theorem e_one {e₁ : Expr} {op : BoolOp} (kq : wpAny (model prog w) A (eval e₁ env) Q E s) : wpAny (model prog w) A (eval (.BoolOp op [e₁] pos) env) Q E s := BoolOp_one kq
/-! truth of tests -/
theorem i_cmp {l r : Expr} {op : CmpOp} {whole : Sem Value} (kq : wpAny (model prog w) A (eval l env) (fun a s₁ => wpAny (model prog w) A (eval r env) (fun b s₂ => wpAny (model prog w) A (compareOp op a b) (fun c s₃ => wpAny (model prog w) A (truthy c) QB E s₃) E s₂) E s₁) E s)
    (hm : behindInMarks op r = false := by with_unfolding_all rfl) : wpAny (model prog w) A (isTrue (.Compare l [op] [r] pos) env whole) QB E s := wpAny_isTrue_Compare1 kq hm
theorem i_cmp2 {l r₁ r₂ : Expr} {o₁ o₂ : CmpOp} {whole : Sem Value} (kq : wpAny (model prog w) A (eval l env) (fun a s₁ => wpAny (model prog w) A (eval r₁ env) (fun b s₂ => wpAny (model prog w) A (compareOp o₁ a b) (fun c s₃ => wpAny (model prog w) A (truthy c)
      (fun t s₄ => Br t (wpAny (model prog w) A (eval r₂ env) (fun d s₅ => wpAny (model prog w) A (compareOp o₂ b d) (fun c s₆ => wpAny (model prog w) A (truthy c) QB E s₆) E s₅) E s₄) (QB false s₄)) E s₃) E s₂) E s₁) E s)
    (hm : lastMarks [o₁, o₂] [r₁, r₂] = false := by with_unfolding_all rfl) : wpAny (model prog w) A (isTrue (.Compare l [o₁, o₂] [r₁, r₂] pos) env whole) QB E s := by
  refine isTrue_chain (rs := []) (ops := []) (wpAny_mono kq (fun a s₁ h₁ => test_link (wpAny_mono h₁ (fun b s₂ h₂ => wpAny_mono h₂ (fun c s₃ h₃ => wpAny_mono h₃ (fun t s₄ h₄ => ?_) fun _ _ x => x) fun _ _ x => x) fun _ _ x => x)) fun _ _ x => x) hm
  cases t with
  | true => rw [if_pos rfl]; exact test_last (h₄.1 rfl)
  | false => rw [if_neg Bool.false_ne_true]; exact h₄.2 rfl
theorem i_not {x : Expr} {whole : Sem Value} (kq : wpAny (model prog w) A (isTrue x env (eval x env)) (fun c s' => QB (!c) s') E s) : wpAny (model prog w) A (isTrue (.UnaryOp .Not x pos) env whole) QB E s := isTrue_not kq
theorem i_and {x : Expr} {rest : List Expr} {whole : Sem Value} (kq : wpAny (model prog w) A (isTrue x env (eval x env)) (fun c s' => Br c (wpAny (model prog w) A (isTrue (.BoolOp .And rest pos) env whole) QB E s') (QB false s')) E s) :
    wpAny (model prog w) A (isTrue (.BoolOp .And (x :: rest) pos) env whole) QB E s := isTrue_and (wpAny_mono kq (fun _ _ z => br_ite z) fun _ _ x => x)
theorem i_or {x : Expr} {rest : List Expr} {whole : Sem Value} (kq : wpAny (model prog w) A (isTrue x env (eval x env)) (fun c s' => Br c (QB true s') (wpAny (model prog w) A (isTrue (.BoolOp .Or rest pos) env whole) QB E s')) E s) :
    wpAny (model prog w) A (isTrue (.BoolOp .Or (x :: rest) pos) env whole) QB E s := isTrue_or (wpAny_mono kq (fun _ _ z => br_ite z) fun _ _ x => x)
theorem i_and0 {whole : Sem Value} (kq : QB true s) : wpAny (model prog w) A (isTrue (.BoolOp .And [] pos) env whole) QB E s := isTrue_and_nil kq
theorem i_or0 {whole : Sem Value} (kq : QB false s) : wpAny (model prog w) A (isTrue (.BoolOp .Or [] pos) env whole) QB E s := isTrue_or_nil kq
theorem i_call {f : Expr} {as : List Expr} {ks : List Keyword} {whole : Sem Value} (kq : wpAny (model prog w) A whole (fun v s₁ => wpAny (model prog w) A (truthy v) QB E s₁) E s) :
    wpAny (model prog w) A (isTrue (.Call f as ks pos) env whole) QB E s := isTrue_plain kq
theorem i_attr {f : Expr} {n : Str} {whole : Sem Value} (kq : wpAny (model prog w) A whole (fun v s₁ => wpAny (model prog w) A (truthy v) QB E s₁) E s) :
    wpAny (model prog w) A (isTrue (.Attribute f n pos) env whole) QB E s := isTrue_plain kq
theorem i_name {n : Str} {whole : Sem Value} (kq : wpAny (model prog w) A whole (fun v s₁ => wpAny (model prog w) A (truthy v) QB E s₁) E s) :
    wpAny (model prog w) A (isTrue (.Name n pos) env whole) QB E s := isTrue_plain kq
theorem e_attr {attr : Str} (kq : wpAny (model prog w) A (eval (.Name x np) env) (fun o s₁ => wpAny (model prog w) A (getAttr o attr true) Q E s₁) E s) :
    wpAny (model prog w) A (eval (.Attribute (.Name x np) attr pos) env) Q E s := Attribute_Name_ kq
/-- an attribute of what a call, a subscript or another attribute gives -/
theorem e_attr' {value : Expr} {attr : Str} (kq : wpAny (model prog w) A (eval value env) (fun o s₁ => wpAny (model prog w) A (getAttr o attr true) Q E s₁) E s)
    (he : eval (.Attribute value attr pos) env = (do
      let o ← eval value env
      standAt pos.atName
      let r ← holding [o] (getAttr o attr true)
      letTemporaryGo value o r
      pure r) := by with_unfolding_all rfl) : wpAny (model prog w) A (eval (.Attribute value attr pos) env) Q E s := Attribute_any_ kq he
end

/-! calls of the text's functions -/
section
variable {prog : Program} {w : World} {A : Around} {E : Value → Shared → Prop} {s : Shared} {h g : Heap} {gs : Array GenState} {dr : Drawn} {tk : Nat} {os : OsState} {L a : Addr} {m : Str → Option Value}
  {cn : Str} {cs : Scope} {ccd : Value} {cl : List (Str × Addr)} {led : List (Addr × Obj)} {env : Env} {p : Program} {loose : List Str} {mg mb : Str → Option Value} {Q : Value → Shared → Prop} {x : Str} {pos np : Pos} {f : Addr} {fe e₁ e₂ e₃ e₄ e₅ : Expr}

/-- the callee is known to stand, then the call -/
noncomputable def Cal (prog : Program) (w : World) (A : Around) (E : Value → Shared → Prop) (Q : Value → Shared → Prop) (f : Value) (vs : List Value) (s : Shared) : Prop := (Mine.hd.heap_1_39 w.params).In s.heap ∧ wpAny (model prog w) A (call f vs) Q E s
theorem cal {f : Value} {vs : List Value} (F : Fr g L h m) (G : Gd w p loose mg mb g) (kq : wpAny (model prog w) A (call f vs) Q E ⟨h, gs, dr, tk, os⟩) : Cal prog w A E Q f vs ⟨h, gs, dr, tk, os⟩ := ⟨G.x.keeps F.keep, kq⟩
theorem callWith_of0 {f : Value} {e : Expr} {rest : List Expr} (hk : keepIn (Mine.hd.heap_1_39 w.params) f = true) (h : wpAny (model prog w) A (spliced (backTo pos (starEach (e :: rest) env))) (fun vs s₁ => Cal prog w A E Q f vs s₁) E s)
    (he : starEach (e :: rest) env = (false, eval e env) :: starEach rest env) (hplain : (backTo pos (starEach rest env)).any (·.1) = false) :
    wpAny (model prog w) A (callWith pos f [] (backTo pos (starEach (e :: rest) env)) []) Q E s := by
  rw [he] at h ⊢
  exact callWith_of (by show ((false || (backTo pos (starEach rest env)).any (·.1)) || false) = false; rw [hplain]; rfl) (keeps_K hk) (evalArgs_plain h)
theorem ev_mono {t : Sem Value} {Q' : Value → Shared → Prop} (z : wpAny (model prog w) A t Q E s) (k : ∀ v s', Q v s' → Q' v s') : wpAny (model prog w) A t Q' E s := wpAny_mono z k fun _ _ x => x
theorem e_call0 {v : Value} (hk : keepIn (Mine.hd.heap_1_39 w.params) v = true) (kq : wpAny (model prog w) A (eval fe env) (fun v' s₀ => v' = v ∧ Cal prog w A E Q v [] s₀) E s)
    (he : eval (.Call fe [] [] pos) env = (do callWith pos (← eval fe env) [] (backTo pos (starEach [] env)) (backToKw pos (keywordEach [] env))) := by rfl) :
    wpAny (model prog w) A (eval (.Call fe [] [] pos) env) Q E s :=
  Call_ (wpAny_mono kq (fun _ _ z => by obtain ⟨rfl, z⟩ := z; exact callWith_K0 z.1 hk z.2) fun _ _ x => x) he
theorem e_call1 {v : Value} (hk : keepIn (Mine.hd.heap_1_39 w.params) v = true) (kq : wpAny (model prog w) A (eval fe env) (fun v' s₀ => v' = v ∧ wpAny (model prog w) A (eval e₁ env) (fun v₁ s₉ => Cal prog w A E Q v [v₁] s₉) E s₀) E s)
    (he : eval (.Call fe [e₁] [] pos) env = (do callWith pos (← eval fe env) [] (backTo pos (starEach [e₁] env)) (backToKw pos (keywordEach [] env))) := by rfl)
    (st0 : starEach [e₁] env = (false, eval e₁ env) :: starEach [] env := by rfl)
    (hp : (backTo pos (starEach [] env)).any (·.1) = false := by rfl) :
    wpAny (model prog w) A (eval (.Call fe [e₁] [] pos) env) Q E s :=
  Call_ (wpAny_mono kq (fun _ _ z => by
    obtain ⟨rfl, z⟩ := z
    exact callWith_of0 hk (args_cons (ev_mono z fun _ _ y => args_nil y) st0) st0 hp) fun _ _ x => x) he
theorem e_call2 {v : Value} (hk : keepIn (Mine.hd.heap_1_39 w.params) v = true) (kq : wpAny (model prog w) A (eval fe env) (fun v' s₀ => v' = v ∧ wpAny (model prog w) A (eval e₁ env) (fun v₁ s₁ => wpAny (model prog w) A (eval e₂ env) (fun v₂ s₉ => Cal prog w A E Q v [v₁, v₂] s₉) E s₁) E s₀) E s)
    (he : eval (.Call fe [e₁, e₂] [] pos) env = (do callWith pos (← eval fe env) [] (backTo pos (starEach [e₁, e₂] env)) (backToKw pos (keywordEach [] env))) := by rfl)
    (st0 : starEach [e₁, e₂] env = (false, eval e₁ env) :: starEach [e₂] env := by rfl) (st1 : starEach [e₂] env = (false, eval e₂ env) :: starEach [] env := by rfl)
    (hp : (backTo pos (starEach [e₂] env)).any (·.1) = false := by rfl) :
    wpAny (model prog w) A (eval (.Call fe [e₁, e₂] [] pos) env) Q E s :=
  Call_ (wpAny_mono kq (fun _ _ z => by
    obtain ⟨rfl, z⟩ := z
    exact callWith_of0 hk (args_cons (ev_mono z fun _ _ y => args_cons (ev_mono y fun _ _ y => args_nil y) st1) st0) st0 hp) fun _ _ x => x) he
theorem e_call3 {v : Value} (hk : keepIn (Mine.hd.heap_1_39 w.params) v = true) (kq : wpAny (model prog w) A (eval fe env) (fun v' s₀ => v' = v ∧ wpAny (model prog w) A (eval e₁ env) (fun v₁ s₁ => wpAny (model prog w) A (eval e₂ env) (fun v₂ s₂ => wpAny (model prog w) A (eval e₃ env) (fun v₃ s₉ => Cal prog w A E Q v [v₁, v₂, v₃] s₉) E s₂) E s₁) E s₀) E s)
    (he : eval (.Call fe [e₁, e₂, e₃] [] pos) env = (do callWith pos (← eval fe env) [] (backTo pos (starEach [e₁, e₂, e₃] env)) (backToKw pos (keywordEach [] env))) := by rfl)
    (st0 : starEach [e₁, e₂, e₃] env = (false, eval e₁ env) :: starEach [e₂, e₃] env := by rfl) (st1 : starEach [e₂, e₃] env = (false, eval e₂ env) :: starEach [e₃] env := by rfl) (st2 : starEach [e₃] env = (false, eval e₃ env) :: starEach [] env := by rfl)
    (hp : (backTo pos (starEach [e₂, e₃] env)).any (·.1) = false := by rfl) :
    wpAny (model prog w) A (eval (.Call fe [e₁, e₂, e₃] [] pos) env) Q E s :=
  Call_ (wpAny_mono kq (fun _ _ z => by
    obtain ⟨rfl, z⟩ := z
    exact callWith_of0 hk (args_cons (ev_mono z fun _ _ y => args_cons (ev_mono y fun _ _ y => args_cons (ev_mono y fun _ _ y => args_nil y) st2) st1) st0) st0 hp) fun _ _ x => x) he
theorem e_call4 {v : Value} (hk : keepIn (Mine.hd.heap_1_39 w.params) v = true) (kq : wpAny (model prog w) A (eval fe env) (fun v' s₀ => v' = v ∧ wpAny (model prog w) A (eval e₁ env) (fun v₁ s₁ => wpAny (model prog w) A (eval e₂ env) (fun v₂ s₂ => wpAny (model prog w) A (eval e₃ env) (fun v₃ s₃ => wpAny (model prog w) A (eval e₄ env) (fun v₄ s₉ => Cal prog w A E Q v [v₁, v₂, v₃, v₄] s₉) E s₃) E s₂) E s₁) E s₀) E s)
    (he : eval (.Call fe [e₁, e₂, e₃, e₄] [] pos) env = (do callWith pos (← eval fe env) [] (backTo pos (starEach [e₁, e₂, e₃, e₄] env)) (backToKw pos (keywordEach [] env))) := by rfl)
    (st0 : starEach [e₁, e₂, e₃, e₄] env = (false, eval e₁ env) :: starEach [e₂, e₃, e₄] env := by rfl) (st1 : starEach [e₂, e₃, e₄] env = (false, eval e₂ env) :: starEach [e₃, e₄] env := by rfl) (st2 : starEach [e₃, e₄] env = (false, eval e₃ env) :: starEach [e₄] env := by rfl) (st3 : starEach [e₄] env = (false, eval e₄ env) :: starEach [] env := by rfl)
    (hp : (backTo pos (starEach [e₂, e₃, e₄] env)).any (·.1) = false := by rfl) :
    wpAny (model prog w) A (eval (.Call fe [e₁, e₂, e₃, e₄] [] pos) env) Q E s :=
  Call_ (wpAny_mono kq (fun _ _ z => by
    obtain ⟨rfl, z⟩ := z
    exact callWith_of0 hk (args_cons (ev_mono z fun _ _ y => args_cons (ev_mono y fun _ _ y => args_cons (ev_mono y fun _ _ y => args_cons (ev_mono y fun _ _ y => args_nil y) st3) st2) st1) st0) st0 hp) fun _ _ x => x) he
theorem e_call5 {v : Value} (hk : keepIn (Mine.hd.heap_1_39 w.params) v = true) (kq : wpAny (model prog w) A (eval fe env) (fun v' s₀ => v' = v ∧ wpAny (model prog w) A (eval e₁ env) (fun v₁ s₁ => wpAny (model prog w) A (eval e₂ env) (fun v₂ s₂ => wpAny (model prog w) A (eval e₃ env) (fun v₃ s₃ => wpAny (model prog w) A (eval e₄ env) (fun v₄ s₄ => wpAny (model prog w) A (eval e₅ env) (fun v₅ s₉ => Cal prog w A E Q v [v₁, v₂, v₃, v₄, v₅] s₉) E s₄) E s₃) E s₂) E s₁) E s₀) E s)
    (he : eval (.Call fe [e₁, e₂, e₃, e₄, e₅] [] pos) env = (do callWith pos (← eval fe env) [] (backTo pos (starEach [e₁, e₂, e₃, e₄, e₅] env)) (backToKw pos (keywordEach [] env))) := by rfl)
    (st0 : starEach [e₁, e₂, e₃, e₄, e₅] env = (false, eval e₁ env) :: starEach [e₂, e₃, e₄, e₅] env := by rfl) (st1 : starEach [e₂, e₃, e₄, e₅] env = (false, eval e₂ env) :: starEach [e₃, e₄, e₅] env := by rfl) (st2 : starEach [e₃, e₄, e₅] env = (false, eval e₃ env) :: starEach [e₄, e₅] env := by rfl) (st3 : starEach [e₄, e₅] env = (false, eval e₄ env) :: starEach [e₅] env := by rfl) (st4 : starEach [e₅] env = (false, eval e₅ env) :: starEach [] env := by rfl)
    (hp : (backTo pos (starEach [e₂, e₃, e₄, e₅] env)).any (·.1) = false := by rfl) :
    wpAny (model prog w) A (eval (.Call fe [e₁, e₂, e₃, e₄, e₅] [] pos) env) Q E s :=
  Call_ (wpAny_mono kq (fun _ _ z => by
    obtain ⟨rfl, z⟩ := z
    exact callWith_of0 hk (args_cons (ev_mono z fun _ _ y => args_cons (ev_mono y fun _ _ y => args_cons (ev_mono y fun _ _ y => args_cons (ev_mono y fun _ _ y => args_cons (ev_mono y fun _ _ y => args_nil y) st4) st3) st2) st1) st0) st0 hp) fun _ _ x => x) he
end
end Mine
/-! Base3 -/
namespace Mine
section
variable {prog : Program} {w : World} {A : Around} {E : Value → Shared → Prop} {s : Shared} {h g : Heap} {gs : Array GenState} {dr : Drawn} {tk : Nat} {os : OsState} {L a : Addr} {m : Str → Option Value}
  {cn : Str} {cs : Scope} {ccd : Value} {cl : List (Str × Addr)} {led : List (Addr × Obj)} {env : Env} {p : Program} {loose : List Str} {mg mb : Str → Option Value} {Q : Value → Shared → Prop} {x : Str} {pos np : Pos}

theorem hideAll_up : ∀ (W : List Addr) (h : Heap), Up (hideAll h W) h := fun W _ _ _ e => of_hideAll W e

/-- a call of a def of the text's: a frame of its own; what stands stays, but what the ledger names -/
theorem code_fn {n : Nat} {f : Addr} {oc : Value} {od an : Option Addr} {osl : Array (Option Value)} {name qual : Str} {params : Arguments} {body : List Stmt} {scope : Scope} {dV kV doc pm cdv ct : Value} {args : Args} {binds : List (Str × Value)} {R : Result → Shared → Prop}
    (Rm : Rm (n + 1) A) (G : Gd w p loose mg mb h) (led : List (Addr × Obj)) (hl : ∀ q ∈ led, h.get? q.1 = some q.2) (hK : ∀ q ∈ led, (Mine.hd.heap_1_39 w.params).lookup q.1 = none)
    (hN : mainGlobals ∉ led.map (·.1) ∧ builtinsNs ∉ led.map (·.1) ∧ cStatics ∉ led.map (·.1))
    (ho : (Mine.hd.heap_1_39 w.params).lookup f = some ⟨oc, od, .func (fnOf name qual params body scope dV kV doc pm an cdv ct), osl⟩) (hcd : codeIn (Mine.hd.heap_1_39 w.params) cdv qual = true)
    (hb : BindsTo ⟨h, gs, dr, tk, os⟩ (fnOf name qual params body scope dV kV doc pm an cdv ct) args binds)
    (hloc : (binds.all fun x => decide (scope.names.lookup x.1 = some .local)) = true)
    (k : ∀ A' g L h₁ tk₁, Mine.Rm n A' → Fr g L h₁ (lo binds.reverse fun _ => none) → News g L h₁ led → Gd w p loose mg mb g → (∀ b o, h.get? b = some o → b ∉ led.map (·.1) → g.get? b = some o) → (∀ b o, g.get? b = some o → h.get? b = some o) →
      wpAny (model prog w) A' (execs body (envX qual scope L f cdv [])) (RetQ fun v s' => R (.ok (.ret v)) s') (fun _ _ => False) ⟨h₁, gs, dr, tk₁, os⟩)
    (hco : scope.isCoroutine = false := by rfl) (hgen : scope.isGenerator = false := by rfl) (hk : scope.kind = .function := by rfl) (hcell : ∀ x ∈ scope.names, x.2 ≠ .cell := by decide) :
    codeAny (model prog w) A (.call (.ref f) args) R ⟨h, gs, dr, tk, os⟩ := by
  refine codeAny_call_def (fd := fnOf name qual params body scope dV kV doc pm an cdv ct) (body := body) (binds := binds) Rm.lt (G.x _ _ ho) rfl G.t.nolimit (codeRec_of G.x hcd) rfl hb hcell (locs hloc) (fun h₁ hns hk₁ => ?_) hco hgen hk
  have st : ∀ b o, h.get? b = some o → b ∉ led.map (·.1) → (hideAll h (led.map (·.1))).get? b = some o := fun b o e nb => hideAll_get _ e nb
  have GX : (Mine.hd.heap_1_39 w.params).In (hideAll h (led.map (·.1))) := fun b o e => st b o (G.x b o e) fun hm => by
    obtain ⟨q, hq, rfl⟩ := List.mem_map.mp hm
    rw [hK q hq] at e; cases e
  have nsAt : ∀ {N : Addr} {mm : Str → Option Value}, N ∉ led.map (·.1) → h.Ns N mm → (hideAll h (led.map (·.1))).Ns N mm := fun hn ⟨o, es, ep, e, r⟩ => ⟨o, es, ep, st _ _ e hn, r⟩
  have GT : TopRead p loose mg mb (hideAll h (led.map (·.1))) := ⟨nsAt hN.1 G.t.g, nsAt hN.2.1 G.t.b, (let ⟨mc, a, b⟩ := G.t.nolimit; ⟨mc, nsAt hN.2.2 a, b⟩), G.t.builtins, G.t.free⟩
  rw [lo_nil] at hns
  have z := k (A.deeper (envX qual scope h.objs.size f cdv [])) (hideAll h (led.map (·.1))) h.objs.size h₁ (tk + binds.length) (Rm.deeper _) ⟨hns, fun b o e => hk₁ b o (of_hideAll _ e), Nat.le_of_eq (hideAll_size _ _)⟩
    (fun q hq => ⟨hk₁ _ _ (hl q hq), Nat.ne_of_lt (Heap.lt_size (hl q hq)), hideAll_none _ (List.mem_map_of_mem hq)⟩) ⟨GX, GT⟩ st (fun b o e => of_hideAll _ e)
  exact wpAny_mono z (fun fl s' y => by cases fl <;> exact y) fun _ _ y => y.elim

/-- the same where nothing that stood is written -/
theorem call_fn {n : Nat} {f : Addr} {oc : Value} {od an : Option Addr} {osl : Array (Option Value)} {name qual : Str} {params : Arguments} {body : List Stmt} {scope : Scope} {dV kV doc pm cdv ct : Value} {vals : List Value} {binds : List (Str × Value)}
    (R : Rm (n + 1) A) (G : Gd w p loose mg mb h)
    (ho : (Mine.hd.heap_1_39 w.params).lookup f = some ⟨oc, od, .func (fnOf name qual params body scope dV kV doc pm an cdv ct), osl⟩) (hcd : codeIn (Mine.hd.heap_1_39 w.params) cdv qual = true)
    (hb : BindsTo ⟨h, gs, dr, tk, os⟩ (fnOf name qual params body scope dV kV doc pm an cdv ct) ⟨vals, []⟩ binds)
    (hloc : (binds.all fun x => decide (scope.names.lookup x.1 = some .local)) = true)
    (k : ∀ A' L h₁ tk₁, Rm n A' → Fr h L h₁ (lo binds.reverse fun _ => none) → News h L h₁ [] →
      wpAny (model prog w) A' (execs body (envX qual scope L f cdv [])) (RetQ Q) (fun _ _ => False) ⟨h₁, gs, dr, tk₁, os⟩)
    (hco : scope.isCoroutine = false := by rfl) (hgen : scope.isGenerator = false := by rfl) (hk : scope.kind = .function := by rfl) (hcell : ∀ x ∈ scope.names, x.2 ≠ .cell := by decide) :
    wpAny (model prog w) A (call (.ref f) vals) Q E ⟨h, gs, dr, tk, os⟩ := by
  refine wpAny_call ?_
  refine codeAny_call_def (fd := fnOf name qual params body scope dV kV doc pm an cdv ct) (body := body) (binds := binds) R.lt (G.x _ _ ho) rfl G.t.nolimit (codeRec_of G.x hcd) rfl hb hcell (locs hloc) (fun h₁ hns hk₁ => ?_) hco hgen hk
  rw [lo_nil] at hns
  have z := k (A.deeper (envX qual scope h.objs.size f cdv [])) h.objs.size h₁ (tk + binds.length) (R.deeper _) ⟨hns, hk₁, Nat.le_refl _⟩ News.nil
  exact wpAny_mono z (fun fl s' y => by cases fl <;> exact y) fun _ _ y => y.elim

/-! instances -/
noncomputable def ents (P : Params) : List (Str × Value) → List Tok → List DictEntry
  | (x, v) :: r, t :: ts => ⟨PyData.keyHash P x, .str x t, v⟩ :: ents P r ts
  | _, _ => []
theorem getL_ents {P : Params} {x : Str} : ∀ {fs : List (Str × Value)} {ts : List Tok}, fs.length = ts.length → getL x (ents P fs ts) = some (fs.lookup x)
  | [], [], _ => rfl
  | (y, v) :: r, t :: ts, e => by
    have ih := getL_ents (P := P) (x := x) (fs := r) (ts := ts) (by simpa using e)
    unfold getL at ih ⊢
    simp only [ents, List.find?_cons, List.lookup_cons, Value.isStr]
    by_cases q : x = y
    · subst q; simp
    · have h1 : (y == x) = false := beq_eq_false_iff_ne.mpr (Ne.symm q)
      have h2 : (x == y) = false := beq_eq_false_iff_ne.mpr q
      rw [h1, h2]
      simp only [List.any_cons, DictEntry.refKey, Bool.false_or]
      exact ih

/-- at a, an object of the class at C with these attributes, in this order -/
noncomputable def Inst (P : Params) (h : Heap) (a C : Addr) (fs : List (Str × Value)) : Prop :=
  ∃ dx ts n, fs.length = ts.length ∧ h.get? a = some (instObj C dx) ∧ h.get? dx = some (dictOf (ents P fs ts) n)
theorem Inst.up {P : Params} {h h' : Heap} {a C : Addr} {fs : List (Str × Value)} (I : Inst P h a C fs) (u : Up h h') : Inst P h' a C fs :=
  let ⟨dx, ts, n, e, a1, a2⟩ := I; ⟨dx, ts, n, e, u _ _ a1, u _ _ a2⟩

/-- what the written part says of an attribute's reading at an object of C: no data descriptor in the class -/
noncomputable def clsOk (K : Frag) (C : Addr) (x : Str) : Bool := plainGet K C x && hasDictIn K C && (findIn K (.ref C) x).any (noGet K)
theorem clsOk_of {K : Frag} {C : Addr} (e : clsOk K C x = true) : plainGet K C x = true ∧ hasDictIn K C = true ∧ ∃ attr, findIn K (.ref C) x = some attr ∧ noGet K attr = true := by
  unfold clsOk at e
  simp only [Bool.and_eq_true] at e
  obtain ⟨⟨a, b⟩, c⟩ := e
  cases q : findIn K (.ref C) x with
  | none => rw [q] at c; cases c
  | some attr => rw [q] at c; exact ⟨a, b, attr, rfl, c⟩
theorem g_own {C : Addr} {fs : List (Str × Value)} {v : Value} {ex : Bool} (hc : clsOk (Mine.hd.heap_1_39 w.params) C x = true) (X : (Mine.hd.heap_1_39 w.params).In h) (I : Inst w.params h a C fs) (hl : fs.lookup x = some v) (kq : Q v ⟨h, gs, dr, tk + 1, os⟩) (hv : handedIn v = true := by rfl) :
    wpAny (model prog w) A (getAttr (.ref a) x ex) Q E ⟨h, gs, dr, tk, os⟩ := by
  obtain ⟨c1, c2, attr, c3, c4⟩ := clsOk_of hc
  obtain ⟨dx, ts, n, e, i1, i2⟩ := I
  have I' : InstAt h a (instObj C dx) C (some (dictOf (ents w.params fs ts) n)) := ⟨i1, rfl, rfl, i2⟩
  exact get_value (s := ⟨h, gs, dr, tk, os⟩) X I' (plainGet_of c1).1 (findObj_own c2 c3 c4 (by rw [lookIn_dict, getL_ents e, hl])) hv kq
/-- an attribute that the class bears -/
theorem g_cls {C : Addr} {fs : List (Str × Value)} {v : Value} {ex : Bool} (c1 : plainGet (Mine.hd.heap_1_39 w.params) C x = true) (c2 : hasDictIn (Mine.hd.heap_1_39 w.params) C = true) (c3 : findIn (Mine.hd.heap_1_39 w.params) (.ref C) x = some (some v))
    (c4 : specialIn (Mine.hd.heap_1_39 w.params) v "__get__" = some none) (hc : copiedNames.contains x = false) (X : (Mine.hd.heap_1_39 w.params).In h) (I : Inst w.params h a C fs) (hl : fs.lookup x = none) (kq : Q v ⟨h, gs, dr, tk + 1, os⟩) (hv : handedIn v = true := by rfl) :
    wpAny (model prog w) A (getAttr (.ref a) x ex) Q E ⟨h, gs, dr, tk, os⟩ := by
  obtain ⟨dx, ts, n, e, i1, i2⟩ := I
  have I' : InstAt h a (instObj C dx) C (some (dictOf (ents w.params fs ts) n)) := ⟨i1, rfl, rfl, i2⟩
  exact get_value (s := ⟨h, gs, dr, tk, os⟩) X I' (plainGet_of c1).1 (findObj_cls c2 c3 c4 hv hc (by rw [lookIn_dict, getL_ents e, hl])) hv kq
end
end Mine
/-! Base4 -/
namespace Mine
section
variable {prog : Program} {w : World} {A : Around} {E : Value → Shared → Prop} {s : Shared} {h g : Heap} {gs : Array GenState} {dr : Drawn} {tk : Nat} {os : OsState} {L a : Addr} {m : Str → Option Value}
  {cn : Str} {cs : Scope} {ccd : Value} {cl : List (Str × Addr)} {led : List (Addr × Obj)} {env : Env} {p : Program} {loose : List Str} {mg mb : Str → Option Value} {Q : Value → Shared → Prop} {x : Str} {pos np : Pos} {f : Addr} {fe e₁ e₂ e₃ : Expr} {id T : String} {i j : Int} {ti tj : Tok}

/-! calls of built-ins and of types -/
theorem e_bcall1 (kq : wpAny (model prog w) A (eval fe env) (fun v' s₀ => v' = .builtin id ∧ wpAny (model prog w) A (eval e₁ env) (fun v₁ s₁ => wpAny (model prog w) A (call (.builtin id) [v₁]) Q E s₁) E s₀) E s)
    (he : eval (.Call fe [e₁] [] pos) env = (do callWith pos (← eval fe env) [] (backTo pos (starEach [e₁] env)) (backToKw pos (keywordEach [] env))) := by rfl)
    (st0 : starEach [e₁] env = (false, eval e₁ env) :: starEach [] env := by rfl) (hp : (backTo pos (starEach [] env)).any (·.1) = false := by rfl) :
    wpAny (model prog w) A (eval (.Call fe [e₁] [] pos) env) Q E s :=
  Call_ (ev_mono kq fun _ _ z => by obtain ⟨rfl, z⟩ := z; exact callWith_builtin1 (args_cons (ev_mono z fun _ _ y => args_nil y) st0) st0 hp) he
theorem e_bcall2 (kq : wpAny (model prog w) A (eval fe env) (fun v' s₀ => v' = .builtin id ∧ wpAny (model prog w) A (eval e₁ env) (fun v₁ s₁ => wpAny (model prog w) A (eval e₂ env) (fun v₂ s₂ => wpAny (model prog w) A (call (.builtin id) [v₁, v₂]) Q E s₂) E s₁) E s₀) E s)
    (he : eval (.Call fe [e₁, e₂] [] pos) env = (do callWith pos (← eval fe env) [] (backTo pos (starEach [e₁, e₂] env)) (backToKw pos (keywordEach [] env))) := by rfl)
    (st0 : starEach [e₁, e₂] env = (false, eval e₁ env) :: starEach [e₂] env := by rfl) (st1 : starEach [e₂] env = (false, eval e₂ env) :: starEach [] env := by rfl) (hp : (backTo pos (starEach [e₂] env)).any (·.1) = false := by rfl) :
    wpAny (model prog w) A (eval (.Call fe [e₁, e₂] [] pos) env) Q E s :=
  Call_ (ev_mono kq fun _ _ z => by obtain ⟨rfl, z⟩ := z; exact callWith_builtin1 (args_cons (ev_mono z fun _ _ y => args_cons (ev_mono y fun _ _ y => args_nil y) st1) st0) st0 hp) he
theorem e_tcall1 (kq : wpAny (model prog w) A (eval fe env) (fun v' s₀ => v' = .type T ∧ wpAny (model prog w) A (eval e₁ env) (fun v₁ s₁ => wpAny (model prog w) A (call (.type T) [v₁]) Q E s₁) E s₀) E s)
    (he : eval (.Call fe [e₁] [] pos) env = (do callWith pos (← eval fe env) [] (backTo pos (starEach [e₁] env)) (backToKw pos (keywordEach [] env))) := by rfl)
    (st0 : starEach [e₁] env = (false, eval e₁ env) :: starEach [] env := by rfl) (hp : (backTo pos (starEach [] env)).any (·.1) = false := by rfl) :
    wpAny (model prog w) A (eval (.Call fe [e₁] [] pos) env) Q E s :=
  Call_ (ev_mono kq fun _ _ z => by obtain ⟨rfl, z⟩ := z; exact PyProof.Rows.callWith_type1 (args_cons (ev_mono z fun _ _ y => args_nil y) st0) st0 hp) he

theorem k_isi_int (kq : Q (.bool true) ⟨h, gs, dr, tk, os⟩) : wpAny (model prog w) A (call (.builtin "isinstance") [.int i ti, .type "int"]) Q E ⟨h, gs, dr, tk, os⟩ := PySem.IsiPair.int_int kq
theorem k_isi_bool (kq : Q (.bool false) ⟨h, gs, dr, tk + 1, os⟩) : wpAny (model prog w) A (call (.builtin "isinstance") [.int i ti, .type "bool"]) Q E ⟨h, gs, dr, tk, os⟩ := PySem.IsiPair.int_bool kq
theorem k_abs (kq : ∀ t tk', Q (.int (if i < 0 then -i else i) t) ⟨h, gs, dr, tk', os⟩) : wpAny (model prog w) A (call (.builtin "abs") [.int i ti]) Q E ⟨h, gs, dr, tk, os⟩ := call_abs_int kq
theorem k_max (hh : A.handled = none) (kq : ∀ h' tk' t, Up h h' → Q (.int (if j > i then j else i) t) ⟨h', gs, dr, tk', os⟩) : wpAny (model prog w) A (call (.builtin "max") [.int i ti, .int j tj]) Q E ⟨h, gs, dr, tk, os⟩ :=
  max_two_ints hh fun h' tk' u => by
    by_cases c : j > i
    · rw [if_pos c]; have := kq h' tk' tj u; rw [if_pos c] at this; exact this
    · rw [if_neg c]; have := kq h' tk' ti u; rw [if_neg c] at this; exact this
theorem k_min (hh : A.handled = none) (kq : ∀ h' tk' t, Up h h' → Q (.int (if j < i then j else i) t) ⟨h', gs, dr, tk', os⟩) : wpAny (model prog w) A (call (.builtin "min") [.int i ti, .int j tj]) Q E ⟨h, gs, dr, tk, os⟩ :=
  min_two_ints hh fun h' tk' u => by
    by_cases c : j < i
    · rw [if_pos c]; have := kq h' tk' tj u; rw [if_pos c] at this; exact this
    · rw [if_neg c]; have := kq h' tk' ti u; rw [if_neg c] at this; exact this
theorem k_int_bool {b : Bool} (kq : Q (.int (if b then 1 else 0) tk) ⟨h, gs, dr, tk + 1, os⟩) : wpAny (model prog w) A (call (.type "int") [.bool b]) Q E ⟨h, gs, dr, tk, os⟩ := call_int_bool kq

theorem mul_l {a b : Int} (h1 : -(2 ^ 62) < a) (h2 : a < 2 ^ 62) : IntMulOk a b := .of_left (intBits_le_64 (by omega) (by omega))
theorem mul_r {a b : Int} (h1 : -(2 ^ 62) < b) (h2 : b < 2 ^ 62) : IntMulOk a b := .of_right (intBits_le_64 (by omega) (by omega))
/-! displays -/
theorem e_list {es : List Expr} (kq : wpAny (model prog w) A (spliced (backTo pos (starEach es env))) (fun vs s₁ => wpAny (model prog w) A (newList vs) Q E s₁) E s) : wpAny (model prog w) A (eval (.List es pos) env) Q E s := List_ kq
theorem e_tup {es : List Expr} {k : Nat} (kq : wpAny (model prog w) A (spliced (backTo pos (starEach es env))) (fun vs s₁ => wpAny (model prog w) A (newTuple vs) Q E s₁) E s) : wpAny (model prog w) A (eval (.Tuple es k pos) env) Q E s := Tuple_ kq
theorem a_nil {QL : List Value → Shared → Prop} (kq : QL [] s) : wpAny (model prog w) A (spliced (backTo pos (starEach [] env))) QL E s := args_nil kq
theorem a_cons {e : Expr} {rest : List Expr} {QL : List Value → Shared → Prop}
    (kq : wpAny (model prog w) A (eval e env) (fun v s₁ => wpAny (model prog w) A (spliced (backTo pos (starEach rest env))) (fun vs s₂ => QL (v :: vs) s₂) E s₁) E s)
    (he : starEach (e :: rest) env = (false, eval e env) :: starEach rest env := by rfl) : wpAny (model prog w) A (spliced (backTo pos (starEach (e :: rest) env))) QL E s := args_cons kq he

noncomputable abbrev tupOf (vs : List Value) : Obj := { cls := .type "tuple", data := .seq vs.toArray }
noncomputable abbrev lstOf (vs : List Value) (n : Nat) : Obj := { cls := .type "list", data := .seq vs.toArray n }
/-- what a new object is: it stands nowhere before -/
theorem up_push (h : Heap) (o : Obj) : Up h (h.push o) := fun _ _ e => Heap.get?_push_of_some _ e
theorem m_tup {vs : List Value} (F : Fr g L h m) (N : News g L h led) (kq : ∀ h' t, Fr g L h' m → News g L h' ((t, tupOf vs) :: led) → (∀ q ∈ led, q.1 < t) → Q (.ref t) ⟨h', gs, dr, tk, os⟩) (hz : vs.length ≤ 1000 := by exact Nat.le_of_ble_eq_true rfl) :
    wpAny (model prog w) A (newTuple vs) Q E ⟨h, gs, dr, tk, os⟩ := newTuple_N F N (fun h' F' N' => kq h' _ F' N' fun q hq => Heap.lt_size (N q hq).1) (Nat.le_trans hz (by decide +kernel))
theorem m_list {vs : List Value} (F : Fr g L h m) (N : News g L h led) (kq : ∀ h' t, Fr g L h' m → News g L h' ((t, lstOf vs 0) :: led) → (∀ q ∈ led, q.1 < t) → Q (.ref t) ⟨h', gs, dr, tk, os⟩) (hz : vs.length ≤ 1000 := by exact Nat.le_of_ble_eq_true rfl) :
    wpAny (model prog w) A (newList vs) Q E ⟨h, gs, dr, tk, os⟩ := newList_N F N (fun h' F' N' => kq h' _ F' N' fun q hq => Heap.lt_size (N q hq).1) (Nat.le_trans hz (by decide +kernel))

/-! items -/
theorem e_sub {value slice : Expr} (kq : wpAny (model prog w) A (eval value env) (fun o s₁ => wpAny (model prog w) A (eval slice env) (fun i s₂ => wpAny (model prog w) A (subscriptTail value slice o i) Q E s₂) E s₁) E s) :
    wpAny (model prog w) A (eval (.Subscript value slice pos) env) Q E s := Subscript_ kq
end
end Mine
/-! Facts -/
namespace Mine
theorem gl_MAX_DIMEN (P : Params) : nsIn (Mine.hd.heap_1_39 P) mainGlobals (Str.ofString "MAX_DIMEN") = some (some (.int 1073741823 280)) := by kernel_rfl
theorem gl_MAX_NUMBER (P : Params) : nsIn (Mine.hd.heap_1_39 P) mainGlobals (Str.ofString "MAX_NUMBER") = some (some (.int 2147483647 286)) := by kernel_rfl
theorem gl_INF_BAD (P : Params) : nsIn (Mine.hd.heap_1_39 P) mainGlobals (Str.ofString "INF_BAD") = some (some (.int 10000 288)) := by kernel_rfl
theorem gl_NORMAL (P : Params) : nsIn (Mine.hd.heap_1_39 P) mainGlobals (Str.ofString "NORMAL") = some (some (.int 0 290)) := by kernel_rfl
theorem gl_FIL (P : Params) : nsIn (Mine.hd.heap_1_39 P) mainGlobals (Str.ofString "FIL") = some (some (.int 1 291)) := by kernel_rfl
theorem gl_FILL (P : Params) : nsIn (Mine.hd.heap_1_39 P) mainGlobals (Str.ofString "FILL") = some (some (.int 2 292)) := by kernel_rfl
theorem gl_FILLL (P : Params) : nsIn (Mine.hd.heap_1_39 P) mainGlobals (Str.ofString "FILLL") = some (some (.int 3 293)) := by kernel_rfl
theorem gl_UNITY (P : Params) : nsIn (Mine.hd.heap_1_39 P) mainGlobals (Str.ofString "UNITY") = some (some (.int 65536 274)) := by kernel_rfl
theorem gl_CHAR (P : Params) : nsIn (Mine.hd.heap_1_39 P) mainGlobals (Str.ofString "CHAR") = some (some (.int 0 582)) := by kernel_rfl
theorem gl_LIGATURE (P : Params) : nsIn (Mine.hd.heap_1_39 P) mainGlobals (Str.ofString "LIGATURE") = some (some (.int 1 583)) := by kernel_rfl
theorem gl_HBOX (P : Params) : nsIn (Mine.hd.heap_1_39 P) mainGlobals (Str.ofString "HBOX") = some (some (.int 2 584)) := by kernel_rfl
theorem gl_VBOX (P : Params) : nsIn (Mine.hd.heap_1_39 P) mainGlobals (Str.ofString "VBOX") = some (some (.int 3 585)) := by kernel_rfl
theorem gl_RULE (P : Params) : nsIn (Mine.hd.heap_1_39 P) mainGlobals (Str.ofString "RULE") = some (some (.int 4 586)) := by kernel_rfl
theorem gl_KERN (P : Params) : nsIn (Mine.hd.heap_1_39 P) mainGlobals (Str.ofString "KERN") = some (some (.int 5 587)) := by kernel_rfl
theorem gl_GLUE (P : Params) : nsIn (Mine.hd.heap_1_39 P) mainGlobals (Str.ofString "GLUE") = some (some (.int 6 588)) := by kernel_rfl
theorem gl_PENALTY (P : Params) : nsIn (Mine.hd.heap_1_39 P) mainGlobals (Str.ofString "PENALTY") = some (some (.int 7 589)) := by kernel_rfl
theorem gl_DISC (P : Params) : nsIn (Mine.hd.heap_1_39 P) mainGlobals (Str.ofString "DISC") = some (some (.int 8 598)) := by kernel_rfl
theorem gl_MARK (P : Params) : nsIn (Mine.hd.heap_1_39 P) mainGlobals (Str.ofString "MARK") = some (some (.int 9 599)) := by kernel_rfl
theorem gl_MATH (P : Params) : nsIn (Mine.hd.heap_1_39 P) mainGlobals (Str.ofString "MATH") = some (some (.int 12 602)) := by kernel_rfl
theorem gl_UNSET (P : Params) : nsIn (Mine.hd.heap_1_39 P) mainGlobals (Str.ofString "UNSET") = some (some (.int 14 604)) := by kernel_rfl
theorem gl_NATURAL (P : Params) : nsIn (Mine.hd.heap_1_39 P) mainGlobals (Str.ofString "NATURAL") = some (some (.int 0 612)) := by kernel_rfl
theorem gl_STRETCHED (P : Params) : nsIn (Mine.hd.heap_1_39 P) mainGlobals (Str.ofString "STRETCHED") = some (some (.int 1 613)) := by kernel_rfl
theorem gl_SHRUNK (P : Params) : nsIn (Mine.hd.heap_1_39 P) mainGlobals (Str.ofString "SHRUNK") = some (some (.int 2 614)) := by kernel_rfl
theorem gl_FONT_KERN (P : Params) : nsIn (Mine.hd.heap_1_39 P) mainGlobals (Str.ofString "FONT_KERN") = some (some (.int 0 618)) := by kernel_rfl
theorem gl_MU_KERN (P : Params) : nsIn (Mine.hd.heap_1_39 P) mainGlobals (Str.ofString "MU_KERN") = some (some (.int 3 621)) := by kernel_rfl
theorem gl_PLAIN (P : Params) : nsIn (Mine.hd.heap_1_39 P) mainGlobals (Str.ofString "PLAIN") = some (some (.int 0 626)) := by kernel_rfl
theorem gl_ALEADERS (P : Params) : nsIn (Mine.hd.heap_1_39 P) mainGlobals (Str.ofString "ALEADERS") = some (some (.int 1 627)) := by kernel_rfl
theorem gl_XLEADERS (P : Params) : nsIn (Mine.hd.heap_1_39 P) mainGlobals (Str.ofString "XLEADERS") = some (some (.int 3 629)) := by kernel_rfl
theorem gl_NONSCRIPT (P : Params) : nsIn (Mine.hd.heap_1_39 P) mainGlobals (Str.ofString "NONSCRIPT") = some (some (.int 5 631)) := by kernel_rfl
theorem gl_NAMED (P : Params) : nsIn (Mine.hd.heap_1_39 P) mainGlobals (Str.ofString "NAMED") = some (some (.int 100 632)) := by kernel_rfl
theorem gl_DEEPEST (P : Params) : nsIn (Mine.hd.heap_1_39 P) mainGlobals (Str.ofString "DEEPEST") = some (some (.int 60 648)) := by kernel_rfl
theorem gl_EXACTLY (P : Params) : nsIn (Mine.hd.heap_1_39 P) mainGlobals (Str.ofString "EXACTLY") = some (some (.int 0 924)) := by kernel_rfl
theorem gl_SPREAD (P : Params) : nsIn (Mine.hd.heap_1_39 P) mainGlobals (Str.ofString "SPREAD") = some (some (.int 1 925)) := by kernel_rfl
theorem gl_FINE (P : Params) : nsIn (Mine.hd.heap_1_39 P) mainGlobals (Str.ofString "FINE") = some (some (.int 0 928)) := by kernel_rfl
theorem gl_LOOSE (P : Params) : nsIn (Mine.hd.heap_1_39 P) mainGlobals (Str.ofString "LOOSE") = some (some (.int 1 929)) := by kernel_rfl
theorem gl_TIGHT (P : Params) : nsIn (Mine.hd.heap_1_39 P) mainGlobals (Str.ofString "TIGHT") = some (some (.int 2 930)) := by kernel_rfl
theorem gl_OVERFULL (P : Params) : nsIn (Mine.hd.heap_1_39 P) mainGlobals (Str.ofString "OVERFULL") = some (some (.int 3 931)) := by kernel_rfl
theorem gl_INSERT (P : Params) : nsIn (Mine.hd.heap_1_39 P) mainGlobals (Str.ofString "INSERT") = some (some (.int 10 600)) := by kernel_rfl
theorem gl_ADJUST (P : Params) : nsIn (Mine.hd.heap_1_39 P) mainGlobals (Str.ofString "ADJUST") = some (some (.int 11 601)) := by kernel_rfl
theorem gl_SPECIAL (P : Params) : nsIn (Mine.hd.heap_1_39 P) mainGlobals (Str.ofString "SPECIAL") = some (some (.int 13 603)) := by kernel_rfl
theorem gl_is_whole (P : Params) : nsIn (Mine.hd.heap_1_39 P) mainGlobals (Str.ofString "is_whole") = some (some (.ref 89)) := by kernel_rfl
theorem gl_check_whole (P : Params) : nsIn (Mine.hd.heap_1_39 P) mainGlobals (Str.ofString "check_whole") = some (some (.ref 96)) := by kernel_rfl
theorem gl_check_number (P : Params) : nsIn (Mine.hd.heap_1_39 P) mainGlobals (Str.ofString "check_number") = some (some (.ref 103)) := by kernel_rfl
theorem gl_check_dimen (P : Params) : nsIn (Mine.hd.heap_1_39 P) mainGlobals (Str.ofString "check_dimen") = some (some (.ref 110)) := by kernel_rfl
theorem gl_rounded (P : Params) : nsIn (Mine.hd.heap_1_39 P) mainGlobals (Str.ofString "rounded") = some (some (.ref 117)) := by kernel_rfl
theorem gl_badness (P : Params) : nsIn (Mine.hd.heap_1_39 P) mainGlobals (Str.ofString "badness") = some (some (.ref 152)) := by kernel_rfl
theorem gl_top_order (P : Params) : nsIn (Mine.hd.heap_1_39 P) mainGlobals (Str.ofString "top_order") = some (some (.ref 245)) := by kernel_rfl
theorem gl_check_depth (P : Params) : nsIn (Mine.hd.heap_1_39 P) mainGlobals (Str.ofString "check_depth") = some (some (.ref 459)) := by kernel_rfl
theorem gl_described_rest (P : Params) : nsIn (Mine.hd.heap_1_39 P) mainGlobals (Str.ofString "described_rest") = some (some (.ref 471)) := by kernel_rfl
theorem gl_described (P : Params) : nsIn (Mine.hd.heap_1_39 P) mainGlobals (Str.ofString "described") = some (some (.ref 477)) := by kernel_rfl
theorem gl_described_list (P : Params) : nsIn (Mine.hd.heap_1_39 P) mainGlobals (Str.ofString "described_list") = some (some (.ref 483)) := by kernel_rfl
theorem gl_width_of (P : Params) : nsIn (Mine.hd.heap_1_39 P) mainGlobals (Str.ofString "width_of") = some (some (.ref 488)) := by kernel_rfl
theorem gl_height_of (P : Params) : nsIn (Mine.hd.heap_1_39 P) mainGlobals (Str.ofString "height_of") = some (some (.ref 493)) := by kernel_rfl
theorem gl_depth_of (P : Params) : nsIn (Mine.hd.heap_1_39 P) mainGlobals (Str.ofString "depth_of") = some (some (.ref 498)) := by kernel_rfl
theorem gl_across (P : Params) : nsIn (Mine.hd.heap_1_39 P) mainGlobals (Str.ofString "across") = some (some (.ref 527)) := by kernel_rfl
theorem gl_check_column (P : Params) : nsIn (Mine.hd.heap_1_39 P) mainGlobals (Str.ofString "check_column") = some (some (.ref 534)) := by kernel_rfl
theorem gl_natural_column (P : Params) : nsIn (Mine.hd.heap_1_39 P) mainGlobals (Str.ofString "natural_column") = some (some (.ref 541)) := by kernel_rfl
theorem gl_quotient (P : Params) : nsIn (Mine.hd.heap_1_39 P) mainGlobals (Str.ofString "quotient") = some (some (.ref 548)) := by kernel_rfl
theorem gl_set_glue (P : Params) : nsIn (Mine.hd.heap_1_39 P) mainGlobals (Str.ofString "set_glue") = some (some (.ref 555)) := by kernel_rfl
theorem gl_flex (P : Params) : nsIn (Mine.hd.heap_1_39 P) mainGlobals (Str.ofString "flex") = some (some (.ref 562)) := by kernel_rfl
theorem gl_set_part (P : Params) : nsIn (Mine.hd.heap_1_39 P) mainGlobals (Str.ofString "set_part") = some (some (.ref 569)) := by kernel_rfl
theorem gl_part_size (P : Params) : nsIn (Mine.hd.heap_1_39 P) mainGlobals (Str.ofString "part_size") = some (some (.ref 576)) := by kernel_rfl
theorem gl_places (P : Params) : nsIn (Mine.hd.heap_1_39 P) mainGlobals (Str.ofString "places") = some (some (.ref 583)) := by kernel_rfl
theorem gl_goal_size (P : Params) : nsIn (Mine.hd.heap_1_39 P) mainGlobals (Str.ofString "goal_size") = some (some (.ref 590)) := by kernel_rfl
theorem gl_set_box (P : Params) : nsIn (Mine.hd.heap_1_39 P) mainGlobals (Str.ofString "set_box") = some (some (.ref 597)) := by kernel_rfl
theorem gl_vpack (P : Params) : nsIn (Mine.hd.heap_1_39 P) mainGlobals (Str.ofString "vpack") = some (some (.ref 605)) := by kernel_rfl
theorem gl_law_heap (P : Params) : nsIn (Mine.hd.heap_1_39 P) mainGlobals (Str.ofString "_law_heap") = some (some (.ref 612)) := by kernel_rfl
theorem gl_law_take (P : Params) : nsIn (Mine.hd.heap_1_39 P) mainGlobals (Str.ofString "_law_take") = some (some (.ref 619)) := by kernel_rfl
theorem gl_law_size (P : Params) : nsIn (Mine.hd.heap_1_39 P) mainGlobals (Str.ofString "_law_size") = some (some (.ref 626)) := by kernel_rfl
theorem gl_law_part (P : Params) : nsIn (Mine.hd.heap_1_39 P) mainGlobals (Str.ofString "_law_part") = some (some (.ref 633)) := by kernel_rfl
theorem gl_law_whole (P : Params) : nsIn (Mine.hd.heap_1_39 P) mainGlobals (Str.ofString "_law_whole") = some (some (.ref 638)) := by kernel_rfl
theorem gl_law_told (P : Params) : nsIn (Mine.hd.heap_1_39 P) mainGlobals (Str.ofString "_law_told") = some (some (.ref 645)) := by kernel_rfl
theorem gl_law_run (P : Params) : nsIn (Mine.hd.heap_1_39 P) mainGlobals (Str.ofString "_law_run") = some (some (.ref 652)) := by kernel_rfl
theorem gl_law_grouped (P : Params) : nsIn (Mine.hd.heap_1_39 P) mainGlobals (Str.ofString "_law_grouped") = some (some (.ref 657)) := by kernel_rfl
theorem gl_Glue (P : Params) : nsIn (Mine.hd.heap_1_39 P) mainGlobals (Str.ofString "Glue") = some (some (.ref 234)) := by kernel_rfl
theorem gl_Totals (P : Params) : nsIn (Mine.hd.heap_1_39 P) mainGlobals (Str.ofString "Totals") = some (some (.ref 297)) := by kernel_rfl
theorem gl_Box (P : Params) : nsIn (Mine.hd.heap_1_39 P) mainGlobals (Str.ofString "Box") = some (some (.ref 342)) := by kernel_rfl
theorem gl_Rule (P : Params) : nsIn (Mine.hd.heap_1_39 P) mainGlobals (Str.ofString "Rule") = some (some (.ref 363)) := by kernel_rfl
theorem gl_Kern (P : Params) : nsIn (Mine.hd.heap_1_39 P) mainGlobals (Str.ofString "Kern") = some (some (.ref 384)) := by kernel_rfl
theorem gl_Skip (P : Params) : nsIn (Mine.hd.heap_1_39 P) mainGlobals (Str.ofString "Skip") = some (some (.ref 406)) := by kernel_rfl
theorem gl_Penalty (P : Params) : nsIn (Mine.hd.heap_1_39 P) mainGlobals (Str.ofString "Penalty") = some (some (.ref 427)) := by kernel_rfl
theorem gl_Mark (P : Params) : nsIn (Mine.hd.heap_1_39 P) mainGlobals (Str.ofString "Mark") = some (some (.ref 448)) := by kernel_rfl
theorem gl_isinstance (P : Params) : nsIn (Mine.hd.heap_1_39 P) mainGlobals (Str.ofString "isinstance") = some none := by kernel_rfl
theorem gl_int (P : Params) : nsIn (Mine.hd.heap_1_39 P) mainGlobals (Str.ofString "int") = some none := by kernel_rfl
theorem gl_bool (P : Params) : nsIn (Mine.hd.heap_1_39 P) mainGlobals (Str.ofString "bool") = some none := by kernel_rfl
theorem gl_abs (P : Params) : nsIn (Mine.hd.heap_1_39 P) mainGlobals (Str.ofString "abs") = some none := by kernel_rfl
theorem gl_max (P : Params) : nsIn (Mine.hd.heap_1_39 P) mainGlobals (Str.ofString "max") = some none := by kernel_rfl
theorem gl_min (P : Params) : nsIn (Mine.hd.heap_1_39 P) mainGlobals (Str.ofString "min") = some none := by kernel_rfl
theorem gl_sum (P : Params) : nsIn (Mine.hd.heap_1_39 P) mainGlobals (Str.ofString "sum") = some none := by kernel_rfl
theorem gl_tuple (P : Params) : nsIn (Mine.hd.heap_1_39 P) mainGlobals (Str.ofString "tuple") = some none := by kernel_rfl
theorem gl_list (P : Params) : nsIn (Mine.hd.heap_1_39 P) mainGlobals (Str.ofString "list") = some none := by kernel_rfl
theorem gl_len (P : Params) : nsIn (Mine.hd.heap_1_39 P) mainGlobals (Str.ofString "len") = some none := by kernel_rfl
theorem gl_range (P : Params) : nsIn (Mine.hd.heap_1_39 P) mainGlobals (Str.ofString "range") = some none := by kernel_rfl
theorem kp_is_whole (P : Params) : keepIn (Mine.hd.heap_1_39 P) (.ref 89) = true := by kernel_rfl
theorem kp_check_whole (P : Params) : keepIn (Mine.hd.heap_1_39 P) (.ref 96) = true := by kernel_rfl
theorem kp_check_number (P : Params) : keepIn (Mine.hd.heap_1_39 P) (.ref 103) = true := by kernel_rfl
theorem kp_check_dimen (P : Params) : keepIn (Mine.hd.heap_1_39 P) (.ref 110) = true := by kernel_rfl
theorem kp_rounded (P : Params) : keepIn (Mine.hd.heap_1_39 P) (.ref 117) = true := by kernel_rfl
theorem kp_badness (P : Params) : keepIn (Mine.hd.heap_1_39 P) (.ref 152) = true := by kernel_rfl
theorem kp_top_order (P : Params) : keepIn (Mine.hd.heap_1_39 P) (.ref 245) = true := by kernel_rfl
theorem kp_check_depth (P : Params) : keepIn (Mine.hd.heap_1_39 P) (.ref 459) = true := by kernel_rfl
theorem kp_described_rest (P : Params) : keepIn (Mine.hd.heap_1_39 P) (.ref 471) = true := by kernel_rfl
theorem kp_described (P : Params) : keepIn (Mine.hd.heap_1_39 P) (.ref 477) = true := by kernel_rfl
theorem kp_described_list (P : Params) : keepIn (Mine.hd.heap_1_39 P) (.ref 483) = true := by kernel_rfl
theorem kp_width_of (P : Params) : keepIn (Mine.hd.heap_1_39 P) (.ref 488) = true := by kernel_rfl
theorem kp_height_of (P : Params) : keepIn (Mine.hd.heap_1_39 P) (.ref 493) = true := by kernel_rfl
theorem kp_depth_of (P : Params) : keepIn (Mine.hd.heap_1_39 P) (.ref 498) = true := by kernel_rfl
theorem kp_across (P : Params) : keepIn (Mine.hd.heap_1_39 P) (.ref 527) = true := by kernel_rfl
theorem kp_check_column (P : Params) : keepIn (Mine.hd.heap_1_39 P) (.ref 534) = true := by kernel_rfl
theorem kp_natural_column (P : Params) : keepIn (Mine.hd.heap_1_39 P) (.ref 541) = true := by kernel_rfl
theorem kp_quotient (P : Params) : keepIn (Mine.hd.heap_1_39 P) (.ref 548) = true := by kernel_rfl
theorem kp_set_glue (P : Params) : keepIn (Mine.hd.heap_1_39 P) (.ref 555) = true := by kernel_rfl
theorem kp_flex (P : Params) : keepIn (Mine.hd.heap_1_39 P) (.ref 562) = true := by kernel_rfl
theorem kp_set_part (P : Params) : keepIn (Mine.hd.heap_1_39 P) (.ref 569) = true := by kernel_rfl
theorem kp_part_size (P : Params) : keepIn (Mine.hd.heap_1_39 P) (.ref 576) = true := by kernel_rfl
theorem kp_places (P : Params) : keepIn (Mine.hd.heap_1_39 P) (.ref 583) = true := by kernel_rfl
theorem kp_goal_size (P : Params) : keepIn (Mine.hd.heap_1_39 P) (.ref 590) = true := by kernel_rfl
theorem kp_set_box (P : Params) : keepIn (Mine.hd.heap_1_39 P) (.ref 597) = true := by kernel_rfl
theorem kp_vpack (P : Params) : keepIn (Mine.hd.heap_1_39 P) (.ref 605) = true := by kernel_rfl
theorem kp_law_heap (P : Params) : keepIn (Mine.hd.heap_1_39 P) (.ref 612) = true := by kernel_rfl
theorem kp_law_take (P : Params) : keepIn (Mine.hd.heap_1_39 P) (.ref 619) = true := by kernel_rfl
theorem kp_law_size (P : Params) : keepIn (Mine.hd.heap_1_39 P) (.ref 626) = true := by kernel_rfl
theorem kp_law_part (P : Params) : keepIn (Mine.hd.heap_1_39 P) (.ref 633) = true := by kernel_rfl
theorem kp_law_whole (P : Params) : keepIn (Mine.hd.heap_1_39 P) (.ref 638) = true := by kernel_rfl
theorem kp_law_told (P : Params) : keepIn (Mine.hd.heap_1_39 P) (.ref 645) = true := by kernel_rfl
theorem kp_law_run (P : Params) : keepIn (Mine.hd.heap_1_39 P) (.ref 652) = true := by kernel_rfl
theorem kp_law_grouped (P : Params) : keepIn (Mine.hd.heap_1_39 P) (.ref 657) = true := by kernel_rfl
theorem kp_Glue (P : Params) : keepIn (Mine.hd.heap_1_39 P) (.ref 234) = true := by kernel_rfl
theorem kp_Totals (P : Params) : keepIn (Mine.hd.heap_1_39 P) (.ref 297) = true := by kernel_rfl
theorem kp_Box (P : Params) : keepIn (Mine.hd.heap_1_39 P) (.ref 342) = true := by kernel_rfl
theorem kp_Rule (P : Params) : keepIn (Mine.hd.heap_1_39 P) (.ref 363) = true := by kernel_rfl
theorem kp_Kern (P : Params) : keepIn (Mine.hd.heap_1_39 P) (.ref 384) = true := by kernel_rfl
theorem kp_Skip (P : Params) : keepIn (Mine.hd.heap_1_39 P) (.ref 406) = true := by kernel_rfl
theorem kp_Penalty (P : Params) : keepIn (Mine.hd.heap_1_39 P) (.ref 427) = true := by kernel_rfl
theorem kp_Mark (P : Params) : keepIn (Mine.hd.heap_1_39 P) (.ref 448) = true := by kernel_rfl
section
variable {prog : Program} {w : World} {A : Around} {E : Value → Shared → Prop} {h g : Heap} {gs : Array GenState} {dr : Drawn} {tk : Nat} {os : OsState} {L a : Addr} {m : Str → Option Value}
  {cn : Str} {cs : Scope} {ccd : Value} {cl : List (Str × Addr)} {p : Program} {loose : List Str} {mg mb : Str → Option Value} {Q : Value → Shared → Prop} {pos : Pos}
theorem n_MAX_DIMEN (F : Fr g L h m) (G : Gd w p loose mg mb g) (kq : Q (.int 1073741823 280) ⟨h, gs, dr, tk, os⟩)
    (hk : cs.kind = .function) (hx : (envX cn cs L a ccd cl).kindOf (Str.ofString "MAX_DIMEN") = some .globalImplicit) : wpAny (model prog w) A (eval (.Name (Str.ofString "MAX_DIMEN") pos) (envX cn cs L a ccd cl)) Q E ⟨h, gs, dr, tk, os⟩ := e_glob F G (gl_MAX_DIMEN _) kq hk hx (by decide)
theorem n_MAX_NUMBER (F : Fr g L h m) (G : Gd w p loose mg mb g) (kq : Q (.int 2147483647 286) ⟨h, gs, dr, tk, os⟩)
    (hk : cs.kind = .function) (hx : (envX cn cs L a ccd cl).kindOf (Str.ofString "MAX_NUMBER") = some .globalImplicit) : wpAny (model prog w) A (eval (.Name (Str.ofString "MAX_NUMBER") pos) (envX cn cs L a ccd cl)) Q E ⟨h, gs, dr, tk, os⟩ := e_glob F G (gl_MAX_NUMBER _) kq hk hx (by decide)
theorem n_INF_BAD (F : Fr g L h m) (G : Gd w p loose mg mb g) (kq : Q (.int 10000 288) ⟨h, gs, dr, tk, os⟩)
    (hk : cs.kind = .function) (hx : (envX cn cs L a ccd cl).kindOf (Str.ofString "INF_BAD") = some .globalImplicit) : wpAny (model prog w) A (eval (.Name (Str.ofString "INF_BAD") pos) (envX cn cs L a ccd cl)) Q E ⟨h, gs, dr, tk, os⟩ := e_glob F G (gl_INF_BAD _) kq hk hx (by decide)
theorem n_NORMAL (F : Fr g L h m) (G : Gd w p loose mg mb g) (kq : Q (.int 0 290) ⟨h, gs, dr, tk, os⟩)
    (hk : cs.kind = .function) (hx : (envX cn cs L a ccd cl).kindOf (Str.ofString "NORMAL") = some .globalImplicit) : wpAny (model prog w) A (eval (.Name (Str.ofString "NORMAL") pos) (envX cn cs L a ccd cl)) Q E ⟨h, gs, dr, tk, os⟩ := e_glob F G (gl_NORMAL _) kq hk hx (by decide)
theorem n_FIL (F : Fr g L h m) (G : Gd w p loose mg mb g) (kq : Q (.int 1 291) ⟨h, gs, dr, tk, os⟩)
    (hk : cs.kind = .function) (hx : (envX cn cs L a ccd cl).kindOf (Str.ofString "FIL") = some .globalImplicit) : wpAny (model prog w) A (eval (.Name (Str.ofString "FIL") pos) (envX cn cs L a ccd cl)) Q E ⟨h, gs, dr, tk, os⟩ := e_glob F G (gl_FIL _) kq hk hx (by decide)
theorem n_FILL (F : Fr g L h m) (G : Gd w p loose mg mb g) (kq : Q (.int 2 292) ⟨h, gs, dr, tk, os⟩)
    (hk : cs.kind = .function) (hx : (envX cn cs L a ccd cl).kindOf (Str.ofString "FILL") = some .globalImplicit) : wpAny (model prog w) A (eval (.Name (Str.ofString "FILL") pos) (envX cn cs L a ccd cl)) Q E ⟨h, gs, dr, tk, os⟩ := e_glob F G (gl_FILL _) kq hk hx (by decide)
theorem n_FILLL (F : Fr g L h m) (G : Gd w p loose mg mb g) (kq : Q (.int 3 293) ⟨h, gs, dr, tk, os⟩)
    (hk : cs.kind = .function) (hx : (envX cn cs L a ccd cl).kindOf (Str.ofString "FILLL") = some .globalImplicit) : wpAny (model prog w) A (eval (.Name (Str.ofString "FILLL") pos) (envX cn cs L a ccd cl)) Q E ⟨h, gs, dr, tk, os⟩ := e_glob F G (gl_FILLL _) kq hk hx (by decide)
theorem n_UNITY (F : Fr g L h m) (G : Gd w p loose mg mb g) (kq : Q (.int 65536 274) ⟨h, gs, dr, tk, os⟩)
    (hk : cs.kind = .function) (hx : (envX cn cs L a ccd cl).kindOf (Str.ofString "UNITY") = some .globalImplicit) : wpAny (model prog w) A (eval (.Name (Str.ofString "UNITY") pos) (envX cn cs L a ccd cl)) Q E ⟨h, gs, dr, tk, os⟩ := e_glob F G (gl_UNITY _) kq hk hx (by decide)
theorem n_CHAR (F : Fr g L h m) (G : Gd w p loose mg mb g) (kq : Q (.int 0 582) ⟨h, gs, dr, tk, os⟩)
    (hk : cs.kind = .function) (hx : (envX cn cs L a ccd cl).kindOf (Str.ofString "CHAR") = some .globalImplicit) : wpAny (model prog w) A (eval (.Name (Str.ofString "CHAR") pos) (envX cn cs L a ccd cl)) Q E ⟨h, gs, dr, tk, os⟩ := e_glob F G (gl_CHAR _) kq hk hx (by decide)
theorem n_LIGATURE (F : Fr g L h m) (G : Gd w p loose mg mb g) (kq : Q (.int 1 583) ⟨h, gs, dr, tk, os⟩)
    (hk : cs.kind = .function) (hx : (envX cn cs L a ccd cl).kindOf (Str.ofString "LIGATURE") = some .globalImplicit) : wpAny (model prog w) A (eval (.Name (Str.ofString "LIGATURE") pos) (envX cn cs L a ccd cl)) Q E ⟨h, gs, dr, tk, os⟩ := e_glob F G (gl_LIGATURE _) kq hk hx (by decide)
theorem n_HBOX (F : Fr g L h m) (G : Gd w p loose mg mb g) (kq : Q (.int 2 584) ⟨h, gs, dr, tk, os⟩)
    (hk : cs.kind = .function) (hx : (envX cn cs L a ccd cl).kindOf (Str.ofString "HBOX") = some .globalImplicit) : wpAny (model prog w) A (eval (.Name (Str.ofString "HBOX") pos) (envX cn cs L a ccd cl)) Q E ⟨h, gs, dr, tk, os⟩ := e_glob F G (gl_HBOX _) kq hk hx (by decide)
theorem n_VBOX (F : Fr g L h m) (G : Gd w p loose mg mb g) (kq : Q (.int 3 585) ⟨h, gs, dr, tk, os⟩)
    (hk : cs.kind = .function) (hx : (envX cn cs L a ccd cl).kindOf (Str.ofString "VBOX") = some .globalImplicit) : wpAny (model prog w) A (eval (.Name (Str.ofString "VBOX") pos) (envX cn cs L a ccd cl)) Q E ⟨h, gs, dr, tk, os⟩ := e_glob F G (gl_VBOX _) kq hk hx (by decide)
theorem n_RULE (F : Fr g L h m) (G : Gd w p loose mg mb g) (kq : Q (.int 4 586) ⟨h, gs, dr, tk, os⟩)
    (hk : cs.kind = .function) (hx : (envX cn cs L a ccd cl).kindOf (Str.ofString "RULE") = some .globalImplicit) : wpAny (model prog w) A (eval (.Name (Str.ofString "RULE") pos) (envX cn cs L a ccd cl)) Q E ⟨h, gs, dr, tk, os⟩ := e_glob F G (gl_RULE _) kq hk hx (by decide)
theorem n_KERN (F : Fr g L h m) (G : Gd w p loose mg mb g) (kq : Q (.int 5 587) ⟨h, gs, dr, tk, os⟩)
    (hk : cs.kind = .function) (hx : (envX cn cs L a ccd cl).kindOf (Str.ofString "KERN") = some .globalImplicit) : wpAny (model prog w) A (eval (.Name (Str.ofString "KERN") pos) (envX cn cs L a ccd cl)) Q E ⟨h, gs, dr, tk, os⟩ := e_glob F G (gl_KERN _) kq hk hx (by decide)
theorem n_GLUE (F : Fr g L h m) (G : Gd w p loose mg mb g) (kq : Q (.int 6 588) ⟨h, gs, dr, tk, os⟩)
    (hk : cs.kind = .function) (hx : (envX cn cs L a ccd cl).kindOf (Str.ofString "GLUE") = some .globalImplicit) : wpAny (model prog w) A (eval (.Name (Str.ofString "GLUE") pos) (envX cn cs L a ccd cl)) Q E ⟨h, gs, dr, tk, os⟩ := e_glob F G (gl_GLUE _) kq hk hx (by decide)
theorem n_PENALTY (F : Fr g L h m) (G : Gd w p loose mg mb g) (kq : Q (.int 7 589) ⟨h, gs, dr, tk, os⟩)
    (hk : cs.kind = .function) (hx : (envX cn cs L a ccd cl).kindOf (Str.ofString "PENALTY") = some .globalImplicit) : wpAny (model prog w) A (eval (.Name (Str.ofString "PENALTY") pos) (envX cn cs L a ccd cl)) Q E ⟨h, gs, dr, tk, os⟩ := e_glob F G (gl_PENALTY _) kq hk hx (by decide)
theorem n_DISC (F : Fr g L h m) (G : Gd w p loose mg mb g) (kq : Q (.int 8 598) ⟨h, gs, dr, tk, os⟩)
    (hk : cs.kind = .function) (hx : (envX cn cs L a ccd cl).kindOf (Str.ofString "DISC") = some .globalImplicit) : wpAny (model prog w) A (eval (.Name (Str.ofString "DISC") pos) (envX cn cs L a ccd cl)) Q E ⟨h, gs, dr, tk, os⟩ := e_glob F G (gl_DISC _) kq hk hx (by decide)
theorem n_MARK (F : Fr g L h m) (G : Gd w p loose mg mb g) (kq : Q (.int 9 599) ⟨h, gs, dr, tk, os⟩)
    (hk : cs.kind = .function) (hx : (envX cn cs L a ccd cl).kindOf (Str.ofString "MARK") = some .globalImplicit) : wpAny (model prog w) A (eval (.Name (Str.ofString "MARK") pos) (envX cn cs L a ccd cl)) Q E ⟨h, gs, dr, tk, os⟩ := e_glob F G (gl_MARK _) kq hk hx (by decide)
theorem n_MATH (F : Fr g L h m) (G : Gd w p loose mg mb g) (kq : Q (.int 12 602) ⟨h, gs, dr, tk, os⟩)
    (hk : cs.kind = .function) (hx : (envX cn cs L a ccd cl).kindOf (Str.ofString "MATH") = some .globalImplicit) : wpAny (model prog w) A (eval (.Name (Str.ofString "MATH") pos) (envX cn cs L a ccd cl)) Q E ⟨h, gs, dr, tk, os⟩ := e_glob F G (gl_MATH _) kq hk hx (by decide)
theorem n_UNSET (F : Fr g L h m) (G : Gd w p loose mg mb g) (kq : Q (.int 14 604) ⟨h, gs, dr, tk, os⟩)
    (hk : cs.kind = .function) (hx : (envX cn cs L a ccd cl).kindOf (Str.ofString "UNSET") = some .globalImplicit) : wpAny (model prog w) A (eval (.Name (Str.ofString "UNSET") pos) (envX cn cs L a ccd cl)) Q E ⟨h, gs, dr, tk, os⟩ := e_glob F G (gl_UNSET _) kq hk hx (by decide)
theorem n_NATURAL (F : Fr g L h m) (G : Gd w p loose mg mb g) (kq : Q (.int 0 612) ⟨h, gs, dr, tk, os⟩)
    (hk : cs.kind = .function) (hx : (envX cn cs L a ccd cl).kindOf (Str.ofString "NATURAL") = some .globalImplicit) : wpAny (model prog w) A (eval (.Name (Str.ofString "NATURAL") pos) (envX cn cs L a ccd cl)) Q E ⟨h, gs, dr, tk, os⟩ := e_glob F G (gl_NATURAL _) kq hk hx (by decide)
theorem n_STRETCHED (F : Fr g L h m) (G : Gd w p loose mg mb g) (kq : Q (.int 1 613) ⟨h, gs, dr, tk, os⟩)
    (hk : cs.kind = .function) (hx : (envX cn cs L a ccd cl).kindOf (Str.ofString "STRETCHED") = some .globalImplicit) : wpAny (model prog w) A (eval (.Name (Str.ofString "STRETCHED") pos) (envX cn cs L a ccd cl)) Q E ⟨h, gs, dr, tk, os⟩ := e_glob F G (gl_STRETCHED _) kq hk hx (by decide)
theorem n_SHRUNK (F : Fr g L h m) (G : Gd w p loose mg mb g) (kq : Q (.int 2 614) ⟨h, gs, dr, tk, os⟩)
    (hk : cs.kind = .function) (hx : (envX cn cs L a ccd cl).kindOf (Str.ofString "SHRUNK") = some .globalImplicit) : wpAny (model prog w) A (eval (.Name (Str.ofString "SHRUNK") pos) (envX cn cs L a ccd cl)) Q E ⟨h, gs, dr, tk, os⟩ := e_glob F G (gl_SHRUNK _) kq hk hx (by decide)
theorem n_FONT_KERN (F : Fr g L h m) (G : Gd w p loose mg mb g) (kq : Q (.int 0 618) ⟨h, gs, dr, tk, os⟩)
    (hk : cs.kind = .function) (hx : (envX cn cs L a ccd cl).kindOf (Str.ofString "FONT_KERN") = some .globalImplicit) : wpAny (model prog w) A (eval (.Name (Str.ofString "FONT_KERN") pos) (envX cn cs L a ccd cl)) Q E ⟨h, gs, dr, tk, os⟩ := e_glob F G (gl_FONT_KERN _) kq hk hx (by decide)
theorem n_MU_KERN (F : Fr g L h m) (G : Gd w p loose mg mb g) (kq : Q (.int 3 621) ⟨h, gs, dr, tk, os⟩)
    (hk : cs.kind = .function) (hx : (envX cn cs L a ccd cl).kindOf (Str.ofString "MU_KERN") = some .globalImplicit) : wpAny (model prog w) A (eval (.Name (Str.ofString "MU_KERN") pos) (envX cn cs L a ccd cl)) Q E ⟨h, gs, dr, tk, os⟩ := e_glob F G (gl_MU_KERN _) kq hk hx (by decide)
theorem n_PLAIN (F : Fr g L h m) (G : Gd w p loose mg mb g) (kq : Q (.int 0 626) ⟨h, gs, dr, tk, os⟩)
    (hk : cs.kind = .function) (hx : (envX cn cs L a ccd cl).kindOf (Str.ofString "PLAIN") = some .globalImplicit) : wpAny (model prog w) A (eval (.Name (Str.ofString "PLAIN") pos) (envX cn cs L a ccd cl)) Q E ⟨h, gs, dr, tk, os⟩ := e_glob F G (gl_PLAIN _) kq hk hx (by decide)
theorem n_ALEADERS (F : Fr g L h m) (G : Gd w p loose mg mb g) (kq : Q (.int 1 627) ⟨h, gs, dr, tk, os⟩)
    (hk : cs.kind = .function) (hx : (envX cn cs L a ccd cl).kindOf (Str.ofString "ALEADERS") = some .globalImplicit) : wpAny (model prog w) A (eval (.Name (Str.ofString "ALEADERS") pos) (envX cn cs L a ccd cl)) Q E ⟨h, gs, dr, tk, os⟩ := e_glob F G (gl_ALEADERS _) kq hk hx (by decide)
theorem n_XLEADERS (F : Fr g L h m) (G : Gd w p loose mg mb g) (kq : Q (.int 3 629) ⟨h, gs, dr, tk, os⟩)
    (hk : cs.kind = .function) (hx : (envX cn cs L a ccd cl).kindOf (Str.ofString "XLEADERS") = some .globalImplicit) : wpAny (model prog w) A (eval (.Name (Str.ofString "XLEADERS") pos) (envX cn cs L a ccd cl)) Q E ⟨h, gs, dr, tk, os⟩ := e_glob F G (gl_XLEADERS _) kq hk hx (by decide)
theorem n_NONSCRIPT (F : Fr g L h m) (G : Gd w p loose mg mb g) (kq : Q (.int 5 631) ⟨h, gs, dr, tk, os⟩)
    (hk : cs.kind = .function) (hx : (envX cn cs L a ccd cl).kindOf (Str.ofString "NONSCRIPT") = some .globalImplicit) : wpAny (model prog w) A (eval (.Name (Str.ofString "NONSCRIPT") pos) (envX cn cs L a ccd cl)) Q E ⟨h, gs, dr, tk, os⟩ := e_glob F G (gl_NONSCRIPT _) kq hk hx (by decide)
theorem n_NAMED (F : Fr g L h m) (G : Gd w p loose mg mb g) (kq : Q (.int 100 632) ⟨h, gs, dr, tk, os⟩)
    (hk : cs.kind = .function) (hx : (envX cn cs L a ccd cl).kindOf (Str.ofString "NAMED") = some .globalImplicit) : wpAny (model prog w) A (eval (.Name (Str.ofString "NAMED") pos) (envX cn cs L a ccd cl)) Q E ⟨h, gs, dr, tk, os⟩ := e_glob F G (gl_NAMED _) kq hk hx (by decide)
theorem n_DEEPEST (F : Fr g L h m) (G : Gd w p loose mg mb g) (kq : Q (.int 60 648) ⟨h, gs, dr, tk, os⟩)
    (hk : cs.kind = .function) (hx : (envX cn cs L a ccd cl).kindOf (Str.ofString "DEEPEST") = some .globalImplicit) : wpAny (model prog w) A (eval (.Name (Str.ofString "DEEPEST") pos) (envX cn cs L a ccd cl)) Q E ⟨h, gs, dr, tk, os⟩ := e_glob F G (gl_DEEPEST _) kq hk hx (by decide)
theorem n_EXACTLY (F : Fr g L h m) (G : Gd w p loose mg mb g) (kq : Q (.int 0 924) ⟨h, gs, dr, tk, os⟩)
    (hk : cs.kind = .function) (hx : (envX cn cs L a ccd cl).kindOf (Str.ofString "EXACTLY") = some .globalImplicit) : wpAny (model prog w) A (eval (.Name (Str.ofString "EXACTLY") pos) (envX cn cs L a ccd cl)) Q E ⟨h, gs, dr, tk, os⟩ := e_glob F G (gl_EXACTLY _) kq hk hx (by decide)
theorem n_SPREAD (F : Fr g L h m) (G : Gd w p loose mg mb g) (kq : Q (.int 1 925) ⟨h, gs, dr, tk, os⟩)
    (hk : cs.kind = .function) (hx : (envX cn cs L a ccd cl).kindOf (Str.ofString "SPREAD") = some .globalImplicit) : wpAny (model prog w) A (eval (.Name (Str.ofString "SPREAD") pos) (envX cn cs L a ccd cl)) Q E ⟨h, gs, dr, tk, os⟩ := e_glob F G (gl_SPREAD _) kq hk hx (by decide)
theorem n_FINE (F : Fr g L h m) (G : Gd w p loose mg mb g) (kq : Q (.int 0 928) ⟨h, gs, dr, tk, os⟩)
    (hk : cs.kind = .function) (hx : (envX cn cs L a ccd cl).kindOf (Str.ofString "FINE") = some .globalImplicit) : wpAny (model prog w) A (eval (.Name (Str.ofString "FINE") pos) (envX cn cs L a ccd cl)) Q E ⟨h, gs, dr, tk, os⟩ := e_glob F G (gl_FINE _) kq hk hx (by decide)
theorem n_LOOSE (F : Fr g L h m) (G : Gd w p loose mg mb g) (kq : Q (.int 1 929) ⟨h, gs, dr, tk, os⟩)
    (hk : cs.kind = .function) (hx : (envX cn cs L a ccd cl).kindOf (Str.ofString "LOOSE") = some .globalImplicit) : wpAny (model prog w) A (eval (.Name (Str.ofString "LOOSE") pos) (envX cn cs L a ccd cl)) Q E ⟨h, gs, dr, tk, os⟩ := e_glob F G (gl_LOOSE _) kq hk hx (by decide)
theorem n_TIGHT (F : Fr g L h m) (G : Gd w p loose mg mb g) (kq : Q (.int 2 930) ⟨h, gs, dr, tk, os⟩)
    (hk : cs.kind = .function) (hx : (envX cn cs L a ccd cl).kindOf (Str.ofString "TIGHT") = some .globalImplicit) : wpAny (model prog w) A (eval (.Name (Str.ofString "TIGHT") pos) (envX cn cs L a ccd cl)) Q E ⟨h, gs, dr, tk, os⟩ := e_glob F G (gl_TIGHT _) kq hk hx (by decide)
theorem n_OVERFULL (F : Fr g L h m) (G : Gd w p loose mg mb g) (kq : Q (.int 3 931) ⟨h, gs, dr, tk, os⟩)
    (hk : cs.kind = .function) (hx : (envX cn cs L a ccd cl).kindOf (Str.ofString "OVERFULL") = some .globalImplicit) : wpAny (model prog w) A (eval (.Name (Str.ofString "OVERFULL") pos) (envX cn cs L a ccd cl)) Q E ⟨h, gs, dr, tk, os⟩ := e_glob F G (gl_OVERFULL _) kq hk hx (by decide)
theorem n_INSERT (F : Fr g L h m) (G : Gd w p loose mg mb g) (kq : Q (.int 10 600) ⟨h, gs, dr, tk, os⟩)
    (hk : cs.kind = .function) (hx : (envX cn cs L a ccd cl).kindOf (Str.ofString "INSERT") = some .globalImplicit) : wpAny (model prog w) A (eval (.Name (Str.ofString "INSERT") pos) (envX cn cs L a ccd cl)) Q E ⟨h, gs, dr, tk, os⟩ := e_glob F G (gl_INSERT _) kq hk hx (by decide)
theorem n_ADJUST (F : Fr g L h m) (G : Gd w p loose mg mb g) (kq : Q (.int 11 601) ⟨h, gs, dr, tk, os⟩)
    (hk : cs.kind = .function) (hx : (envX cn cs L a ccd cl).kindOf (Str.ofString "ADJUST") = some .globalImplicit) : wpAny (model prog w) A (eval (.Name (Str.ofString "ADJUST") pos) (envX cn cs L a ccd cl)) Q E ⟨h, gs, dr, tk, os⟩ := e_glob F G (gl_ADJUST _) kq hk hx (by decide)
theorem n_SPECIAL (F : Fr g L h m) (G : Gd w p loose mg mb g) (kq : Q (.int 13 603) ⟨h, gs, dr, tk, os⟩)
    (hk : cs.kind = .function) (hx : (envX cn cs L a ccd cl).kindOf (Str.ofString "SPECIAL") = some .globalImplicit) : wpAny (model prog w) A (eval (.Name (Str.ofString "SPECIAL") pos) (envX cn cs L a ccd cl)) Q E ⟨h, gs, dr, tk, os⟩ := e_glob F G (gl_SPECIAL _) kq hk hx (by decide)
theorem n_is_whole (F : Fr g L h m) (G : Gd w p loose mg mb g) (kq : Q (.ref 89) ⟨h, gs, dr, tk, os⟩)
    (hk : cs.kind = .function) (hx : (envX cn cs L a ccd cl).kindOf (Str.ofString "is_whole") = some .globalImplicit) : wpAny (model prog w) A (eval (.Name (Str.ofString "is_whole") pos) (envX cn cs L a ccd cl)) Q E ⟨h, gs, dr, tk, os⟩ := e_glob F G (gl_is_whole _) kq hk hx (by decide)
theorem n_check_whole (F : Fr g L h m) (G : Gd w p loose mg mb g) (kq : Q (.ref 96) ⟨h, gs, dr, tk, os⟩)
    (hk : cs.kind = .function) (hx : (envX cn cs L a ccd cl).kindOf (Str.ofString "check_whole") = some .globalImplicit) : wpAny (model prog w) A (eval (.Name (Str.ofString "check_whole") pos) (envX cn cs L a ccd cl)) Q E ⟨h, gs, dr, tk, os⟩ := e_glob F G (gl_check_whole _) kq hk hx (by decide)
theorem n_check_number (F : Fr g L h m) (G : Gd w p loose mg mb g) (kq : Q (.ref 103) ⟨h, gs, dr, tk, os⟩)
    (hk : cs.kind = .function) (hx : (envX cn cs L a ccd cl).kindOf (Str.ofString "check_number") = some .globalImplicit) : wpAny (model prog w) A (eval (.Name (Str.ofString "check_number") pos) (envX cn cs L a ccd cl)) Q E ⟨h, gs, dr, tk, os⟩ := e_glob F G (gl_check_number _) kq hk hx (by decide)
theorem n_check_dimen (F : Fr g L h m) (G : Gd w p loose mg mb g) (kq : Q (.ref 110) ⟨h, gs, dr, tk, os⟩)
    (hk : cs.kind = .function) (hx : (envX cn cs L a ccd cl).kindOf (Str.ofString "check_dimen") = some .globalImplicit) : wpAny (model prog w) A (eval (.Name (Str.ofString "check_dimen") pos) (envX cn cs L a ccd cl)) Q E ⟨h, gs, dr, tk, os⟩ := e_glob F G (gl_check_dimen _) kq hk hx (by decide)
theorem n_rounded (F : Fr g L h m) (G : Gd w p loose mg mb g) (kq : Q (.ref 117) ⟨h, gs, dr, tk, os⟩)
    (hk : cs.kind = .function) (hx : (envX cn cs L a ccd cl).kindOf (Str.ofString "rounded") = some .globalImplicit) : wpAny (model prog w) A (eval (.Name (Str.ofString "rounded") pos) (envX cn cs L a ccd cl)) Q E ⟨h, gs, dr, tk, os⟩ := e_glob F G (gl_rounded _) kq hk hx (by decide)
theorem n_badness (F : Fr g L h m) (G : Gd w p loose mg mb g) (kq : Q (.ref 152) ⟨h, gs, dr, tk, os⟩)
    (hk : cs.kind = .function) (hx : (envX cn cs L a ccd cl).kindOf (Str.ofString "badness") = some .globalImplicit) : wpAny (model prog w) A (eval (.Name (Str.ofString "badness") pos) (envX cn cs L a ccd cl)) Q E ⟨h, gs, dr, tk, os⟩ := e_glob F G (gl_badness _) kq hk hx (by decide)
theorem n_top_order (F : Fr g L h m) (G : Gd w p loose mg mb g) (kq : Q (.ref 245) ⟨h, gs, dr, tk, os⟩)
    (hk : cs.kind = .function) (hx : (envX cn cs L a ccd cl).kindOf (Str.ofString "top_order") = some .globalImplicit) : wpAny (model prog w) A (eval (.Name (Str.ofString "top_order") pos) (envX cn cs L a ccd cl)) Q E ⟨h, gs, dr, tk, os⟩ := e_glob F G (gl_top_order _) kq hk hx (by decide)
theorem n_check_depth (F : Fr g L h m) (G : Gd w p loose mg mb g) (kq : Q (.ref 459) ⟨h, gs, dr, tk, os⟩)
    (hk : cs.kind = .function) (hx : (envX cn cs L a ccd cl).kindOf (Str.ofString "check_depth") = some .globalImplicit) : wpAny (model prog w) A (eval (.Name (Str.ofString "check_depth") pos) (envX cn cs L a ccd cl)) Q E ⟨h, gs, dr, tk, os⟩ := e_glob F G (gl_check_depth _) kq hk hx (by decide)
theorem n_described_rest (F : Fr g L h m) (G : Gd w p loose mg mb g) (kq : Q (.ref 471) ⟨h, gs, dr, tk, os⟩)
    (hk : cs.kind = .function) (hx : (envX cn cs L a ccd cl).kindOf (Str.ofString "described_rest") = some .globalImplicit) : wpAny (model prog w) A (eval (.Name (Str.ofString "described_rest") pos) (envX cn cs L a ccd cl)) Q E ⟨h, gs, dr, tk, os⟩ := e_glob F G (gl_described_rest _) kq hk hx (by decide)
theorem n_described (F : Fr g L h m) (G : Gd w p loose mg mb g) (kq : Q (.ref 477) ⟨h, gs, dr, tk, os⟩)
    (hk : cs.kind = .function) (hx : (envX cn cs L a ccd cl).kindOf (Str.ofString "described") = some .globalImplicit) : wpAny (model prog w) A (eval (.Name (Str.ofString "described") pos) (envX cn cs L a ccd cl)) Q E ⟨h, gs, dr, tk, os⟩ := e_glob F G (gl_described _) kq hk hx (by decide)
theorem n_described_list (F : Fr g L h m) (G : Gd w p loose mg mb g) (kq : Q (.ref 483) ⟨h, gs, dr, tk, os⟩)
    (hk : cs.kind = .function) (hx : (envX cn cs L a ccd cl).kindOf (Str.ofString "described_list") = some .globalImplicit) : wpAny (model prog w) A (eval (.Name (Str.ofString "described_list") pos) (envX cn cs L a ccd cl)) Q E ⟨h, gs, dr, tk, os⟩ := e_glob F G (gl_described_list _) kq hk hx (by decide)
theorem n_width_of (F : Fr g L h m) (G : Gd w p loose mg mb g) (kq : Q (.ref 488) ⟨h, gs, dr, tk, os⟩)
    (hk : cs.kind = .function) (hx : (envX cn cs L a ccd cl).kindOf (Str.ofString "width_of") = some .globalImplicit) : wpAny (model prog w) A (eval (.Name (Str.ofString "width_of") pos) (envX cn cs L a ccd cl)) Q E ⟨h, gs, dr, tk, os⟩ := e_glob F G (gl_width_of _) kq hk hx (by decide)
theorem n_height_of (F : Fr g L h m) (G : Gd w p loose mg mb g) (kq : Q (.ref 493) ⟨h, gs, dr, tk, os⟩)
    (hk : cs.kind = .function) (hx : (envX cn cs L a ccd cl).kindOf (Str.ofString "height_of") = some .globalImplicit) : wpAny (model prog w) A (eval (.Name (Str.ofString "height_of") pos) (envX cn cs L a ccd cl)) Q E ⟨h, gs, dr, tk, os⟩ := e_glob F G (gl_height_of _) kq hk hx (by decide)
theorem n_depth_of (F : Fr g L h m) (G : Gd w p loose mg mb g) (kq : Q (.ref 498) ⟨h, gs, dr, tk, os⟩)
    (hk : cs.kind = .function) (hx : (envX cn cs L a ccd cl).kindOf (Str.ofString "depth_of") = some .globalImplicit) : wpAny (model prog w) A (eval (.Name (Str.ofString "depth_of") pos) (envX cn cs L a ccd cl)) Q E ⟨h, gs, dr, tk, os⟩ := e_glob F G (gl_depth_of _) kq hk hx (by decide)
theorem n_across (F : Fr g L h m) (G : Gd w p loose mg mb g) (kq : Q (.ref 527) ⟨h, gs, dr, tk, os⟩)
    (hk : cs.kind = .function) (hx : (envX cn cs L a ccd cl).kindOf (Str.ofString "across") = some .globalImplicit) : wpAny (model prog w) A (eval (.Name (Str.ofString "across") pos) (envX cn cs L a ccd cl)) Q E ⟨h, gs, dr, tk, os⟩ := e_glob F G (gl_across _) kq hk hx (by decide)
theorem n_check_column (F : Fr g L h m) (G : Gd w p loose mg mb g) (kq : Q (.ref 534) ⟨h, gs, dr, tk, os⟩)
    (hk : cs.kind = .function) (hx : (envX cn cs L a ccd cl).kindOf (Str.ofString "check_column") = some .globalImplicit) : wpAny (model prog w) A (eval (.Name (Str.ofString "check_column") pos) (envX cn cs L a ccd cl)) Q E ⟨h, gs, dr, tk, os⟩ := e_glob F G (gl_check_column _) kq hk hx (by decide)
theorem n_natural_column (F : Fr g L h m) (G : Gd w p loose mg mb g) (kq : Q (.ref 541) ⟨h, gs, dr, tk, os⟩)
    (hk : cs.kind = .function) (hx : (envX cn cs L a ccd cl).kindOf (Str.ofString "natural_column") = some .globalImplicit) : wpAny (model prog w) A (eval (.Name (Str.ofString "natural_column") pos) (envX cn cs L a ccd cl)) Q E ⟨h, gs, dr, tk, os⟩ := e_glob F G (gl_natural_column _) kq hk hx (by decide)
theorem n_quotient (F : Fr g L h m) (G : Gd w p loose mg mb g) (kq : Q (.ref 548) ⟨h, gs, dr, tk, os⟩)
    (hk : cs.kind = .function) (hx : (envX cn cs L a ccd cl).kindOf (Str.ofString "quotient") = some .globalImplicit) : wpAny (model prog w) A (eval (.Name (Str.ofString "quotient") pos) (envX cn cs L a ccd cl)) Q E ⟨h, gs, dr, tk, os⟩ := e_glob F G (gl_quotient _) kq hk hx (by decide)
theorem n_set_glue (F : Fr g L h m) (G : Gd w p loose mg mb g) (kq : Q (.ref 555) ⟨h, gs, dr, tk, os⟩)
    (hk : cs.kind = .function) (hx : (envX cn cs L a ccd cl).kindOf (Str.ofString "set_glue") = some .globalImplicit) : wpAny (model prog w) A (eval (.Name (Str.ofString "set_glue") pos) (envX cn cs L a ccd cl)) Q E ⟨h, gs, dr, tk, os⟩ := e_glob F G (gl_set_glue _) kq hk hx (by decide)
theorem n_flex (F : Fr g L h m) (G : Gd w p loose mg mb g) (kq : Q (.ref 562) ⟨h, gs, dr, tk, os⟩)
    (hk : cs.kind = .function) (hx : (envX cn cs L a ccd cl).kindOf (Str.ofString "flex") = some .globalImplicit) : wpAny (model prog w) A (eval (.Name (Str.ofString "flex") pos) (envX cn cs L a ccd cl)) Q E ⟨h, gs, dr, tk, os⟩ := e_glob F G (gl_flex _) kq hk hx (by decide)
theorem n_set_part (F : Fr g L h m) (G : Gd w p loose mg mb g) (kq : Q (.ref 569) ⟨h, gs, dr, tk, os⟩)
    (hk : cs.kind = .function) (hx : (envX cn cs L a ccd cl).kindOf (Str.ofString "set_part") = some .globalImplicit) : wpAny (model prog w) A (eval (.Name (Str.ofString "set_part") pos) (envX cn cs L a ccd cl)) Q E ⟨h, gs, dr, tk, os⟩ := e_glob F G (gl_set_part _) kq hk hx (by decide)
theorem n_part_size (F : Fr g L h m) (G : Gd w p loose mg mb g) (kq : Q (.ref 576) ⟨h, gs, dr, tk, os⟩)
    (hk : cs.kind = .function) (hx : (envX cn cs L a ccd cl).kindOf (Str.ofString "part_size") = some .globalImplicit) : wpAny (model prog w) A (eval (.Name (Str.ofString "part_size") pos) (envX cn cs L a ccd cl)) Q E ⟨h, gs, dr, tk, os⟩ := e_glob F G (gl_part_size _) kq hk hx (by decide)
theorem n_places (F : Fr g L h m) (G : Gd w p loose mg mb g) (kq : Q (.ref 583) ⟨h, gs, dr, tk, os⟩)
    (hk : cs.kind = .function) (hx : (envX cn cs L a ccd cl).kindOf (Str.ofString "places") = some .globalImplicit) : wpAny (model prog w) A (eval (.Name (Str.ofString "places") pos) (envX cn cs L a ccd cl)) Q E ⟨h, gs, dr, tk, os⟩ := e_glob F G (gl_places _) kq hk hx (by decide)
theorem n_goal_size (F : Fr g L h m) (G : Gd w p loose mg mb g) (kq : Q (.ref 590) ⟨h, gs, dr, tk, os⟩)
    (hk : cs.kind = .function) (hx : (envX cn cs L a ccd cl).kindOf (Str.ofString "goal_size") = some .globalImplicit) : wpAny (model prog w) A (eval (.Name (Str.ofString "goal_size") pos) (envX cn cs L a ccd cl)) Q E ⟨h, gs, dr, tk, os⟩ := e_glob F G (gl_goal_size _) kq hk hx (by decide)
theorem n_set_box (F : Fr g L h m) (G : Gd w p loose mg mb g) (kq : Q (.ref 597) ⟨h, gs, dr, tk, os⟩)
    (hk : cs.kind = .function) (hx : (envX cn cs L a ccd cl).kindOf (Str.ofString "set_box") = some .globalImplicit) : wpAny (model prog w) A (eval (.Name (Str.ofString "set_box") pos) (envX cn cs L a ccd cl)) Q E ⟨h, gs, dr, tk, os⟩ := e_glob F G (gl_set_box _) kq hk hx (by decide)
theorem n_vpack (F : Fr g L h m) (G : Gd w p loose mg mb g) (kq : Q (.ref 605) ⟨h, gs, dr, tk, os⟩)
    (hk : cs.kind = .function) (hx : (envX cn cs L a ccd cl).kindOf (Str.ofString "vpack") = some .globalImplicit) : wpAny (model prog w) A (eval (.Name (Str.ofString "vpack") pos) (envX cn cs L a ccd cl)) Q E ⟨h, gs, dr, tk, os⟩ := e_glob F G (gl_vpack _) kq hk hx (by decide)
theorem n_law_heap (F : Fr g L h m) (G : Gd w p loose mg mb g) (kq : Q (.ref 612) ⟨h, gs, dr, tk, os⟩)
    (hk : cs.kind = .function) (hx : (envX cn cs L a ccd cl).kindOf (Str.ofString "_law_heap") = some .globalImplicit) : wpAny (model prog w) A (eval (.Name (Str.ofString "_law_heap") pos) (envX cn cs L a ccd cl)) Q E ⟨h, gs, dr, tk, os⟩ := e_glob F G (gl_law_heap _) kq hk hx (by decide)
theorem n_law_take (F : Fr g L h m) (G : Gd w p loose mg mb g) (kq : Q (.ref 619) ⟨h, gs, dr, tk, os⟩)
    (hk : cs.kind = .function) (hx : (envX cn cs L a ccd cl).kindOf (Str.ofString "_law_take") = some .globalImplicit) : wpAny (model prog w) A (eval (.Name (Str.ofString "_law_take") pos) (envX cn cs L a ccd cl)) Q E ⟨h, gs, dr, tk, os⟩ := e_glob F G (gl_law_take _) kq hk hx (by decide)
theorem n_law_size (F : Fr g L h m) (G : Gd w p loose mg mb g) (kq : Q (.ref 626) ⟨h, gs, dr, tk, os⟩)
    (hk : cs.kind = .function) (hx : (envX cn cs L a ccd cl).kindOf (Str.ofString "_law_size") = some .globalImplicit) : wpAny (model prog w) A (eval (.Name (Str.ofString "_law_size") pos) (envX cn cs L a ccd cl)) Q E ⟨h, gs, dr, tk, os⟩ := e_glob F G (gl_law_size _) kq hk hx (by decide)
theorem n_law_part (F : Fr g L h m) (G : Gd w p loose mg mb g) (kq : Q (.ref 633) ⟨h, gs, dr, tk, os⟩)
    (hk : cs.kind = .function) (hx : (envX cn cs L a ccd cl).kindOf (Str.ofString "_law_part") = some .globalImplicit) : wpAny (model prog w) A (eval (.Name (Str.ofString "_law_part") pos) (envX cn cs L a ccd cl)) Q E ⟨h, gs, dr, tk, os⟩ := e_glob F G (gl_law_part _) kq hk hx (by decide)
theorem n_law_whole (F : Fr g L h m) (G : Gd w p loose mg mb g) (kq : Q (.ref 638) ⟨h, gs, dr, tk, os⟩)
    (hk : cs.kind = .function) (hx : (envX cn cs L a ccd cl).kindOf (Str.ofString "_law_whole") = some .globalImplicit) : wpAny (model prog w) A (eval (.Name (Str.ofString "_law_whole") pos) (envX cn cs L a ccd cl)) Q E ⟨h, gs, dr, tk, os⟩ := e_glob F G (gl_law_whole _) kq hk hx (by decide)
theorem n_law_told (F : Fr g L h m) (G : Gd w p loose mg mb g) (kq : Q (.ref 645) ⟨h, gs, dr, tk, os⟩)
    (hk : cs.kind = .function) (hx : (envX cn cs L a ccd cl).kindOf (Str.ofString "_law_told") = some .globalImplicit) : wpAny (model prog w) A (eval (.Name (Str.ofString "_law_told") pos) (envX cn cs L a ccd cl)) Q E ⟨h, gs, dr, tk, os⟩ := e_glob F G (gl_law_told _) kq hk hx (by decide)
theorem n_law_run (F : Fr g L h m) (G : Gd w p loose mg mb g) (kq : Q (.ref 652) ⟨h, gs, dr, tk, os⟩)
    (hk : cs.kind = .function) (hx : (envX cn cs L a ccd cl).kindOf (Str.ofString "_law_run") = some .globalImplicit) : wpAny (model prog w) A (eval (.Name (Str.ofString "_law_run") pos) (envX cn cs L a ccd cl)) Q E ⟨h, gs, dr, tk, os⟩ := e_glob F G (gl_law_run _) kq hk hx (by decide)
theorem n_law_grouped (F : Fr g L h m) (G : Gd w p loose mg mb g) (kq : Q (.ref 657) ⟨h, gs, dr, tk, os⟩)
    (hk : cs.kind = .function) (hx : (envX cn cs L a ccd cl).kindOf (Str.ofString "_law_grouped") = some .globalImplicit) : wpAny (model prog w) A (eval (.Name (Str.ofString "_law_grouped") pos) (envX cn cs L a ccd cl)) Q E ⟨h, gs, dr, tk, os⟩ := e_glob F G (gl_law_grouped _) kq hk hx (by decide)
theorem n_Glue (F : Fr g L h m) (G : Gd w p loose mg mb g) (kq : Q (.ref 234) ⟨h, gs, dr, tk, os⟩)
    (hk : cs.kind = .function) (hx : (envX cn cs L a ccd cl).kindOf (Str.ofString "Glue") = some .globalImplicit) : wpAny (model prog w) A (eval (.Name (Str.ofString "Glue") pos) (envX cn cs L a ccd cl)) Q E ⟨h, gs, dr, tk, os⟩ := e_glob F G (gl_Glue _) kq hk hx (by decide)
theorem n_Totals (F : Fr g L h m) (G : Gd w p loose mg mb g) (kq : Q (.ref 297) ⟨h, gs, dr, tk, os⟩)
    (hk : cs.kind = .function) (hx : (envX cn cs L a ccd cl).kindOf (Str.ofString "Totals") = some .globalImplicit) : wpAny (model prog w) A (eval (.Name (Str.ofString "Totals") pos) (envX cn cs L a ccd cl)) Q E ⟨h, gs, dr, tk, os⟩ := e_glob F G (gl_Totals _) kq hk hx (by decide)
theorem n_Box (F : Fr g L h m) (G : Gd w p loose mg mb g) (kq : Q (.ref 342) ⟨h, gs, dr, tk, os⟩)
    (hk : cs.kind = .function) (hx : (envX cn cs L a ccd cl).kindOf (Str.ofString "Box") = some .globalImplicit) : wpAny (model prog w) A (eval (.Name (Str.ofString "Box") pos) (envX cn cs L a ccd cl)) Q E ⟨h, gs, dr, tk, os⟩ := e_glob F G (gl_Box _) kq hk hx (by decide)
theorem n_Rule (F : Fr g L h m) (G : Gd w p loose mg mb g) (kq : Q (.ref 363) ⟨h, gs, dr, tk, os⟩)
    (hk : cs.kind = .function) (hx : (envX cn cs L a ccd cl).kindOf (Str.ofString "Rule") = some .globalImplicit) : wpAny (model prog w) A (eval (.Name (Str.ofString "Rule") pos) (envX cn cs L a ccd cl)) Q E ⟨h, gs, dr, tk, os⟩ := e_glob F G (gl_Rule _) kq hk hx (by decide)
theorem n_Kern (F : Fr g L h m) (G : Gd w p loose mg mb g) (kq : Q (.ref 384) ⟨h, gs, dr, tk, os⟩)
    (hk : cs.kind = .function) (hx : (envX cn cs L a ccd cl).kindOf (Str.ofString "Kern") = some .globalImplicit) : wpAny (model prog w) A (eval (.Name (Str.ofString "Kern") pos) (envX cn cs L a ccd cl)) Q E ⟨h, gs, dr, tk, os⟩ := e_glob F G (gl_Kern _) kq hk hx (by decide)
theorem n_Skip (F : Fr g L h m) (G : Gd w p loose mg mb g) (kq : Q (.ref 406) ⟨h, gs, dr, tk, os⟩)
    (hk : cs.kind = .function) (hx : (envX cn cs L a ccd cl).kindOf (Str.ofString "Skip") = some .globalImplicit) : wpAny (model prog w) A (eval (.Name (Str.ofString "Skip") pos) (envX cn cs L a ccd cl)) Q E ⟨h, gs, dr, tk, os⟩ := e_glob F G (gl_Skip _) kq hk hx (by decide)
theorem n_Penalty (F : Fr g L h m) (G : Gd w p loose mg mb g) (kq : Q (.ref 427) ⟨h, gs, dr, tk, os⟩)
    (hk : cs.kind = .function) (hx : (envX cn cs L a ccd cl).kindOf (Str.ofString "Penalty") = some .globalImplicit) : wpAny (model prog w) A (eval (.Name (Str.ofString "Penalty") pos) (envX cn cs L a ccd cl)) Q E ⟨h, gs, dr, tk, os⟩ := e_glob F G (gl_Penalty _) kq hk hx (by decide)
theorem n_Mark (F : Fr g L h m) (G : Gd w p loose mg mb g) (kq : Q (.ref 448) ⟨h, gs, dr, tk, os⟩)
    (hk : cs.kind = .function) (hx : (envX cn cs L a ccd cl).kindOf (Str.ofString "Mark") = some .globalImplicit) : wpAny (model prog w) A (eval (.Name (Str.ofString "Mark") pos) (envX cn cs L a ccd cl)) Q E ⟨h, gs, dr, tk, os⟩ := e_glob F G (gl_Mark _) kq hk hx (by decide)
theorem n_isinstance (F : Fr g L h m) (G : Gd w p loose mg mb g) (kq : Q (.builtin "isinstance") ⟨h, gs, dr, tk, os⟩)
    (hk : cs.kind = .function) (hx : (envX cn cs L a ccd cl).kindOf (Str.ofString "isinstance") = some .globalImplicit) : wpAny (model prog w) A (eval (.Name (Str.ofString "isinstance") pos) (envX cn cs L a ccd cl)) Q E ⟨h, gs, dr, tk, os⟩ := e_blt F G (gl_isinstance _) (by boot_fast) (by decide) kq hk hx (by decide)
theorem n_int (F : Fr g L h m) (G : Gd w p loose mg mb g) (kq : Q (.type "int") ⟨h, gs, dr, tk, os⟩)
    (hk : cs.kind = .function) (hx : (envX cn cs L a ccd cl).kindOf (Str.ofString "int") = some .globalImplicit) : wpAny (model prog w) A (eval (.Name (Str.ofString "int") pos) (envX cn cs L a ccd cl)) Q E ⟨h, gs, dr, tk, os⟩ := e_blt F G (gl_int _) (by boot_fast) (by decide) kq hk hx (by decide)
theorem n_bool (F : Fr g L h m) (G : Gd w p loose mg mb g) (kq : Q (.type "bool") ⟨h, gs, dr, tk, os⟩)
    (hk : cs.kind = .function) (hx : (envX cn cs L a ccd cl).kindOf (Str.ofString "bool") = some .globalImplicit) : wpAny (model prog w) A (eval (.Name (Str.ofString "bool") pos) (envX cn cs L a ccd cl)) Q E ⟨h, gs, dr, tk, os⟩ := e_blt F G (gl_bool _) (by boot_fast) (by decide) kq hk hx (by decide)
theorem n_abs (F : Fr g L h m) (G : Gd w p loose mg mb g) (kq : Q (.builtin "abs") ⟨h, gs, dr, tk, os⟩)
    (hk : cs.kind = .function) (hx : (envX cn cs L a ccd cl).kindOf (Str.ofString "abs") = some .globalImplicit) : wpAny (model prog w) A (eval (.Name (Str.ofString "abs") pos) (envX cn cs L a ccd cl)) Q E ⟨h, gs, dr, tk, os⟩ := e_blt F G (gl_abs _) (by boot_fast) (by decide) kq hk hx (by decide)
theorem n_max (F : Fr g L h m) (G : Gd w p loose mg mb g) (kq : Q (.builtin "max") ⟨h, gs, dr, tk, os⟩)
    (hk : cs.kind = .function) (hx : (envX cn cs L a ccd cl).kindOf (Str.ofString "max") = some .globalImplicit) : wpAny (model prog w) A (eval (.Name (Str.ofString "max") pos) (envX cn cs L a ccd cl)) Q E ⟨h, gs, dr, tk, os⟩ := e_blt F G (gl_max _) (by boot_fast) (by decide) kq hk hx (by decide)
theorem n_min (F : Fr g L h m) (G : Gd w p loose mg mb g) (kq : Q (.builtin "min") ⟨h, gs, dr, tk, os⟩)
    (hk : cs.kind = .function) (hx : (envX cn cs L a ccd cl).kindOf (Str.ofString "min") = some .globalImplicit) : wpAny (model prog w) A (eval (.Name (Str.ofString "min") pos) (envX cn cs L a ccd cl)) Q E ⟨h, gs, dr, tk, os⟩ := e_blt F G (gl_min _) (by boot_fast) (by decide) kq hk hx (by decide)
theorem n_sum (F : Fr g L h m) (G : Gd w p loose mg mb g) (kq : Q (.builtin "sum") ⟨h, gs, dr, tk, os⟩)
    (hk : cs.kind = .function) (hx : (envX cn cs L a ccd cl).kindOf (Str.ofString "sum") = some .globalImplicit) : wpAny (model prog w) A (eval (.Name (Str.ofString "sum") pos) (envX cn cs L a ccd cl)) Q E ⟨h, gs, dr, tk, os⟩ := e_blt F G (gl_sum _) (by boot_fast) (by decide) kq hk hx (by decide)
theorem n_tuple (F : Fr g L h m) (G : Gd w p loose mg mb g) (kq : Q (.type "tuple") ⟨h, gs, dr, tk, os⟩)
    (hk : cs.kind = .function) (hx : (envX cn cs L a ccd cl).kindOf (Str.ofString "tuple") = some .globalImplicit) : wpAny (model prog w) A (eval (.Name (Str.ofString "tuple") pos) (envX cn cs L a ccd cl)) Q E ⟨h, gs, dr, tk, os⟩ := e_blt F G (gl_tuple _) (by boot_fast) (by decide) kq hk hx (by decide)
theorem n_list (F : Fr g L h m) (G : Gd w p loose mg mb g) (kq : Q (.type "list") ⟨h, gs, dr, tk, os⟩)
    (hk : cs.kind = .function) (hx : (envX cn cs L a ccd cl).kindOf (Str.ofString "list") = some .globalImplicit) : wpAny (model prog w) A (eval (.Name (Str.ofString "list") pos) (envX cn cs L a ccd cl)) Q E ⟨h, gs, dr, tk, os⟩ := e_blt F G (gl_list _) (by boot_fast) (by decide) kq hk hx (by decide)
theorem n_len (F : Fr g L h m) (G : Gd w p loose mg mb g) (kq : Q (.builtin "len") ⟨h, gs, dr, tk, os⟩)
    (hk : cs.kind = .function) (hx : (envX cn cs L a ccd cl).kindOf (Str.ofString "len") = some .globalImplicit) : wpAny (model prog w) A (eval (.Name (Str.ofString "len") pos) (envX cn cs L a ccd cl)) Q E ⟨h, gs, dr, tk, os⟩ := e_blt F G (gl_len _) (by boot_fast) (by decide) kq hk hx (by decide)
theorem n_range (F : Fr g L h m) (G : Gd w p loose mg mb g) (kq : Q (.type "range") ⟨h, gs, dr, tk, os⟩)
    (hk : cs.kind = .function) (hx : (envX cn cs L a ccd cl).kindOf (Str.ofString "range") = some .globalImplicit) : wpAny (model prog w) A (eval (.Name (Str.ofString "range") pos) (envX cn cs L a ccd cl)) Q E ⟨h, gs, dr, tk, os⟩ := e_blt F G (gl_range _) (by boot_fast) (by decide) kq hk hx (by decide)
end
end Mine
/-! Base5 -/
namespace Mine
section
variable {prog : Program} {w : World} {A : Around} {E : Value → Shared → Prop} {s : Shared} {h g : Heap} {gs : Array GenState} {dr : Drawn} {tk : Nat} {os : OsState} {L a : Addr} {m : Str → Option Value}
  {cn : Str} {cs : Scope} {ccd : Value} {cl : List (Str × Addr)} {led pre post : List (Addr × Obj)} {env : Env} {p : Program} {loose : List Str} {mg mb : Str → Option Value} {Q : Value → Shared → Prop} {x : Str} {QU : Unit → Shared → Prop}

/-- an object's dict object: these attributes in this order -/
noncomputable def IsD (P : Params) (o : Obj) (fs : List (Str × Value)) : Prop := ∃ ts n, fs.length = ts.length ∧ o = dictOf (ents P fs ts) n
theorem isD_nil (P : Params) : IsD P (dictOf [] 0) [] := ⟨[], 0, rfl, rfl⟩
noncomputable def putF (x : Str) (v : Value) : List (Str × Value) → List (Str × Value)
  | [] => [(x, v)]
  | (y, u) :: r => if y == x then (y, v) :: r else (y, u) :: putF x v r
theorem putL_ents {P : Params} {x : Str} {v : Value} {t : Tok} : ∀ {fs : List (Str × Value)} {ts : List Tok}, fs.length = ts.length →
    ∃ ts', (putF x v fs).length = ts'.length ∧ putL x (PyData.keyHash P x) (.str x t) v (ents P fs ts) = ents P (putF x v fs) ts' ∧ (putF x v fs).length ≤ fs.length + 1
  | [], [], _ => ⟨[t], rfl, rfl, Nat.le_refl _⟩
  | (y, u) :: r, t' :: ts, e => by
    obtain ⟨ts', h1, h2, h3⟩ := putL_ents (P := P) (x := x) (v := v) (t := t) (fs := r) (ts := ts) (by simpa using e)
    by_cases q : (y == x) = true
    · have a1 : putF x v ((y, u) :: r) = (y, v) :: r := if_pos q
      have a2 : putL x (PyData.keyHash P x) (.str x t) v (ents P ((y, u) :: r) (t' :: ts)) = ents P ((y, v) :: r) (t' :: ts) := if_pos (c := (Value.str y t').isStr x = true) q
      rw [a1, a2]
      exact ⟨t' :: ts, by simpa using e, rfl, by simp⟩
    · have a1 : putF x v ((y, u) :: r) = (y, u) :: putF x v r := if_neg q
      have a2 : putL x (PyData.keyHash P x) (.str x t) v (ents P ((y, u) :: r) (t' :: ts)) = ⟨PyData.keyHash P y, .str y t', u⟩ :: putL x (PyData.keyHash P x) (.str x t) v (ents P r ts) := if_neg (c := (Value.str y t').isStr x = true) q
      rw [a1, a2, h2]
      exact ⟨t' :: ts', by simp [h1], rfl, by simpa using h3⟩
theorem Inst.of {P : Params} {C dx : Addr} {o : Obj} {fs : List (Str × Value)} (hx : h.get? a = some (instObj C dx)) (hO : IsD P o fs) (hd : h.get? dx = some o) : Inst P h a C fs := by
  obtain ⟨ts, n, e, rfl⟩ := hO
  exact ⟨dx, ts, n, e, hx, hd⟩

noncomputable def setOk (K : Frag) (C : Addr) (x : Str) : Bool := findIn K (.ref C) "__setattr__" == some (some (.builtin "object.__setattr__")) && plainOver K C && takerIn K C x == some none && hasDictIn K C
theorem s_attr {C xa dx : Addr} {o : Obj} {fs : List (Str × Value)} {v : Value} (hc : setOk (Mine.hd.heap_1_39 w.params) C x = true) (F : Fr g L h m) (N : News g L h (pre ++ (dx, o) :: post)) (G : Gd w p loose mg mb g)
    (hx : h.get? xa = some (instObj C dx)) (hO : IsD w.params o fs) (h1 : ∀ q ∈ pre, q.1 ≠ dx) (h2 : ∀ q ∈ post, q.1 ≠ dx) (hz : fs.length ≤ 100)
    (kq : ∀ h' o', Fr g L h' m → News g L h' (pre ++ (dx, o') :: post) → IsD w.params o' (putF x v fs) → QU () ⟨h', gs, dr, tk + 2, os⟩) :
    wpAny (model prog w) A (setAttr (.ref xa) x v) QU E ⟨h, gs, dr, tk, os⟩ := by
  unfold setOk at hc
  simp only [Bool.and_eq_true, beq_iff_eq] at hc
  obtain ⟨⟨⟨c1, c2⟩, c3⟩, c4⟩ := hc
  obtain ⟨ts, n, e, rfl⟩ := hO
  have hdx := (N (dx, dictOf (ents w.params fs ts) n) (by simp)).1
  have I : InstAt h xa (instObj C dx) C (some (dictOf (ents w.params fs ts) n)) := ⟨hx, rfl, rfl, hdx⟩
  obtain ⟨ts', e1, e2, e3⟩ := putL_ents (P := w.params) (x := x) (v := v) (t := tk + 1) e
  have el : ∀ (fs : List (Str × Value)) (ts : List Tok), fs.length = ts.length → (ents w.params fs ts).length = fs.length := by
    intro fs
    induction fs with
    | nil => intro ts _; cases ts <;> rfl
    | cons p r ih => intro ts he; cases ts with
      | nil => cases he
      | cons t ts => obtain ⟨y, u⟩ := p; simp only [ents, List.length_cons]; rw [ih ts (by simpa using he)]
  refine set_plain (s := ⟨h, gs, dr, tk, os⟩) (G.x.keeps F.keep) I c1 (osa_dict (s := ⟨h, gs, dr, tk + 1, os⟩) F N (G.x.keeps F.keep) I rfl c2 c3 c4 (by rw [lookIn_dict, getL_ents e]; rfl) h1 h2 (by rw [putName_dict, e2]) rfl (by rw [el _ _ e1]; omega) fun h' F' N' => kq h' _ F' N' ⟨ts', _, e1, rfl⟩)

theorem Rm.make {n : Nat} (R : Rm (n + 1) A) (C : Addr) (rest : List Value) (kw : List (Str × Value)) : Rm n (A.under (.builtin "type.__call__" ⟨.ref C :: rest, kw⟩)) := by
  have hd := R.hd; have hp := R.dp; have hu := R.un
  refine ⟨hd, ?_, ?_⟩
  · show A.depth + (Code.builtin "type.__call__" ⟨.ref C :: rest, kw⟩).weight + 2 * n < _
    have : (Code.builtin "type.__call__" ⟨.ref C :: rest, kw⟩).weight ≤ 2 := by
      rw [show (Code.builtin "type.__call__" ⟨.ref C :: rest, kw⟩).weight = 1 from by kernel_rfl]; decide
    omega
  · show A.units + (Code.builtin "type.__call__" ⟨.ref C :: rest, kw⟩).cUnits + 8 * n < _
    have : (Code.builtin "type.__call__" ⟨.ref C :: rest, kw⟩).cUnits ≤ 8 := by
      rw [show (Code.builtin "type.__call__" ⟨.ref C :: rest, kw⟩).cUnits = 1 from by kernel_rfl]; decide
    omega

/-- an object made: into the text's own __init__ -/
theorem call_mk {n : Nat} {C fI : Addr} {vals : List Value} {oc : Value} {od an : Option Addr} {osl : Array (Option Value)} {name qual : Str} {params : Arguments} {body : List Stmt} {scope : Scope} {dV kV doc pm cdv ct : Value} {binds : Addr → List (Str × Value)}
    (R : Rm (n + 2) A) (G : Gd w p loose mg mb h) (hm : makesIn (Mine.hd.heap_1_39 w.params) C = true) (hi : findIn (Mine.hd.heap_1_39 w.params) (.ref C) "__init__" = some (some (.ref fI))) (hf : typeIn (Mine.hd.heap_1_39 w.params) (.ref fI) = some (.type "function"))
    (ho : (Mine.hd.heap_1_39 w.params).lookup fI = some ⟨oc, od, .func (fnOf name qual params body scope dV kV doc pm an cdv ct), osl⟩) (hcd : codeIn (Mine.hd.heap_1_39 w.params) cdv qual = true)
    (hb : ∀ xa h₁, Gd w p loose mg mb h₁ → BindsTo ⟨h₁, gs, dr, tk, os⟩ (fnOf name qual params body scope dV kV doc pm an cdv ct) ⟨.ref xa :: vals, []⟩ (binds xa))
    (hloc : ∀ xa, ((binds xa).all fun x => decide (scope.names.lookup x.1 = some .local)) = true)
    (k : ∀ A' g L h₁ tk₁ xa dx, Rm n A' → Fr g L h₁ (lo (binds xa).reverse fun _ => none) → News g L h₁ [(dx, dictOf [] 0)] → Gd w p loose mg mb g → Up h g → g.get? xa = some (instObj C dx) → h.get? xa = none → h.get? dx = none → xa ≠ dx →
      wpAny (model prog w) A' (execs body (envX qual scope L fI cdv [])) (RetQ fun v s' => v = .none ∧ Q (.ref xa) s') (fun _ _ => False) ⟨h₁, gs, dr, tk₁, os⟩)
    (hco : scope.isCoroutine = false := by rfl) (hgen : scope.isGenerator = false := by rfl) (hk : scope.kind = .function := by rfl) (hcell : ∀ x ∈ scope.names, x.2 ≠ .cell := by decide) :
    wpAny (model prog w) A (call (.ref C) vals) Q E ⟨h, gs, dr, tk, os⟩ := by
  have none_of : ∀ b, h.objs.size ≤ b → h.get? b = none := fun b hb => by
    cases q : h.get? b with
    | none => rfl
    | some o => exact absurd (Heap.lt_size q) (Nat.not_lt.mpr hb)
  have u : Up h ((h.push emptyDict).push (instObj C h.objs.size)) := fun b o e => Heap.get?_push_of_some _ (Heap.get?_push_of_some _ e)
  have hd : ((h.push emptyDict).push (instObj C h.objs.size)).get? h.objs.size = some (dictOf [] 0) := Heap.get?_push_of_some _ (Heap.get?_push_size _ rfl)
  have hx : ((h.push emptyDict).push (instObj C h.objs.size)).get? (h.objs.size + 1) = some (instObj C h.objs.size) := by
    have := Heap.get?_push_size (h.push emptyDict) (o := instObj C h.objs.size) rfl
    rwa [Heap.size_push] at this
  have Kn : ∀ b, h.get? b = none → (Mine.hd.heap_1_39 w.params).lookup b = none := fun b hb => by
    cases q : (Mine.hd.heap_1_39 w.params).lookup b with
    | none => rfl
    | some o => rw [G.x b o q] at hb; cases hb
  have ns : ∀ {b : Addr} {mm : Str → Option Value}, h.Ns b mm → b ∉ [h.objs.size] := fun ⟨o, es, ep, e, r⟩ hm => by
    rw [List.mem_singleton.mp hm] at e; exact absurd (Heap.lt_size e) (Nat.lt_irrefl _)
  refine wpAny_call (make_core (makes_of G.x hm) (looks_findIn G.x hi) (fun self => bind_fn G.x self hf) (.inl rfl) ?_)
  refine code_fn (n := n) (R.make C vals []) (G.up u) [(h.objs.size, dictOf [] 0)] (fun q hq => by rw [List.mem_singleton.mp hq]; exact hd) (fun q hq => by rw [List.mem_singleton.mp hq]; exact Kn _ (none_of _ (Nat.le_refl _)))
    ⟨ns G.t.g, ns G.t.b, (let ⟨mc, q, _⟩ := G.t.nolimit; ns q)⟩ ho hcd (hb _ _ (G.up u)) (hloc _) (fun A' g L h₁ tk₁ R' F N Gg st sb => ?_) hco hgen hk hcell
  have ug : Up h g := fun b o e => st b o (u b o e) fun hm => by
    rw [List.mem_singleton.mp hm] at e; exact absurd (Heap.lt_size e) (Nat.lt_irrefl _)
  refine wpAny_mono (k A' g L h₁ tk₁ (h.objs.size + 1) h.objs.size R' F N Gg ug (st _ _ hx (by simp)) (none_of _ (Nat.le_succ _)) (none_of _ (Nat.le_refl _)) (Nat.succ_ne_self _)) (fun f s' z => ?_) fun _ _ z => z
  cases f <;> exact z
end
end Mine
/-! Base6 -/
namespace Mine
section
variable {prog : Program} {w : World} {A : Around} {E : Value → Shared → Prop} {s : Shared} {h g : Heap} {gs : Array GenState} {dr : Drawn} {tk : Nat} {os : OsState} {L a : Addr} {m : Str → Option Value}
  {cn : Str} {cs : Scope} {ccd : Value} {cl : List (Str × Addr)} {led pre post : List (Addr × Obj)} {env : Env} {p : Program} {loose : List Str} {mg mb : Str → Option Value} {Q : Value → Shared → Prop} {x : Str} {QU : Unit → Shared → Prop} {P : Flow → Shared → Prop}

/-- a for over a list or a tuple -/
theorem x_for {px pos : Pos} {iter : Expr} {body rest : List Stmt} (g : Heap)
    (k : wpAny (model prog w) A (eval iter (envX cn cs L a ccd cl)) (fun xv s₁ => wpAny (model prog w) A (pyIter xv) (fun it s₂ => LoopAtV prog w A g (envX cn cs L a ccd cl) x body (SeqP prog w A (envX cn cs L a ccd cl) (fun _ _ => False) rest P) (fun _ _ => False) it s₂) (fun _ _ => False) s₁) (fun _ _ => False) s)
    (hk : cs.kind = .function := by rfl) (hx : (envX cn cs L a ccd cl).kindOf x = some .local := by rfl) (hs : ∀ v, foldedSetIterable iter (envX cn cs L a ccd cl) v = pure v := by intro _; rfl) :
    wpAny (model prog w) A (execs (.For (.Name x px) iter body [] pos :: rest) (envX cn cs L a ccd cl)) P (fun _ _ => False) s := by
  refine wpAny_execs_cons (wpAny_mono (For_invV (Q := SeqP prog w A (envX cn cs L a ccd cl) (fun _ _ => False) rest P) g hx (by show (cs.kind == .class || _) = false; rw [hk]; rfl) k hs PassesOwn.never) (fun f s' z => ?_) fun _ _ z => z)
  cases f <;> exact z

noncomputable def NoRef (v : Value) : Prop := ∀ a, v ≠ .ref a
theorem noref_int {i : Int} {t : Tok} : NoRef (.int i t) := fun _ h => nomatch h
theorem noref_none : NoRef .none := fun _ h => nomatch h
theorem x_expr {e : Expr} {pos : Pos} {rest : List Stmt} (k : wpAny (model prog w) A (eval e env) (fun v s' => NoRef v ∧ wpAny (model prog w) A (execs rest env) P E s') E s)
    (hi : interactive env = false := by rfl) (hs : swapsWith e none pos.line env = pure false := by rfl) : wpAny (model prog w) A (execs (.Expr e pos :: rest) env) P E s :=
  wpAny_execs_cons (wpAny_Expr (wpAny_mono k (fun v _ z => by cases v <;> first | exact z.2 | exact absurd rfl (z.1 _)) fun _ _ z => z) hi hs)
theorem c_eqb {c d : Bool} (kq : Q (.bool (c == d)) s) : wpAny (model prog w) A (compareOp .Eq (.bool c) (.bool d)) Q E s := eq_bool kq
theorem k_tup_same {t : Addr} {vs : List Value} (ht : h.get? t = some (tupOf vs)) (kq : Q (.ref t) ⟨h, gs, dr, tk, os⟩) : wpAny (model prog w) A (call (.type "tuple") [.ref t]) Q E ⟨h, gs, dr, tk, os⟩ :=
  call_tuple_same (s := ⟨h, gs, dr, tk, os⟩) ⟨_, ht, rfl, 0, rfl⟩ kq
theorem none_up {h g : Heap} {b : Addr} (u : Up h g) (e : g.get? b = none) : h.get? b = none := by
  cases q : h.get? b with
  | none => rfl
  | some o => rw [u _ _ q] at e; cases e
theorem bn_ref (a : Addr) : (Value.ref a == Value.none) = false := rfl
theorem bn_int (i : Int) (t : Tok) : (Value.int i t == Value.none) = false := rfl
/-- an optional size -/
noncomputable def OvV : Option (Int × Tok) → Value
  | none => .none
  | some (i, t) => .int i t

theorem lo_one (x : Str) (v : Value) (m : Str → Option Value) : (fun y => if y = x then some v else m y) = lo [(x, v)] m := by
  rw [← lo_cons]
  funext y
  by_cases h : y = x
  · rw [if_pos h, if_pos h]
  · rw [if_neg h, if_neg h]; rfl
/-- the end of a turn: the frame, the ledger (what was own stays), the word -/
noncomputable def TurnE (g : Heap) (L : Addr) (gs : Array GenState) (dr : Drawn) (os : OsState) (own : List (Addr × Obj)) (Jn : (Str → Option Value) → List (Addr × Obj) → Prop) (s' : Shared) : Prop :=
  ∃ h' tk' m' led', s' = ⟨h', gs, dr, tk', os⟩ ∧ Fr g L h' m' ∧ News g L h' (led' ++ own) ∧ Jn m' led'
noncomputable def TurnP (g : Heap) (L : Addr) (gs : Array GenState) (dr : Drawn) (os : OsState) (own : List (Addr × Obj)) (Jn : (Str → Option Value) → List (Addr × Obj) → Prop) (P : Flow → Shared → Prop) : Flow → Shared → Prop := fun f s' => match f with
  | .ret v => P (.ret v) s'
  | .brk => P .next s'
  | _ => TurnE g L gs dr os own Jn s'

theorem for_core {I : Addr} {wr fp : List Addr} {n : Nat} {Pw : Nat → Value → Prop} {St : Nat → Heap → Prop} {body : List Stmt} (J : Nat → (Str → Option Value) → List (Addr × Obj) → Prop)
    (W : Walks prog w A I fp wr n Pw St) (hLf : L ∉ fp) (hwr : ∀ b ∈ wr, g.get? b = none) (hnw : ∀ q ∈ led, q.1 ∉ wr) (hst : St 0 h) (F : Fr g L h m) (N : News g L h led) (hj : J 0 m led) (hJw : ∀ i m' led', J i m' led' → led'.map (·.1) = led.map (·.1))
    (turn : ∀ i v m₁ led₁ h₁ tk₁ own, i < n → Pw i v → J i m₁ led₁ → (∀ q ∈ own, q.1 ∈ fp ∧ g.get? q.1 = none) → Fr g L h₁ (lo [(x, v)] m₁) → News g L h₁ (led₁ ++ own) →
      wpAny (model prog w) A (execs body (envX cn cs L a ccd cl)) (TurnP g L gs dr os own (J (i + 1)) P) (fun _ _ => False) ⟨h₁, gs, dr, tk₁, os⟩)
    (done : ∀ m' led' h' tk', J n m' led' → Fr g L h' m' → News g L h' led' → P .next ⟨h', gs, dr, tk', os⟩) :
    LoopAtV prog w A g (envX cn cs L a ccd cl) x body P (fun _ _ => False) (.ref I) ⟨h, gs, dr, tk, os⟩ := by
  refine ⟨I, fp, wr, n, Pw, St, m, led, fun i m' led' => J i m' led' ∧ led'.map (·.1) = led.map (·.1), rfl, W, hLf, hwr, hnw, hst, F, N, ⟨hj, rfl⟩, ?_, ?_⟩
  · rintro i v m₁ led₁ s₁ own ⟨h₁, tk₁, rfl⟩ hin hP ⟨hJ, hm⟩ hoff ho1 ho2 ho3 _ F₁ N₁
    let own' := own.filter fun q => (g.get? q.1).isNone
    have hsub : ∀ q ∈ own, g.get? q.1 = none := fun q hq => (N₁ q (List.mem_append_left _ hq)).2.2
    rw [lo_one] at F₁
    refine wpAny_mono (turn i v m₁ led₁ h₁ tk₁ own hin hP hJ (fun q hq => ⟨ho1 q hq, hsub q hq⟩) F₁ (fun q hq => N₁ q (by rcases List.mem_append.mp hq with e | e; exact List.mem_append_right _ e; exact List.mem_append_left _ e))) (fun f s₂ z => ?_) fun _ _ z => z
    have fin : TurnE g L gs dr os own (J (i + 1)) s₂ → LoopStepU g L wr own (fun m' led' => J (i + 1) m' led' ∧ led'.map (·.1) = led.map (·.1)) ⟨h₁, gs, dr, tk₁, os⟩ .next s₂ := by
      rintro ⟨h', tk', m', led', rfl, F', N', hJ'⟩
      have hm' := hJw _ _ _ hJ'
      refine ⟨rfl, h', tk', m', led', rfl, F', fun q hq => N' q (by rcases List.mem_append.mp hq with e | e; exact List.mem_append_right _ e; exact List.mem_append_left _ e), fun q hq hw => ?_, hJ', hm'⟩
      have : q.1 ∈ led.map (·.1) := hm' ▸ List.mem_map_of_mem hq
      obtain ⟨q', hq', e⟩ := List.mem_map.mp this
      exact hnw q' hq' (e ▸ hw)
    cases f with
    | ret v => exact .ret z
    | brk => exact .brk z
    | next => exact .next (fin z)
    | cont => exact .cont (fin z)
  · rintro h' tk' m' led' F' N' _ ⟨hJ, _⟩
    exact done m' led' h' tk' hJ F' N'

/-- over a list that stands in the kept part -/
theorem for_list {l : Addr} {vs : List Value} {body : List Stmt} (J : Nat → (Str → Option Value) → List (Addr × Obj) → Prop)
    (hh : A.handled = none) (hl : g.IsList l vs.toArray) (F : Fr g L h m) (N : News g L h led) (hj : J 0 m led) (hJw : ∀ i m' led', J i m' led' → led'.map (·.1) = led.map (·.1))
    (turn : ∀ i v m₁ led₁ h₁ tk₁ own, vs[i]? = some v → J i m₁ led₁ → (∀ q ∈ own, q.1 ∉ led.map (·.1)) → Fr g L h₁ (lo [(x, v)] m₁) → News g L h₁ (led₁ ++ own) →
      wpAny (model prog w) A (execs body (envX cn cs L a ccd cl)) (TurnP g L gs dr os own (J (i + 1)) P) (fun _ _ => False) ⟨h₁, gs, dr, tk₁, os⟩)
    (done : ∀ m' led' h' tk', J vs.length m' led' → Fr g L h' m' → News g L h' led' → P .next ⟨h', gs, dr, tk', os⟩) :
    wpAny (model prog w) A (pyIter (.ref l)) (fun it s₂ => LoopAtV prog w A g (envX cn cs L a ccd cl) x body P (fun _ _ => False) it s₂) (fun _ _ => False) ⟨h, gs, dr, tk, os⟩ := by
  have hls : h.IsList l vs.toArray := hl.at fun o e => F.keep _ _ e
  obtain ⟨ol, hol, _⟩ := id hl
  have hlt : l < g.objs.size := Heap.lt_size hol
  have hlh : l < h.objs.size := Heap.lt_size (F.keep _ _ hol)
  have hLh : L < h.objs.size := F.ns.lt
  refine wpAny_pyIter_list (s := ⟨h, gs, dr, tk, os⟩) hls ?_
  refine for_core J (fp := [h.objs.size, l]) (Walks.list (prog := prog) (w := w) hh h.objs.size l (Nat.ne_of_lt hlh) vs.toArray) ?_ ?_ ?_ ⟨⟨_, Heap.get?_push_size _ rfl, rfl, rfl⟩, hls.at fun o e => Heap.get?_push_of_some _ e⟩ (F.push _) (fun q hq => ⟨Heap.get?_push_of_some _ (N q hq).1, (N q hq).2⟩) hj hJw ?_ ?_
  · intro hm
    rcases List.mem_cons.mp hm with e | hm
    · exact Nat.ne_of_lt hLh e
    · have := F.above; rw [List.mem_singleton.mp hm] at this; exact absurd hlt (Nat.not_lt.mpr this)
  · intro b hb
    rw [List.mem_singleton.mp hb]
    exact next_is_new F
  · intro q hq hI
    exact absurd (Heap.lt_size (N q hq).1) ((List.mem_singleton.mp hI) ▸ Nat.lt_irrefl _)
  · intro i v m₁ led₁ h₁ tk₁ own hin hP hJ ho F₁ N₁
    refine turn i v m₁ led₁ h₁ tk₁ own (by simpa using hP) hJ (fun q hq hm => ?_) F₁ N₁
    obtain ⟨h1, h2⟩ := ho q hq
    rcases List.mem_cons.mp h1 with e | h1
    · obtain ⟨q', hq', e'⟩ := List.mem_map.mp hm
      have := Heap.lt_size (N q' hq').1
      rw [e', e] at this
      exact Nat.lt_irrefl _ this
    · rw [List.mem_singleton.mp h1, hol] at h2; cases h2
  · intro m' led' h' tk' hJ F' N'
    exact done m' led' h' tk' (by simpa using hJ) F' N'

/-- over a tuple of the ledger's -/
theorem for_tup {l : Addr} {vs : List Value} {body : List Stmt} (J : Nat → (Str → Option Value) → List (Addr × Obj) → Prop)
    (hh : A.handled = none) (hl : h.get? l = some (tupOf vs)) (hlL : l ≠ L) (F : Fr g L h m) (N : News g L h led) (hj : J 0 m led) (hJw : ∀ i m' led', J i m' led' → led'.map (·.1) = led.map (·.1))
    (turn : ∀ i v m₁ led₁ h₁ tk₁ own, vs[i]? = some v → J i m₁ led₁ → Fr g L h₁ (lo [(x, v)] m₁) → News g L h₁ (led₁ ++ own) →
      wpAny (model prog w) A (execs body (envX cn cs L a ccd cl)) (TurnP g L gs dr os own (J (i + 1)) P) (fun _ _ => False) ⟨h₁, gs, dr, tk₁, os⟩)
    (done : ∀ m' led' h' tk', J vs.length m' led' → Fr g L h' m' → News g L h' led' → P .next ⟨h', gs, dr, tk', os⟩) :
    wpAny (model prog w) A (pyIter (.ref l)) (fun it s₂ => LoopAtV prog w A g (envX cn cs L a ccd cl) x body P (fun _ _ => False) it s₂) (fun _ _ => False) ⟨h, gs, dr, tk, os⟩ := by
  have hls : h.IsTuple l vs.toArray := ⟨_, hl, rfl, 0, rfl⟩
  have hlh : l < h.objs.size := Heap.lt_size hl
  have hLh : L < h.objs.size := F.ns.lt
  refine wpAny_pyIter_tuple (s := ⟨h, gs, dr, tk, os⟩) hls ?_
  refine for_core J (fp := [h.objs.size, l]) (Walks.tuple (prog := prog) (w := w) hh h.objs.size l (Nat.ne_of_lt hlh) vs.toArray) ?_ ?_ ?_ ⟨⟨_, Heap.get?_push_size _ rfl, rfl, rfl⟩, ⟨_, Heap.get?_push_of_some _ hl, rfl, 0, rfl⟩⟩ (F.push _) (fun q hq => ⟨Heap.get?_push_of_some _ (N q hq).1, (N q hq).2⟩) hj hJw ?_ ?_
  · intro hm
    rcases List.mem_cons.mp hm with e | hm
    · exact Nat.ne_of_lt hLh e
    · exact hlL (List.mem_singleton.mp hm).symm
  · intro b hb
    rw [List.mem_singleton.mp hb]
    exact next_is_new F
  · intro q hq hI
    exact absurd (Heap.lt_size (N q hq).1) ((List.mem_singleton.mp hI) ▸ Nat.lt_irrefl _)
  · intro i v m₁ led₁ h₁ tk₁ own hin hP hJ ho F₁ N₁
    exact turn i v m₁ led₁ h₁ tk₁ own (by simpa using hP) hJ F₁ N₁
  · intro m' led' h' tk' hJ F' N'
    exact done m' led' h' tk' (by simpa using hJ) F' N'
end
end Mine
/-! Base7 -/
namespace Mine
noncomputable abbrev Ext (W : List Addr) (h h' : Heap) : Prop := ∀ b o, h.get? b = some o → b ∉ W → h'.get? b = some o
section
variable {prog : Program} {w : World} {A : Around} {E : Value → Shared → Prop} {s : Shared} {h g : Heap} {gs : Array GenState} {dr : Drawn} {tk : Nat} {os : OsState} {L a : Addr} {m : Str → Option Value}
  {cn : Str} {cs : Scope} {ccd : Value} {cl : List (Str × Addr)} {led pre post : List (Addr × Obj)} {env : Env} {p : Program} {loose : List Str} {mg mb : Str → Option Value} {Q : Value → Shared → Prop} {x : Str} {QU : Unit → Shared → Prop} {P : Flow → Shared → Prop} {pos : Pos} {i j : Int} {ti tj : Tok}

/-- a call of a def that writes what stands in the ledger led -/
theorem call_fnW {n : Nat} {f : Addr} {oc : Value} {od an : Option Addr} {osl : Array (Option Value)} {name qual : Str} {params : Arguments} {body : List Stmt} {scope : Scope} {dV kV doc pm cdv ct : Value} {vals : List Value} {binds : List (Str × Value)}
    (R : Rm (n + 1) A) (G : Gd w p loose mg mb h) (gb : Heap) (Gb : Gd w p loose mg mb gb) (led : List (Addr × Obj)) (hl : ∀ q ∈ led, h.get? q.1 = some q.2) (hf : ∀ q ∈ led, gb.get? q.1 = none)
    (ho : (Mine.hd.heap_1_39 w.params).lookup f = some ⟨oc, od, .func (fnOf name qual params body scope dV kV doc pm an cdv ct), osl⟩) (hcd : codeIn (Mine.hd.heap_1_39 w.params) cdv qual = true)
    (hb : BindsTo ⟨h, gs, dr, tk, os⟩ (fnOf name qual params body scope dV kV doc pm an cdv ct) ⟨vals, []⟩ binds)
    (hloc : (binds.all fun x => decide (scope.names.lookup x.1 = some .local)) = true)
    (k : ∀ A' g L h₁ tk₁, Mine.Rm n A' → Fr g L h₁ (lo binds.reverse fun _ => none) → News g L h₁ led → Gd w p loose mg mb g → (∀ b o, h.get? b = some o → b ∉ led.map (·.1) → g.get? b = some o) →
      wpAny (model prog w) A' (execs body (envX qual scope L f cdv [])) (RetQ Q) (fun _ _ => False) ⟨h₁, gs, dr, tk₁, os⟩)
    (hco : scope.isCoroutine = false := by rfl) (hgen : scope.isGenerator = false := by rfl) (hk : scope.kind = .function := by rfl) (hcell : ∀ x ∈ scope.names, x.2 ≠ .cell := by decide) :
    wpAny (model prog w) A (call (.ref f) vals) Q E ⟨h, gs, dr, tk, os⟩ := by
  have ns : ∀ {b : Addr} {mm : Str → Option Value}, gb.Ns b mm → b ∉ led.map (·.1) := fun ⟨o, es, ep, e, r⟩ hm => by
    obtain ⟨q, hq, rfl⟩ := List.mem_map.mp hm
    rw [hf q hq] at e; cases e
  refine wpAny_call (code_fn R G led hl (fun q hq => ?_) ⟨ns Gb.t.g, ns Gb.t.b, (let ⟨mc, q, _⟩ := Gb.t.nolimit; ns q)⟩ ho hcd hb hloc (fun A' g L h₁ tk₁ R' F N Gg st _ => wpAny_mono (k A' g L h₁ tk₁ R' F N Gg st) (fun f s' z => ?_) fun _ _ z => z) hco hgen hk hcell)
  · cases e : (Mine.hd.heap_1_39 w.params).lookup q.1 with
    | none => rfl
    | some o => have := Gb.x _ _ e; rw [hf q hq] at this; cases this
  · cases f <;> exact z

theorem Fr.ext {W : List Addr} {h' : Heap} (F : Fr g L h m) (e : Ext W h h') (hW : ∀ b ∈ W, b ≠ L ∧ g.get? b = none) : Fr g L h' m :=
  ⟨F.ns.at' fun o q => e _ _ q fun hm => (hW _ hm).1 rfl, fun b o q => e _ _ (F.keep b o q) (fun hm => by rw [(hW _ hm).2] at q; cases q), F.above⟩
theorem News.ext {W : List Addr} {h' : Heap} (N : News g L h led) (e : Ext W h h') (hd : ∀ q ∈ led, q.1 ∉ W) : News g L h' led := fun q hq => ⟨e _ _ (N q hq).1 (hd q hq), (N q hq).2⟩
theorem News.cons {b : Addr} {o : Obj} (N : News g L h led) (e : h.get? b = some o) (hL : b ≠ L) (hg : g.get? b = none) : News g L h ((b, o) :: led) := fun q hq => by
  rcases List.mem_cons.mp hq with rfl | hq
  · exact ⟨e, hL, hg⟩
  · exact N q hq
theorem News.sub {led' : List (Addr × Obj)} (N : News g L h led) (k : ∀ q ∈ led', q ∈ led) : News g L h led' := fun q hq => N q (k q hq)

/-! methods of instances -/
theorem e_meth0 {pl : Sem Bool} {o : Expr} {name : Str} {apos : Pos} {f : Value} (hk : keepIn (Mine.hd.heap_1_39 w.params) f = true)
    (kq : wpAny (model prog w) A (eval o env) (fun ov s₁ => wpAny (model prog w) A (getMethod ov name pl) (fun fx s₂ => fx = (f, [ov]) ∧ Cal prog w A E Q f [ov] s₂) E s₁) E s)
    (he : eval (.Call (.Attribute o name apos) [] [] pos) env = (do
      let ov ← eval o env
      standAt apos.atName
      let (f, first) ← holding [ov] (getMethod ov name pl)
      callWith pos f first (backTo pos (starEach [] env)) []) := by rfl) :
    wpAny (model prog w) A (eval (.Call (.Attribute o name apos) [] [] pos) env) Q E s :=
  MethodCall_ (pl := pl) (ev_mono kq fun ov s₁ z => wpAny_mono z (fun fx s₂ y => by
    obtain ⟨rfl, y⟩ := y
    exact callWith_K0 y.1 hk y.2) fun _ _ x => x) he
theorem e_meth1 {pl : Sem Bool} {o e₁ : Expr} {name : Str} {apos : Pos} {f : Value} (hk : keepIn (Mine.hd.heap_1_39 w.params) f = true)
    (kq : wpAny (model prog w) A (eval o env) (fun ov s₁ => wpAny (model prog w) A (getMethod ov name pl) (fun fx s₂ => fx = (f, [ov]) ∧ wpAny (model prog w) A (eval e₁ env) (fun v₁ s₃ => Cal prog w A E Q f [ov, v₁] s₃) E s₂) E s₁) E s)
    (he : eval (.Call (.Attribute o name apos) [e₁] [] pos) env = (do
      let ov ← eval o env
      standAt apos.atName
      let (f, first) ← holding [ov] (getMethod ov name pl)
      callWith pos f first (backTo pos (starEach [e₁] env)) []) := by rfl)
    (st0 : starEach [e₁] env = (false, eval e₁ env) :: starEach [] env := by rfl) (hp : (backTo pos (starEach [] env)).any (·.1) = false := by rfl) :
    wpAny (model prog w) A (eval (.Call (.Attribute o name apos) [e₁] [] pos) env) Q E s :=
  MethodCall_ (pl := pl) (ev_mono kq fun ov s₁ z => wpAny_mono z (fun fx s₂ y => by
    obtain ⟨rfl, y⟩ := y
    have q : wpAny (model prog w) A (spliced (backTo pos (starEach [e₁] env))) (fun vs s₁ => (Mine.hd.heap_1_39 w.params).In s₁.heap ∧ wpAny (model prog w) A (call f ([ov] ++ vs)) Q E s₁) E s₂ := args_cons (ev_mono y fun _ _ r => args_nil r) st0
    rw [st0] at q ⊢
    exact callWith_of (by show ((false || (backTo pos (starEach [] env)).any (·.1)) || false) = false; rw [hp]; rfl) (keeps_K hk) (evalArgs_plain q)) fun _ _ x => x) he
/-- the method of a class of the text's, at an object without an attribute of that name -/
theorem g_meth {C f : Addr} {fs : List (Str × Value)} {pl : Sem Bool} {QM : Value × List Value → Shared → Prop} (hp : plainGet (Mine.hd.heap_1_39 w.params) C x = true) (hm : findIn (Mine.hd.heap_1_39 w.params) (.ref C) x = some (some (.ref f))) (hf : isFn (Mine.hd.heap_1_39 w.params) (.ref f) = true)
    (X : (Mine.hd.heap_1_39 w.params).In h) (I : Inst w.params h a C fs) (hl : fs.lookup x = none) (kq : QM (.ref f, [.ref a]) ⟨h, gs, dr, tk, os⟩) : wpAny (model prog w) A (getMethod (.ref a) x pl) QM E ⟨h, gs, dr, tk, os⟩ := by
  obtain ⟨dx, ts, n, e, i1, i2⟩ := I
  have I' : InstAt h a (instObj C dx) C (some (dictOf (ents w.params fs ts) n)) := ⟨i1, rfl, rfl, i2⟩
  exact method_fn (s := ⟨h, gs, dr, tk, os⟩) X I' (plainGet_of hp).1 (plainGet_of hp).2 hm (beq_iff_eq.mp hf) (by show (lookIn x (dictOf (ents w.params fs ts) n)).map _ = _; rw [lookIn_dict, getL_ents e, hl]; rfl) kq

/-! stores that add -/
theorem x_aug_attr {o value : Expr} {attr : Str} {tpos : Pos} {op : Operator} {rest : List Stmt}
    (k : wpAny (model prog w) A (eval o env) (fun ov s₁ => wpAny (model prog w) A (getAttr ov attr true) (fun old s₂ => wpAny (model prog w) A (eval value env) (fun v s₃ => wpAny (model prog w) A (inplaceOp op old v) (fun new s₄ =>
      wpAny (model prog w) A (setAttr ov attr new) (fun _ s₅ => wpAny (model prog w) A (execs rest env) P E s₅) E s₄) E s₃) E s₂) E s₁) E s) :
    wpAny (model prog w) A (execs (.AugAssign (.Attribute o attr tpos) op value pos :: rest) env) P E s := wpAny_execs_cons (wpAny_AugAssign_AttributeAny k)
theorem x_aug_sub {o i value : Expr} {tpos : Pos} {op : Operator} {rest : List Stmt}
    (k : wpAny (model prog w) A (eval o env) (fun ov s₁ => wpAny (model prog w) A (eval i env) (fun iv s₂ => wpAny (model prog w) A (getItem ov iv) (fun old s₃ => wpAny (model prog w) A (eval value env) (fun v s₄ => wpAny (model prog w) A (inplaceOp op old v) (fun new s₅ =>
      wpAny (model prog w) A (setItem ov iv new) (fun _ s₆ => wpAny (model prog w) A (execs rest env) P E s₆) E s₅) E s₄) E s₃) E s₂) E s₁) E s)
    (hi : ∀ ov iv new, augStore i ov iv new = (do holding [new, ov, iv] (setItem ov iv new); release [new, ov, iv] []; pure .next) := by intros; rfl) :
    wpAny (model prog w) A (execs (.AugAssign (.Subscript o i tpos) op value pos :: rest) env) P E s := wpAny_execs_cons (wpAny_AugAssign_SubscriptAny k hi)
theorem o_add (kq : Q (.int (i + j) tk) ⟨h, gs, dr, tk + 1, os⟩) : wpAny (model prog w) A (inplaceOp .Add (.int i ti) (.int j tj)) Q E ⟨h, gs, dr, tk, os⟩ := PySem.P.iadd_int kq
theorem g_item {l : Addr} {vs : List Value} {k : Int} {u : Tok} {v : Value} (hl : h.IsList l vs.toArray) (h0 : 0 ≤ k) (h1 : k < 2 ^ 63) (hx : vs[k.toNat]? = some v) (kq : Q v ⟨h, gs, dr, tk, os⟩) :
    wpAny (model prog w) A (getItem (.ref l) (.int k u)) Q E ⟨h, gs, dr, tk, os⟩ := wpAny_getItem_list (s := ⟨h, gs, dr, tk, os⟩) hl h0 h1 (by simpa using hx) kq
theorem s_item {l : Addr} {vs : List Value} {k : Int} {u : Tok} {v : Value} {o : Obj} (F : Fr g L h m) (N : News g L h (pre ++ (l, o) :: post)) (hl : h.IsList l vs.toArray) (h1 : ∀ q ∈ pre, q.1 ≠ l) (h2 : ∀ q ∈ post, q.1 ≠ l) (h0 : 0 ≤ k) (hk : k.toNat < vs.length) (hz : vs.length < 2 ^ 60)
    (kq : ∀ h' o', Fr g L h' m → News g L h' (pre ++ (l, o') :: post) → h'.IsList l (vs.set k.toNat v).toArray → QU () ⟨h', gs, dr, tk, os⟩) :
    wpAny (model prog w) A (setItem (.ref l) (.int k u) v) QU E ⟨h, gs, dr, tk, os⟩ := by
  refine wpAny_setItem_list (s := ⟨h, gs, dr, tk, os⟩) hl h0 (by omega) (by simp; omega) fun h' hl' hs => ?_
  have D := N (l, o) (by simp)
  have hl'' : h'.IsList l (vs.set k.toNat v).toArray := by simpa using hl'
  obtain ⟨o', ho', _⟩ := id hl'
  refine kq h' o' ⟨F.ns.sameBut hs (Ne.symm D.2.1), fun b ob e => (hs.2 b (fun q => ?_)).trans (F.keep b ob e), F.above⟩ (fun q hq => ?_) hl''
  · rw [q, D.2.2] at e; cases e
  · rcases List.mem_append.mp hq with hq | hq
    · have z := N q (List.mem_append_left _ hq)
      exact ⟨(hs.2 _ (h1 q hq)).trans z.1, z.2⟩
    · rcases List.mem_cons.mp hq with rfl | hq
      · exact ⟨ho', D.2⟩
      · have z := N q (List.mem_append_right _ (.tail _ hq))
        exact ⟨(hs.2 _ (h2 q hq)).trans z.1, z.2⟩

/-! targets that unpack -/
theorem as_tup {elts : List Expr} {kk : Nat} {t : Addr} {vs : List Value} (hh : A.handled = none) (ht : h.get? t = some (tupOf vs)) (hn : (assignEach elts env).length = vs.length) (hstar : (assignEach elts env).findIdx? (·.1) = none)
    (kq : ∀ h', Up h h' → wpAny (model prog w) A (assignInOrder ((assignEach elts env).map (·.2)) vs) QU E ⟨h', gs, dr, tk, os⟩) :
    wpAny (model prog w) A (assign (.Tuple elts kk pos) env (.ref t)) QU E ⟨h, gs, dr, tk, os⟩ :=
  assign_Tuple_tuple (s := ⟨h, gs, dr, tk, os⟩) (items := vs.toArray) hh ⟨_, ht, rfl, _, rfl⟩ (by simpa using hn) hstar fun h' he => kq h' fun b o e => he b o (Nat.ne_of_lt (Heap.lt_size e)) e
theorem ao_cons {t : Expr} {rest : List Expr} {v : Value} {vs : List Value} (kq : wpAny (model prog w) A (assign t env v) (fun _ s' => wpAny (model prog w) A (assignInOrder ((assignEach rest env).map (·.2)) vs) QU E s') E s)
    (he : assignEach (t :: rest) env = (false, assign t env) :: assignEach rest env := by rfl) : wpAny (model prog w) A (assignInOrder ((assignEach (t :: rest) env).map (·.2)) (v :: vs)) QU E s := by
  rw [he]
  show wpAny (model prog w) A (do holding vs (assign t env v); assignInOrder ((assignEach rest env).map (·.2)) vs) QU E s
  exact wpAny_bind (wpAny_holding kq)
theorem ao_nil {vs : List Value} (kq : QU () s) : wpAny (model prog w) A (assignInOrder ((assignEach [] env).map (·.2)) vs) QU E s := by
  show wpAny (model prog w) A (assignInOrder [] vs) QU E s
  cases vs <;> exact wpAny_pure kq
theorem as_name {v : Value} {np : Pos} (kq : wpAny (model prog w) A (storeName env x v) QU E s) : wpAny (model prog w) A (assign (.Name x np) env v) QU E s := PyProof.Rows.assign_Name kq
end
end Mine
/-! Facts2 -/
namespace Mine
noncomputable def clsA (K : Frag) (C : Addr) : Bool := findIn K (.ref C) "__setattr__" == some (some (.builtin "object.__setattr__")) && plainOver K C && hasDictIn K C && plainGet K C (Str.ofString "")
theorem setOk_of {K : Frag} {C : Addr} {x : Str} (a : clsA K C = true) (f : findIn K (.ref C) x = some none) : setOk K C x = true := by
  unfold clsA at a
  simp only [Bool.and_eq_true, beq_iff_eq] at a
  obtain ⟨⟨⟨a1, a2⟩, a3⟩, a4⟩ := a
  unfold setOk takerIn
  simp [a1, a2, a3, f]
theorem clsOk_ofA {K : Frag} {C : Addr} {x : Str} (a : clsA K C = true) (f : findIn K (.ref C) x = some none) : clsOk K C x = true := by
  unfold clsA at a
  simp only [Bool.and_eq_true, beq_iff_eq] at a
  obtain ⟨⟨⟨a1, a2⟩, a3⟩, a4⟩ := a
  unfold clsOk
  have : plainGet K C x = true := a4
  simp [this, a3, f, noGet]
theorem pg_of {K : Frag} {C : Addr} {x : Str} (a : clsA K C = true) : plainGet K C x = true := (Bool.and_eq_true_iff.mp a).2
theorem hd_of {K : Frag} {C : Addr} (a : clsA K C = true) : hasDictIn K C = true := (Bool.and_eq_true_iff.mp (Bool.and_eq_true_iff.mp a).1).2
theorem ca_Glue (P : Params) : clsA (Mine.hd.heap_1_39 P) 234 = true := by kernel_rfl
theorem mk_Glue (P : Params) : makesIn (Mine.hd.heap_1_39 P) 234 = true := by kernel_rfl
theorem in_Glue (P : Params) : findIn (Mine.hd.heap_1_39 P) (.ref 234) "__init__" = some (some (.ref 181)) := by kernel_rfl
theorem ty_Glue (P : Params) : typeIn (Mine.hd.heap_1_39 P) (.ref 181) = some (.type "function") := by kernel_rfl
theorem fa_Glue_width (P : Params) : findIn (Mine.hd.heap_1_39 P) (.ref 234) (Str.ofString "width") = some none := by kernel_rfl
theorem fa_Glue_stretch (P : Params) : findIn (Mine.hd.heap_1_39 P) (.ref 234) (Str.ofString "stretch") = some none := by kernel_rfl
theorem fa_Glue_stretch_order (P : Params) : findIn (Mine.hd.heap_1_39 P) (.ref 234) (Str.ofString "stretch_order") = some none := by kernel_rfl
theorem fa_Glue_shrink (P : Params) : findIn (Mine.hd.heap_1_39 P) (.ref 234) (Str.ofString "shrink") = some none := by kernel_rfl
theorem fa_Glue_shrink_order (P : Params) : findIn (Mine.hd.heap_1_39 P) (.ref 234) (Str.ofString "shrink_order") = some none := by kernel_rfl
theorem ca_Totals (P : Params) : clsA (Mine.hd.heap_1_39 P) 297 = true := by kernel_rfl
theorem mk_Totals (P : Params) : makesIn (Mine.hd.heap_1_39 P) 297 = true := by kernel_rfl
theorem in_Totals (P : Params) : findIn (Mine.hd.heap_1_39 P) (.ref 297) "__init__" = some (some (.ref 259)) := by kernel_rfl
theorem ty_Totals (P : Params) : typeIn (Mine.hd.heap_1_39 P) (.ref 259) = some (.type "function") := by kernel_rfl
theorem fa_Totals_natural (P : Params) : findIn (Mine.hd.heap_1_39 P) (.ref 297) (Str.ofString "natural") = some none := by kernel_rfl
theorem fa_Totals_stretch (P : Params) : findIn (Mine.hd.heap_1_39 P) (.ref 297) (Str.ofString "stretch") = some none := by kernel_rfl
theorem fa_Totals_shrink (P : Params) : findIn (Mine.hd.heap_1_39 P) (.ref 297) (Str.ofString "shrink") = some none := by kernel_rfl
theorem ca_Box (P : Params) : clsA (Mine.hd.heap_1_39 P) 342 = true := by kernel_rfl
theorem mk_Box (P : Params) : makesIn (Mine.hd.heap_1_39 P) 342 = true := by kernel_rfl
theorem in_Box (P : Params) : findIn (Mine.hd.heap_1_39 P) (.ref 342) "__init__" = some (some (.ref 339)) := by kernel_rfl
theorem ty_Box (P : Params) : typeIn (Mine.hd.heap_1_39 P) (.ref 339) = some (.type "function") := by kernel_rfl
theorem fa_Box_kind (P : Params) : findIn (Mine.hd.heap_1_39 P) (.ref 342) (Str.ofString "kind") = some none := by kernel_rfl
theorem fa_Box_width (P : Params) : findIn (Mine.hd.heap_1_39 P) (.ref 342) (Str.ofString "width") = some none := by kernel_rfl
theorem fa_Box_height (P : Params) : findIn (Mine.hd.heap_1_39 P) (.ref 342) (Str.ofString "height") = some none := by kernel_rfl
theorem fa_Box_depth (P : Params) : findIn (Mine.hd.heap_1_39 P) (.ref 342) (Str.ofString "depth") = some none := by kernel_rfl
theorem fa_Box_items (P : Params) : findIn (Mine.hd.heap_1_39 P) (.ref 342) (Str.ofString "items") = some none := by kernel_rfl
theorem fa_Box_shift (P : Params) : findIn (Mine.hd.heap_1_39 P) (.ref 342) (Str.ofString "shift") = some none := by kernel_rfl
theorem fa_Box_sign (P : Params) : findIn (Mine.hd.heap_1_39 P) (.ref 342) (Str.ofString "sign") = some none := by kernel_rfl
theorem fa_Box_order (P : Params) : findIn (Mine.hd.heap_1_39 P) (.ref 342) (Str.ofString "order") = some none := by kernel_rfl
theorem fa_Box_ratio (P : Params) : findIn (Mine.hd.heap_1_39 P) (.ref 342) (Str.ofString "ratio") = some none := by kernel_rfl
theorem ca_Rule (P : Params) : clsA (Mine.hd.heap_1_39 P) 363 = true := by kernel_rfl
theorem mk_Rule (P : Params) : makesIn (Mine.hd.heap_1_39 P) 363 = true := by kernel_rfl
theorem in_Rule (P : Params) : findIn (Mine.hd.heap_1_39 P) (.ref 363) "__init__" = some (some (.ref 360)) := by kernel_rfl
theorem ty_Rule (P : Params) : typeIn (Mine.hd.heap_1_39 P) (.ref 360) = some (.type "function") := by kernel_rfl
theorem fa_Rule_width (P : Params) : findIn (Mine.hd.heap_1_39 P) (.ref 363) (Str.ofString "width") = some none := by kernel_rfl
theorem fa_Rule_height (P : Params) : findIn (Mine.hd.heap_1_39 P) (.ref 363) (Str.ofString "height") = some none := by kernel_rfl
theorem fa_Rule_depth (P : Params) : findIn (Mine.hd.heap_1_39 P) (.ref 363) (Str.ofString "depth") = some none := by kernel_rfl
theorem ca_Kern (P : Params) : clsA (Mine.hd.heap_1_39 P) 384 = true := by kernel_rfl
theorem mk_Kern (P : Params) : makesIn (Mine.hd.heap_1_39 P) 384 = true := by kernel_rfl
theorem in_Kern (P : Params) : findIn (Mine.hd.heap_1_39 P) (.ref 384) "__init__" = some (some (.ref 381)) := by kernel_rfl
theorem ty_Kern (P : Params) : typeIn (Mine.hd.heap_1_39 P) (.ref 381) = some (.type "function") := by kernel_rfl
theorem fa_Kern_width (P : Params) : findIn (Mine.hd.heap_1_39 P) (.ref 384) (Str.ofString "width") = some none := by kernel_rfl
theorem fa_Kern_sort (P : Params) : findIn (Mine.hd.heap_1_39 P) (.ref 384) (Str.ofString "sort") = some none := by kernel_rfl
theorem ca_Skip (P : Params) : clsA (Mine.hd.heap_1_39 P) 406 = true := by kernel_rfl
theorem mk_Skip (P : Params) : makesIn (Mine.hd.heap_1_39 P) 406 = true := by kernel_rfl
theorem in_Skip (P : Params) : findIn (Mine.hd.heap_1_39 P) (.ref 406) "__init__" = some (some (.ref 403)) := by kernel_rfl
theorem ty_Skip (P : Params) : typeIn (Mine.hd.heap_1_39 P) (.ref 403) = some (.type "function") := by kernel_rfl
theorem fa_Skip_glue (P : Params) : findIn (Mine.hd.heap_1_39 P) (.ref 406) (Str.ofString "glue") = some none := by kernel_rfl
theorem fa_Skip_sort (P : Params) : findIn (Mine.hd.heap_1_39 P) (.ref 406) (Str.ofString "sort") = some none := by kernel_rfl
theorem fa_Skip_leader (P : Params) : findIn (Mine.hd.heap_1_39 P) (.ref 406) (Str.ofString "leader") = some none := by kernel_rfl
theorem ca_Penalty (P : Params) : clsA (Mine.hd.heap_1_39 P) 427 = true := by kernel_rfl
theorem mk_Penalty (P : Params) : makesIn (Mine.hd.heap_1_39 P) 427 = true := by kernel_rfl
theorem in_Penalty (P : Params) : findIn (Mine.hd.heap_1_39 P) (.ref 427) "__init__" = some (some (.ref 424)) := by kernel_rfl
theorem ty_Penalty (P : Params) : typeIn (Mine.hd.heap_1_39 P) (.ref 424) = some (.type "function") := by kernel_rfl
theorem fa_Penalty_value (P : Params) : findIn (Mine.hd.heap_1_39 P) (.ref 427) (Str.ofString "value") = some none := by kernel_rfl
theorem ca_Mark (P : Params) : clsA (Mine.hd.heap_1_39 P) 448 = true := by kernel_rfl
theorem mk_Mark (P : Params) : makesIn (Mine.hd.heap_1_39 P) 448 = true := by kernel_rfl
theorem in_Mark (P : Params) : findIn (Mine.hd.heap_1_39 P) (.ref 448) "__init__" = some (some (.ref 445)) := by kernel_rfl
theorem ty_Mark (P : Params) : typeIn (Mine.hd.heap_1_39 P) (.ref 445) = some (.type "function") := by kernel_rfl
theorem fa_Mark_tokens (P : Params) : findIn (Mine.hd.heap_1_39 P) (.ref 448) (Str.ofString "tokens") = some none := by kernel_rfl
theorem fk_Rule (P : Params) : findIn (Mine.hd.heap_1_39 P) (.ref 363) (Str.ofString "kind") = some (some (.int 4 586)) := by kernel_rfl
theorem fk_Kern (P : Params) : findIn (Mine.hd.heap_1_39 P) (.ref 384) (Str.ofString "kind") = some (some (.int 5 587)) := by kernel_rfl
theorem fk_Skip (P : Params) : findIn (Mine.hd.heap_1_39 P) (.ref 406) (Str.ofString "kind") = some (some (.int 6 588)) := by kernel_rfl
theorem fk_Penalty (P : Params) : findIn (Mine.hd.heap_1_39 P) (.ref 427) (Str.ofString "kind") = some (some (.int 7 589)) := by kernel_rfl
theorem fk_Mark (P : Params) : findIn (Mine.hd.heap_1_39 P) (.ref 448) (Str.ofString "kind") = some (some (.int 9 599)) := by kernel_rfl
theorem ng_int (P : Params) (i : Int) (t : Tok) : specialIn (Mine.hd.heap_1_39 P) (.int i t) "__get__" = some none := by kernel_rfl
theorem me_add (P : Params) : findIn (Mine.hd.heap_1_39 P) (.ref 297) (Str.ofString "add") = some (some (.ref 266)) := by kernel_rfl
theorem mf_add (P : Params) : isFn (Mine.hd.heap_1_39 P) (.ref 266) = true := by kernel_rfl
theorem mk_add (P : Params) : keepIn (Mine.hd.heap_1_39 P) (.ref 266) = true := by kernel_rfl
theorem me_widen (P : Params) : findIn (Mine.hd.heap_1_39 P) (.ref 297) (Str.ofString "widen") = some (some (.ref 273)) := by kernel_rfl
theorem mf_widen (P : Params) : isFn (Mine.hd.heap_1_39 P) (.ref 273) = true := by kernel_rfl
theorem mk_widen (P : Params) : keepIn (Mine.hd.heap_1_39 P) (.ref 273) = true := by kernel_rfl
theorem me_stretch_top (P : Params) : findIn (Mine.hd.heap_1_39 P) (.ref 297) (Str.ofString "stretch_top") = some (some (.ref 280)) := by kernel_rfl
theorem mf_stretch_top (P : Params) : isFn (Mine.hd.heap_1_39 P) (.ref 280) = true := by kernel_rfl
theorem mk_stretch_top (P : Params) : keepIn (Mine.hd.heap_1_39 P) (.ref 280) = true := by kernel_rfl
theorem me_shrink_top (P : Params) : findIn (Mine.hd.heap_1_39 P) (.ref 297) (Str.ofString "shrink_top") = some (some (.ref 287)) := by kernel_rfl
theorem mf_shrink_top (P : Params) : isFn (Mine.hd.heap_1_39 P) (.ref 287) = true := by kernel_rfl
theorem mk_shrink_top (P : Params) : keepIn (Mine.hd.heap_1_39 P) (.ref 287) = true := by kernel_rfl
theorem me_parts (P : Params) : findIn (Mine.hd.heap_1_39 P) (.ref 234) (Str.ofString "parts") = some (some (.ref 188)) := by kernel_rfl
theorem mf_parts (P : Params) : isFn (Mine.hd.heap_1_39 P) (.ref 188) = true := by kernel_rfl
theorem mk_parts (P : Params) : keepIn (Mine.hd.heap_1_39 P) (.ref 188) = true := by kernel_rfl
end Mine
section
set_option hygiene false in
local macro_rules | `(tactic| walk_at "mS") => `(tactic| first
   | ((with_reducible show wpAny _ _ (eval (Expr.Name _ _) _) _ _ _); first | refine e_loc F (by rfl) ?_ | refine e_loc F (by assumption) ?_)
   | ((with_reducible show wpAny _ _ (eval (Expr.Constant _ _ _) _) _ _ _); first | (with_reducible refine e_int ?_) | (with_reducible refine e_none ?_) | (with_reducible refine e_bool ?_))
   | ((with_reducible show wpAny _ _ (eval (Expr.BinOp _ _ _ _) _) _ _ _); refine e_bin ?_)
   | ((with_reducible show wpAny _ _ (binaryOp _ _ _) _ _ _); first | (with_reducible refine b_add ?_) | (with_reducible refine b_sub ?_) | (with_reducible refine b_mul ?hm ?_; (case hm => first | exact .of_left (by decide) | exact .of_right (by decide) | exact mul_l (by omega) (by omega) | exact mul_r (by omega) (by omega))) | (with_reducible refine b_div ?hb ?hp ?_; (case hb => omega); (case hp => exact PyProof.noPylong_small (by omega))) | (with_reducible refine b_mod ?hb ?_; (case hb => omega)))
   | ((with_reducible show wpAny _ _ (eval (Expr.Attribute _ _ _) _) _ _ _); first | refine e_attr ?_ | refine e_attr' ?_)
   | ((with_reducible show wpAny _ _ (compareOp _ _ _) _ _ _); first | (with_reducible refine c_eq ?_) | (with_reducible refine c_ne ?_) | (with_reducible refine c_lt ?_) | (with_reducible refine c_le ?_) | (with_reducible refine c_gt ?_) | (with_reducible refine c_ge ?_) | (with_reducible refine c_is ?_) | (with_reducible refine c_isnot ?_))
   | ((with_reducible show wpAny _ _ (truthy _) _ _ _); (with_reducible refine t_bool ?_))
   | ((with_reducible show Br _ _ _); first | (refine br_pos (by first | rfl | exact decide_eq_true (by omega) | exact beq_iff_eq.mpr (by omega)) ?_) | (refine br_neg (by first | rfl | exact decide_eq_false (by omega) | exact beq_eq_false_iff_ne.mpr (by omega)) ?_) | (with_reducible refine br_dec (fun hc => ?_) (fun hc => ?_)) | (with_reducible refine br_eq (fun hc => ?_) (fun hc => ?_)) | (with_reducible refine br_ne (fun hc => ?_) (fun hc => ?_)) | (with_reducible refine br_not ?_) | (refine br_neg (by first | (simp [bn_ref, bn_int]; done) | (simp [bn_ref, bn_int]; omega)) ?_) | (refine br_pos (by first | (simp [bn_ref, bn_int]; done) | (simp [bn_ref, bn_int]; omega)) ?_))
   | ((with_reducible show wpAny _ _ (execs [] _) _ _ _); first | refine x_nil_seq ?_ | refine x_nil ?_)
   | ((with_reducible show wpAny _ _ (execs (Stmt.Return _ _ :: _) _) _ _ _); first | refine x_ret_seq ?_ | refine x_ret ?_)
   | ((with_reducible show wpAny _ _ (execs (Stmt.If _ _ _ _ :: _) _) _ _ _); first | (with_reducible refine x_if_last ?_) | (with_reducible refine x_if ?_))
   | ((with_reducible show wpAny _ _ (execs (Stmt.Assign [Expr.Name _ _] _ _ :: _) _) _ _ _); refine x_assign ?_)
   | ((with_reducible show wpAny _ _ (execs (Stmt.Assign [Expr.Attribute _ _ _] _ _ :: _) _) _ _ _); refine x_attr ?_)
   | ((with_reducible show wpAny _ _ (execs (Stmt.Assign [Expr.Tuple _ _ _] _ _ :: _) _) _ _ _); refine x_tuple ?_)
   | ((with_reducible show wpAny _ _ (storeName _ _ _) _ _ _); (refine s_lo F N ?_; clear F N; intro h F N))
   | ((with_reducible show wpAny _ _ (isTrue _ _ _) _ _ _); first | refine i_cmp ?_ | refine i_cmp2 ?_ | (with_reducible refine i_not ?_) | (with_reducible refine i_and0 ?_) | (with_reducible refine i_or0 ?_) | (with_reducible refine i_and ?_) | (with_reducible refine i_or ?_) | refine i_call ?_ | refine i_attr ?_ | refine i_name ?_)
   | ((with_reducible show wpAny _ _ (eval (Expr.UnaryOp _ _ _) _) _ _ _); refine e_una ?_)
   | ((with_reducible show wpAny _ _ (unaryOp _ _) _ _ _); first | (with_reducible refine u_neg ?_) | (with_reducible refine u_not ?_))
   | ((with_reducible show wpAny _ _ (eval (Expr.Compare _ _ _ _) _) _ _ _); first | refine e_cmp ?_ | refine e_cmp2 ?_)
   | ((with_reducible show wpAny _ _ (eval (Expr.IfExp _ _ _ _) _) _ _ _); refine e_ifexp ?_)
   | ((with_reducible show wpAny _ _ (eval (Expr.BoolOp _ _ _) _) _ _ _); first | (with_reducible refine e_one ?_) | (with_reducible refine e_and ?_) | (with_reducible refine e_or ?_))
   | ((with_reducible show wpAny _ _ (eval (Expr.List _ _) _) _ _ _); refine e_list ?_)
   | ((with_reducible show wpAny _ _ (eval (Expr.Tuple _ _ _) _) _ _ _); refine e_tup ?_)
   | ((with_reducible show wpAny _ _ (spliced _) _ _ _); first | (with_reducible refine a_nil ?_) | refine a_cons ?_)
   | ((with_reducible show wpAny _ _ (newList _) _ _ _); (refine m_list F N ?_; clear F N; intro h l F N hlt; (try k_lt hlt)))
   | ((with_reducible show wpAny _ _ (newTuple _) _ _ _); (refine m_tup F N ?_; clear F N; intro h t F N hlt; (try k_lt hlt)))
   | ((with_reducible show wpAny _ _ (execs (Stmt.Expr _ _ :: _) _) _ _ _); refine x_expr ?_)
   | ((with_reducible show wpAny _ _ (compareOp CmpOp.Eq (Value.bool _) (Value.bool _)) _ _ _); (with_reducible refine c_eqb ?_))
   | ((with_reducible show wpAny _ _ (execs (Stmt.AugAssign (Expr.Attribute _ _ _) _ _ _ :: _) _) _ _ _); refine x_aug_attr ?_)
   | ((with_reducible show wpAny _ _ (execs (Stmt.AugAssign (Expr.Subscript _ _ _) _ _ _ :: _) _) _ _ _); refine x_aug_sub ?_)
   | ((with_reducible show wpAny _ _ (inplaceOp _ _ _) _ _ _); (with_reducible refine o_add ?_))
   | ((with_reducible show wpAny _ _ (assign (Expr.Name _ _) _ _) _ _ _); refine as_name ?_)
   | ((with_reducible show wpAny _ _ (assignInOrder _ _) _ _ _); first | refine ao_cons ?_ | refine ao_nil ?_)
   | ((with_reducible show wpAny _ _ (eval (Expr.Subscript _ _ _) _) _ _ _); refine e_sub ?_)
   | ((with_reducible show NoRef _ ∧ _); refine ⟨by first | exact noref_int | exact noref_none, ?_⟩)
   | ((with_reducible show Cal _ _ _ _ _ _ _ _); refine cal F G ?_))
/-! Fn1 -/
namespace Mine
section
variable {prog : Program} {w : World} {A : Around} {E : Value → Shared → Prop} {h g : Heap} {gs : Array GenState} {dr : Drawn} {tk : Nat} {os : OsState} {L a : Addr} {m : Str → Option Value}
  {cn : Str} {cs : Scope} {ccd : Value} {cl : List (Str × Addr)} {p : Program} {loose : List Str} {mg mb : Str → Option Value} {Q : Value → Shared → Prop} {pos : Pos}

variable {i j x b : Int} {ti tj tx tb tl th : Tok}
noncomputable def roundF (n b : Int) : Int := if n < 0 then -((b - 2 * n).fdiv (2 * b)) else (2 * n + b).fdiv (2 * b)
theorem rounded_c (R : Rm 1 A) (G : Gd w p loose mg mb h) (hb : 0 < b) (hb2 : b < 2 ^ 29)
    (kq : ∀ h' tk' t, Up h h' → Q (.int (roundF x b) t) ⟨h', gs, dr, tk', os⟩) : wpAny (model prog w) A (call (.ref 117) [.int x tx, .int b tb]) Q E ⟨h, gs, dr, tk, os⟩ := by
  refine call_fn (n := 0) (binds := [(Str.ofString "number", .int x tx), (Str.ofString "by", .int b tb)]) R G (by k_is) (by k_is) (by first | exact BindsTo.of_eq (by rfl) | exact binds_K G.x rfl (by k_is) rfl rfl rfl) (by rfl) (fun A L h tk R F N => ?_)
  repeat (first
   | walk_at "mS")
  · have e : roundF x b = _ := if_pos hc
    exact e ▸ kq _ _ _ F.keep
  · have e : roundF x b = _ := if_neg hc
    exact e ▸ kq _ _ _ F.keep
theorem is_whole_c {lo hi : Int} (R : Rm 1 A) (G : Gd w p loose mg mb h)
    (kq : ∀ h' tk' c, Up h h' → c = decide (lo ≤ i ∧ i ≤ hi) → Q (.bool c) ⟨h', gs, dr, tk', os⟩) : wpAny (model prog w) A (call (.ref 89) [.int i ti, .int lo tl, .int hi th]) Q E ⟨h, gs, dr, tk, os⟩ := by
  refine call_fn (n := 0) (binds := [(Str.ofString "value", .int i ti), (Str.ofString "low", .int lo tl), (Str.ofString "high", .int hi th)]) R G (by k_is) (by k_is) (by first | exact BindsTo.of_eq (by rfl) | exact binds_K G.x rfl (by k_is) rfl rfl rfl) (by rfl) (fun A L h tk R F N => ?_)
  repeat (first
   | ((with_reducible show wpAny _ _ (eval (Expr.Name _ _) _) _ _ _); first | ((with_reducible refine n_int F G ?_ ?hka ?hkb); (case hka => rfl); (case hkb => rfl)) | ((with_reducible refine n_bool F G ?_ ?hka ?hkb); (case hka => rfl); (case hkb => rfl)))
   | ((with_reducible show wpAny _ _ (eval (Expr.Call (Expr.Name (Str.ofString "isinstance") _) _ _ _) _) _ _ _); refine e_bcall2 (n_isinstance F G ⟨rfl, ?_⟩ (by rfl) (by rfl)))
   | ((with_reducible show wpAny _ _ (call (Value.builtin "isinstance") _) _ _ _); first | (with_reducible refine k_isi_int ?_) | (with_reducible refine k_isi_bool ?_))
   | walk_at "mS")
  all_goals refine kq _ _ _ F.keep ?_
  all_goals simp [*]
theorem check_whole_c (R : Rm 1 A) (G : Gd w p loose mg mb h)
    (kq : ∀ h' tk', Up h h' → Q (.int i ti) ⟨h', gs, dr, tk', os⟩) : wpAny (model prog w) A (call (.ref 96) [.int i ti]) Q E ⟨h, gs, dr, tk, os⟩ := by
  refine call_fn (n := 0) (binds := [(Str.ofString "value", .int i ti)]) R G (by k_is) (by k_is) (by first | exact BindsTo.of_eq (by rfl) | exact binds_K G.x rfl (by k_is) rfl rfl rfl) (by rfl) (fun A L h tk R F N => ?_)
  repeat (first
   | ((with_reducible show wpAny _ _ (eval (Expr.Name _ _) _) _ _ _); first | ((with_reducible refine n_int F G ?_ ?hka ?hkb); (case hka => rfl); (case hkb => rfl)) | ((with_reducible refine n_bool F G ?_ ?hka ?hkb); (case hka => rfl); (case hkb => rfl)))
   | ((with_reducible show wpAny _ _ (eval (Expr.Call (Expr.Name (Str.ofString "isinstance") _) _ _ _) _) _ _ _); refine e_bcall2 (n_isinstance F G ⟨rfl, ?_⟩ (by rfl) (by rfl)))
   | ((with_reducible show wpAny _ _ (call (Value.builtin "isinstance") _) _ _ _); first | (with_reducible refine k_isi_int ?_) | (with_reducible refine k_isi_bool ?_))
   | walk_at "mS")
  all_goals exact kq _ _ F.keep
theorem check_number_c (R : Rm 2 A) (G : Gd w p loose mg mb h) (hi : -2147483647 ≤ i ∧ i ≤ 2147483647)
    (kq : ∀ h' tk', Up h h' → Q (.int i ti) ⟨h', gs, dr, tk', os⟩) : wpAny (model prog w) A (call (.ref 103) [.int i ti]) Q E ⟨h, gs, dr, tk, os⟩ := by
  refine call_fn (n := 1) (binds := [(Str.ofString "value", .int i ti)]) R G (by k_is) (by k_is) (by first | exact BindsTo.of_eq (by rfl) | exact binds_K G.x rfl (by k_is) rfl rfl rfl) (by rfl) (fun A L h tk R F N => ?_)
  repeat (first
   | ((with_reducible show wpAny _ _ (eval (Expr.Name _ _) _) _ _ _); ((with_reducible refine n_MAX_NUMBER F G ?_ ?hka ?hkb); (case hka => rfl); (case hkb => rfl)))
   | ((with_reducible show wpAny _ _ (eval (Expr.Call (Expr.Name (Str.ofString "check_whole") _) _ _ _) _) _ _ _); refine e_call1 (kp_check_whole _) (n_check_whole F G ⟨rfl, ?_⟩ (by rfl) (by rfl)))
   | ((with_reducible show wpAny _ _ (call (Value.ref 96) _) _ _ _); (refine check_whole_c (R.le (by decide)) (G.fr F) ?_; intro h tk u; replace F := Fr.up F u; replace N := News.up N u; clear u))
   | walk_at "mS")
  all_goals exact kq _ _ F.keep
theorem check_dimen_c (R : Rm 2 A) (G : Gd w p loose mg mb h) (hi : -1073741823 ≤ i ∧ i ≤ 1073741823)
    (kq : ∀ h' tk', Up h h' → Q (.int i ti) ⟨h', gs, dr, tk', os⟩) : wpAny (model prog w) A (call (.ref 110) [.int i ti]) Q E ⟨h, gs, dr, tk, os⟩ := by
  refine call_fn (n := 1) (binds := [(Str.ofString "value", .int i ti)]) R G (by k_is) (by k_is) (by first | exact BindsTo.of_eq (by rfl) | exact binds_K G.x rfl (by k_is) rfl rfl rfl) (by rfl) (fun A L h tk R F N => ?_)
  repeat (first
   | ((with_reducible show wpAny _ _ (eval (Expr.Name _ _) _) _ _ _); ((with_reducible refine n_MAX_DIMEN F G ?_ ?hka ?hkb); (case hka => rfl); (case hkb => rfl)))
   | ((with_reducible show wpAny _ _ (eval (Expr.Call (Expr.Name (Str.ofString "check_whole") _) _ _ _) _) _ _ _); refine e_call1 (kp_check_whole _) (n_check_whole F G ⟨rfl, ?_⟩ (by rfl) (by rfl)))
   | ((with_reducible show wpAny _ _ (call (Value.ref 96) _) _ _ _); (refine check_whole_c (R.le (by decide)) (G.fr F) ?_; intro h tk u; replace F := Fr.up F u; replace N := News.up N u; clear u))
   | walk_at "mS")
  all_goals exact kq _ _ F.keep
theorem check_depth_c (R : Rm 1 A) (G : Gd w p loose mg mb h) (hi : i ≤ 60)
    (kq : ∀ h' tk', Up h h' → Q .none ⟨h', gs, dr, tk', os⟩) : wpAny (model prog w) A (call (.ref 459) [.int i ti]) Q E ⟨h, gs, dr, tk, os⟩ := by
  refine call_fn (n := 0) (binds := [(Str.ofString "depth", .int i ti)]) R G (by k_is) (by k_is) (by first | exact BindsTo.of_eq (by rfl) | exact binds_K G.x rfl (by k_is) rfl rfl rfl) (by rfl) (fun A L h tk R F N => ?_)
  repeat (first
   | ((with_reducible show wpAny _ _ (eval (Expr.Name _ _) _) _ _ _); ((with_reducible refine n_DEEPEST F G ?_ ?hka ?hkb); (case hka => rfl); (case hkb => rfl)))
   | walk_at "mS")
  all_goals exact kq _ _ F.keep
noncomputable def badF (e t : Int) : Int :=
  if e = 0 then 0 else if t ≤ 0 then 10000 else
  let r := if e ≤ 7230584 then (e * 297).fdiv t else if t ≥ 1663497 then e.fdiv (t.fdiv 297) else e
  if r > 1290 then 10000 else (r * r * r + 131072).fdiv 262144
theorem badness_c (R : Rm 1 A) (G : Gd w p loose mg mb h) (h0 : 0 ≤ x) (h1 : x < 2 ^ 29) (h2 : -(2 ^ 29) < b) (h3 : b < 2 ^ 29)
    (kq : ∀ h' tk' t r, Up h h' → r = badF x b → Q (.int r t) ⟨h', gs, dr, tk', os⟩) : wpAny (model prog w) A (call (.ref 152) [.int x tx, .int b tb]) Q E ⟨h, gs, dr, tk, os⟩ := by
  refine call_fn (n := 0) (binds := [(Str.ofString "excess", .int x tx), (Str.ofString "total", .int b tb)]) R G (by k_is) (by k_is) (by first | exact BindsTo.of_eq (by rfl) | exact binds_K G.x rfl (by k_is) rfl rfl rfl) (by rfl) (fun A L h tk R F N => ?_)
  have e1 : b.fdiv 297 = b / 297 := Int.fdiv_eq_ediv_of_nonneg _ (by decide)
  by_cases hb : b ≤ 0
  · repeat (first
   | ((with_reducible show wpAny _ _ (eval (Expr.Name _ _) _) _ _ _); ((with_reducible refine n_INF_BAD F G ?_ ?hka ?hkb); (case hka => rfl); (case hkb => rfl)))
   | walk_at "mS")
    all_goals refine kq _ _ _ _ F.keep ?_
    all_goals (unfold badF; dsimp only; (repeat' split) <;> first | rfl | omega)
  · have f1 : 0 ≤ (x * 297).fdiv b := Int.fdiv_nonneg (by omega) (by omega)
    have f2 : 0 ≤ x.fdiv (b.fdiv 297) := Int.fdiv_nonneg (by omega) (by omega)
    repeat (first
   | ((with_reducible show wpAny _ _ (eval (Expr.Name _ _) _) _ _ _); ((with_reducible refine n_INF_BAD F G ?_ ?hka ?hkb); (case hka => rfl); (case hkb => rfl)))
   | walk_at "mS")
    all_goals refine kq _ _ _ _ F.keep ?_
    all_goals (unfold badF; dsimp only; (repeat' split) <;> first | rfl | omega)
end
end Mine
/-! Fn2 -/
namespace Mine
/-- an object just made -/
structure NewI (P : Params) (h h' : Heap) (x dx C : Addr) (o : Obj) (fs : List (Str × Value)) : Prop where
  up : Up h h'
  nx : h.get? x = none
  nd : h.get? dx = none
  ne : x ≠ dx
  at_ : h'.get? x = some (instObj C dx)
  dat : h'.get? dx = some o
  isd : IsD P o fs
theorem NewI.inst {P : Params} {h h' : Heap} {x dx C : Addr} {o : Obj} {fs : List (Str × Value)} (I : NewI P h h' x dx C o fs) : Inst P h' x C fs := .of I.at_ I.isd I.dat
noncomputable abbrev K_ (x : String) (v : Value) : Str × Value := (Str.ofString x, v)
section
variable {prog : Program} {w : World} {A : Around} {E : Value → Shared → Prop} {h g : Heap} {gs : Array GenState} {dr : Drawn} {tk : Nat} {os : OsState} {L a : Addr} {m : Str → Option Value}
  {cn : Str} {cs : Scope} {ccd : Value} {cl : List (Str × Addr)} {p : Program} {loose : List Str} {mg mb : Str → Option Value} {Q : Value → Shared → Prop} {pos : Pos}

variable {i j x b wd hh dd : Int} {ti tj tx tb tl th td : Tok}
theorem mk_Kern_c (R : Rm 5 A) (G : Gd w p loose mg mb h) (hw : -1073741823 ≤ wd ∧ wd ≤ 1073741823)
    (kq : ∀ h' tk' x dx o, NewI w.params h h' x dx 384 o [K_ "width" (.int wd tx), K_ "sort" (.int 1 tb)] → Q (.ref x) ⟨h', gs, dr, tk', os⟩) :
    wpAny (model prog w) A (call (.ref 384) [.int wd tx, .int 1 tb]) Q E ⟨h, gs, dr, tk, os⟩ := by
  refine call_mk (n := 3) (binds := fun xa => [(Str.ofString "self", .ref xa), (Str.ofString "width", .int wd tx), (Str.ofString "sort", .int 1 tb)]) R G (mk_Kern _) (in_Kern _) (ty_Kern _) (by k_is) (by k_is) (fun xa h₁ G₁ => by first | exact BindsTo.of_eq (by rfl) | exact binds_K G₁.x rfl (by k_is) rfl rfl rfl) (fun xa => by rfl) (fun A g L h tk xa dx R F N G u hx hn hdn hne => ?_)
  have hO := isD_nil w.params
  repeat (first
   | ((with_reducible show wpAny _ _ (setAttr _ (Str.ofString "width") _) _ _ _); first | (refine s_attr (pre := []) (setOk_of (ca_Kern _) (fa_Kern_width _)) F N G (F.keep _ _ hx) hO (by first | assumption | k_all) (by first | assumption | k_all) (Nat.le_of_ble_eq_true rfl) ?_; clear F N hO; intro h o F N hO; (try simp only [List.nil_append, List.cons_append] at N)) | (refine s_attr (pre := [_]) (setOk_of (ca_Kern _) (fa_Kern_width _)) F N G (F.keep _ _ hx) hO (by first | assumption | k_all) (by first | assumption | k_all) (Nat.le_of_ble_eq_true rfl) ?_; clear F N hO; intro h o F N hO; (try simp only [List.nil_append, List.cons_append] at N)) | (refine s_attr (pre := [_, _]) (setOk_of (ca_Kern _) (fa_Kern_width _)) F N G (F.keep _ _ hx) hO (by first | assumption | k_all) (by first | assumption | k_all) (Nat.le_of_ble_eq_true rfl) ?_; clear F N hO; intro h o F N hO; (try simp only [List.nil_append, List.cons_append] at N)))
   | ((with_reducible show wpAny _ _ (setAttr _ (Str.ofString "sort") _) _ _ _); first | (refine s_attr (pre := []) (setOk_of (ca_Kern _) (fa_Kern_sort _)) F N G (F.keep _ _ hx) hO (by first | assumption | k_all) (by first | assumption | k_all) (Nat.le_of_ble_eq_true rfl) ?_; clear F N hO; intro h o F N hO; (try simp only [List.nil_append, List.cons_append] at N)) | (refine s_attr (pre := [_]) (setOk_of (ca_Kern _) (fa_Kern_sort _)) F N G (F.keep _ _ hx) hO (by first | assumption | k_all) (by first | assumption | k_all) (Nat.le_of_ble_eq_true rfl) ?_; clear F N hO; intro h o F N hO; (try simp only [List.nil_append, List.cons_append] at N)) | (refine s_attr (pre := [_, _]) (setOk_of (ca_Kern _) (fa_Kern_sort _)) F N G (F.keep _ _ hx) hO (by first | assumption | k_all) (by first | assumption | k_all) (Nat.le_of_ble_eq_true rfl) ?_; clear F N hO; intro h o F N hO; (try simp only [List.nil_append, List.cons_append] at N)))
   | ((with_reducible show wpAny _ _ (eval (Expr.Name _ _) _) _ _ _); first | ((with_reducible refine n_FONT_KERN F G ?_ ?hka ?hkb); (case hka => rfl); (case hkb => rfl)) | ((with_reducible refine n_MU_KERN F G ?_ ?hka ?hkb); (case hka => rfl); (case hkb => rfl)))
   | ((with_reducible show wpAny _ _ (eval (Expr.Call (Expr.Name (Str.ofString "is_whole") _) _ _ _) _) _ _ _); refine e_call3 (kp_is_whole _) (n_is_whole F G ⟨rfl, ?_⟩ (by rfl) (by rfl)))
   | ((with_reducible show wpAny _ _ (call (Value.ref 89) _) _ _ _); (refine is_whole_c (R.le (by decide)) (G.fr F) ?_; intro h tk b u hr; subst hr; replace F := Fr.up F u; replace N := News.up N u; clear u))
   | ((with_reducible show wpAny _ _ (eval (Expr.Call (Expr.Name (Str.ofString "check_dimen") _) _ _ _) _) _ _ _); refine e_call1 (kp_check_dimen _) (n_check_dimen F G ⟨rfl, ?_⟩ (by rfl) (by rfl)))
   | ((with_reducible show wpAny _ _ (call (Value.ref 110) _) _ _ _); (refine check_dimen_c (R.le (by decide)) (G.fr F) (by omega) ?_; intro h tk u; replace F := Fr.up F u; replace N := News.up N u; clear u))
   | walk_at "mS")
  all_goals exact ⟨rfl, kq _ _ _ _ _ ⟨fun b o e => F.keep _ _ (u b o e), hn, hdn, hne, F.keep _ _ hx, (N _ (.head _)).1, hO⟩⟩
theorem mk_Penalty_c (R : Rm 5 A) (G : Gd w p loose mg mb h) (hw : -2147483647 ≤ i ∧ i ≤ 2147483647)
    (kq : ∀ h' tk' x dx o, NewI w.params h h' x dx 427 o [K_ "value" (.int i ti)] → Q (.ref x) ⟨h', gs, dr, tk', os⟩) :
    wpAny (model prog w) A (call (.ref 427) [.int i ti]) Q E ⟨h, gs, dr, tk, os⟩ := by
  refine call_mk (n := 3) (binds := fun xa => [(Str.ofString "self", .ref xa), (Str.ofString "value", .int i ti)]) R G (mk_Penalty _) (in_Penalty _) (ty_Penalty _) (by k_is) (by k_is) (fun xa h₁ G₁ => by first | exact BindsTo.of_eq (by rfl) | exact binds_K G₁.x rfl (by k_is) rfl rfl rfl) (fun xa => by rfl) (fun A g L h tk xa dx R F N G u hx hn hdn hne => ?_)
  have hO := isD_nil w.params
  repeat (first
   | ((with_reducible show wpAny _ _ (setAttr _ (Str.ofString "value") _) _ _ _); first | (refine s_attr (pre := []) (setOk_of (ca_Penalty _) (fa_Penalty_value _)) F N G (F.keep _ _ hx) hO (by first | assumption | k_all) (by first | assumption | k_all) (Nat.le_of_ble_eq_true rfl) ?_; clear F N hO; intro h o F N hO; (try simp only [List.nil_append, List.cons_append] at N)) | (refine s_attr (pre := [_]) (setOk_of (ca_Penalty _) (fa_Penalty_value _)) F N G (F.keep _ _ hx) hO (by first | assumption | k_all) (by first | assumption | k_all) (Nat.le_of_ble_eq_true rfl) ?_; clear F N hO; intro h o F N hO; (try simp only [List.nil_append, List.cons_append] at N)) | (refine s_attr (pre := [_, _]) (setOk_of (ca_Penalty _) (fa_Penalty_value _)) F N G (F.keep _ _ hx) hO (by first | assumption | k_all) (by first | assumption | k_all) (Nat.le_of_ble_eq_true rfl) ?_; clear F N hO; intro h o F N hO; (try simp only [List.nil_append, List.cons_append] at N)))
   | ((with_reducible show wpAny _ _ (eval (Expr.Call (Expr.Name (Str.ofString "check_number") _) _ _ _) _) _ _ _); refine e_call1 (kp_check_number _) (n_check_number F G ⟨rfl, ?_⟩ (by rfl) (by rfl)))
   | ((with_reducible show wpAny _ _ (call (Value.ref 103) _) _ _ _); (refine check_number_c (R.le (by decide)) (G.fr F) (by omega) ?_; intro h tk u; replace F := Fr.up F u; replace N := News.up N u; clear u))
   | walk_at "mS")
  all_goals exact ⟨rfl, kq _ _ _ _ _ ⟨fun b o e => F.keep _ _ (u b o e), hn, hdn, hne, F.keep _ _ hx, (N _ (.head _)).1, hO⟩⟩
theorem mk_Mark_c {tt : Addr} {vs : List Value} (R : Rm 5 A) (G : Gd w p loose mg mb h) (ht : h.get? tt = some (tupOf vs))
    (kq : ∀ h' tk' x dx o, NewI w.params h h' x dx 448 o [K_ "tokens" (.ref tt)] → Q (.ref x) ⟨h', gs, dr, tk', os⟩) :
    wpAny (model prog w) A (call (.ref 448) [.ref tt]) Q E ⟨h, gs, dr, tk, os⟩ := by
  refine call_mk (n := 3) (binds := fun xa => [(Str.ofString "self", .ref xa), (Str.ofString "tokens", .ref tt)]) R G (mk_Mark _) (in_Mark _) (ty_Mark _) (by k_is) (by k_is) (fun xa h₁ G₁ => by first | exact BindsTo.of_eq (by rfl) | exact binds_K G₁.x rfl (by k_is) rfl rfl rfl) (fun xa => by rfl) (fun A g L h tk xa dx R F N G u hx hn hdn hne => ?_)
  have hO := isD_nil w.params
  repeat (first
   | ((with_reducible show wpAny _ _ (setAttr _ (Str.ofString "tokens") _) _ _ _); first | (refine s_attr (pre := []) (setOk_of (ca_Mark _) (fa_Mark_tokens _)) F N G (F.keep _ _ hx) hO (by first | assumption | k_all) (by first | assumption | k_all) (Nat.le_of_ble_eq_true rfl) ?_; clear F N hO; intro h o F N hO; (try simp only [List.nil_append, List.cons_append] at N)) | (refine s_attr (pre := [_]) (setOk_of (ca_Mark _) (fa_Mark_tokens _)) F N G (F.keep _ _ hx) hO (by first | assumption | k_all) (by first | assumption | k_all) (Nat.le_of_ble_eq_true rfl) ?_; clear F N hO; intro h o F N hO; (try simp only [List.nil_append, List.cons_append] at N)) | (refine s_attr (pre := [_, _]) (setOk_of (ca_Mark _) (fa_Mark_tokens _)) F N G (F.keep _ _ hx) hO (by first | assumption | k_all) (by first | assumption | k_all) (Nat.le_of_ble_eq_true rfl) ?_; clear F N hO; intro h o F N hO; (try simp only [List.nil_append, List.cons_append] at N)))
   | ((with_reducible show wpAny _ _ (eval (Expr.Call (Expr.Name (Str.ofString "tuple") _) _ _ _) _) _ _ _); refine e_tcall1 (n_tuple F G ⟨rfl, ?_⟩ (by rfl) (by rfl)))
   | walk_at "mS")
  refine k_tup_same (F.keep _ _ (u _ _ ht)) ?_
  repeat (first
   | ((with_reducible show wpAny _ _ (setAttr _ (Str.ofString "tokens") _) _ _ _); first | (refine s_attr (pre := []) (setOk_of (ca_Mark _) (fa_Mark_tokens _)) F N G (F.keep _ _ hx) hO (by first | assumption | k_all) (by first | assumption | k_all) (Nat.le_of_ble_eq_true rfl) ?_; clear F N hO; intro h o F N hO; (try simp only [List.nil_append, List.cons_append] at N)) | (refine s_attr (pre := [_]) (setOk_of (ca_Mark _) (fa_Mark_tokens _)) F N G (F.keep _ _ hx) hO (by first | assumption | k_all) (by first | assumption | k_all) (Nat.le_of_ble_eq_true rfl) ?_; clear F N hO; intro h o F N hO; (try simp only [List.nil_append, List.cons_append] at N)) | (refine s_attr (pre := [_, _]) (setOk_of (ca_Mark _) (fa_Mark_tokens _)) F N G (F.keep _ _ hx) hO (by first | assumption | k_all) (by first | assumption | k_all) (Nat.le_of_ble_eq_true rfl) ?_; clear F N hO; intro h o F N hO; (try simp only [List.nil_append, List.cons_append] at N)))
   | walk_at "mS")
  all_goals exact ⟨rfl, kq _ _ _ _ _ ⟨fun b o e => F.keep _ _ (u b o e), hn, hdn, hne, F.keep _ _ hx, (N _ (.head _)).1, hO⟩⟩
theorem mk_Box_c {k : Int} {tk0 : Tok} {iv : Value} (R : Rm 5 A) (G : Gd w p loose mg mb h) (hk : 2 ≤ k ∧ k ≤ 3) (hw : -1073741823 ≤ wd ∧ wd ≤ 1073741823) (hhh : -1073741823 ≤ hh ∧ hh ≤ 1073741823) (hdd : -1073741823 ≤ dd ∧ dd ≤ 1073741823)
    (kq : ∀ h' tk' x dx o rt t1 t2 t3 t4, NewI w.params h h' x dx 342 o [K_ "kind" (.int k tk0), K_ "width" (.int wd tx), K_ "height" (.int hh th), K_ "depth" (.int dd td), K_ "items" iv, K_ "shift" (.int 0 t1), K_ "sign" (.int 0 612), K_ "order" (.int 0 t2), K_ "ratio" (.ref rt)] →
      h.get? rt = none → h'.get? rt = some (tupOf [.int 0 t3, .int 1 t4]) → rt ≠ x → rt ≠ dx → Q (.ref x) ⟨h', gs, dr, tk', os⟩) :
    wpAny (model prog w) A (call (.ref 342) [.int k tk0, .int wd tx, .int hh th, .int dd td, iv]) Q E ⟨h, gs, dr, tk, os⟩ := by
  refine call_mk (n := 3) (binds := fun xa => [(Str.ofString "self", .ref xa), (Str.ofString "kind", .int k tk0), (Str.ofString "width", .int wd tx), (Str.ofString "height", .int hh th), (Str.ofString "depth", .int dd td), (Str.ofString "items", iv)]) R G (mk_Box _) (in_Box _) (ty_Box _) (by k_is) (by k_is) (fun xa h₁ G₁ => by first | exact BindsTo.of_eq (by rfl) | exact binds_K G₁.x rfl (by k_is) rfl rfl rfl) (fun xa => by rfl) (fun A g L h tk xa dx R F N G u hx hn hdn hne => ?_)
  have hO := isD_nil w.params
  repeat (first
   | ((with_reducible show wpAny _ _ (setAttr _ (Str.ofString "kind") _) _ _ _); first | (refine s_attr (pre := []) (setOk_of (ca_Box _) (fa_Box_kind _)) F N G (F.keep _ _ hx) hO (by first | assumption | k_all) (by first | assumption | k_all) (Nat.le_of_ble_eq_true rfl) ?_; clear F N hO; intro h o F N hO; (try simp only [List.nil_append, List.cons_append] at N)) | (refine s_attr (pre := [_]) (setOk_of (ca_Box _) (fa_Box_kind _)) F N G (F.keep _ _ hx) hO (by first | assumption | k_all) (by first | assumption | k_all) (Nat.le_of_ble_eq_true rfl) ?_; clear F N hO; intro h o F N hO; (try simp only [List.nil_append, List.cons_append] at N)) | (refine s_attr (pre := [_, _]) (setOk_of (ca_Box _) (fa_Box_kind _)) F N G (F.keep _ _ hx) hO (by first | assumption | k_all) (by first | assumption | k_all) (Nat.le_of_ble_eq_true rfl) ?_; clear F N hO; intro h o F N hO; (try simp only [List.nil_append, List.cons_append] at N)))
   | ((with_reducible show wpAny _ _ (setAttr _ (Str.ofString "width") _) _ _ _); first | (refine s_attr (pre := []) (setOk_of (ca_Box _) (fa_Box_width _)) F N G (F.keep _ _ hx) hO (by first | assumption | k_all) (by first | assumption | k_all) (Nat.le_of_ble_eq_true rfl) ?_; clear F N hO; intro h o F N hO; (try simp only [List.nil_append, List.cons_append] at N)) | (refine s_attr (pre := [_]) (setOk_of (ca_Box _) (fa_Box_width _)) F N G (F.keep _ _ hx) hO (by first | assumption | k_all) (by first | assumption | k_all) (Nat.le_of_ble_eq_true rfl) ?_; clear F N hO; intro h o F N hO; (try simp only [List.nil_append, List.cons_append] at N)) | (refine s_attr (pre := [_, _]) (setOk_of (ca_Box _) (fa_Box_width _)) F N G (F.keep _ _ hx) hO (by first | assumption | k_all) (by first | assumption | k_all) (Nat.le_of_ble_eq_true rfl) ?_; clear F N hO; intro h o F N hO; (try simp only [List.nil_append, List.cons_append] at N)))
   | ((with_reducible show wpAny _ _ (setAttr _ (Str.ofString "height") _) _ _ _); first | (refine s_attr (pre := []) (setOk_of (ca_Box _) (fa_Box_height _)) F N G (F.keep _ _ hx) hO (by first | assumption | k_all) (by first | assumption | k_all) (Nat.le_of_ble_eq_true rfl) ?_; clear F N hO; intro h o F N hO; (try simp only [List.nil_append, List.cons_append] at N)) | (refine s_attr (pre := [_]) (setOk_of (ca_Box _) (fa_Box_height _)) F N G (F.keep _ _ hx) hO (by first | assumption | k_all) (by first | assumption | k_all) (Nat.le_of_ble_eq_true rfl) ?_; clear F N hO; intro h o F N hO; (try simp only [List.nil_append, List.cons_append] at N)) | (refine s_attr (pre := [_, _]) (setOk_of (ca_Box _) (fa_Box_height _)) F N G (F.keep _ _ hx) hO (by first | assumption | k_all) (by first | assumption | k_all) (Nat.le_of_ble_eq_true rfl) ?_; clear F N hO; intro h o F N hO; (try simp only [List.nil_append, List.cons_append] at N)))
   | ((with_reducible show wpAny _ _ (setAttr _ (Str.ofString "depth") _) _ _ _); first | (refine s_attr (pre := []) (setOk_of (ca_Box _) (fa_Box_depth _)) F N G (F.keep _ _ hx) hO (by first | assumption | k_all) (by first | assumption | k_all) (Nat.le_of_ble_eq_true rfl) ?_; clear F N hO; intro h o F N hO; (try simp only [List.nil_append, List.cons_append] at N)) | (refine s_attr (pre := [_]) (setOk_of (ca_Box _) (fa_Box_depth _)) F N G (F.keep _ _ hx) hO (by first | assumption | k_all) (by first | assumption | k_all) (Nat.le_of_ble_eq_true rfl) ?_; clear F N hO; intro h o F N hO; (try simp only [List.nil_append, List.cons_append] at N)) | (refine s_attr (pre := [_, _]) (setOk_of (ca_Box _) (fa_Box_depth _)) F N G (F.keep _ _ hx) hO (by first | assumption | k_all) (by first | assumption | k_all) (Nat.le_of_ble_eq_true rfl) ?_; clear F N hO; intro h o F N hO; (try simp only [List.nil_append, List.cons_append] at N)))
   | ((with_reducible show wpAny _ _ (setAttr _ (Str.ofString "items") _) _ _ _); first | (refine s_attr (pre := []) (setOk_of (ca_Box _) (fa_Box_items _)) F N G (F.keep _ _ hx) hO (by first | assumption | k_all) (by first | assumption | k_all) (Nat.le_of_ble_eq_true rfl) ?_; clear F N hO; intro h o F N hO; (try simp only [List.nil_append, List.cons_append] at N)) | (refine s_attr (pre := [_]) (setOk_of (ca_Box _) (fa_Box_items _)) F N G (F.keep _ _ hx) hO (by first | assumption | k_all) (by first | assumption | k_all) (Nat.le_of_ble_eq_true rfl) ?_; clear F N hO; intro h o F N hO; (try simp only [List.nil_append, List.cons_append] at N)) | (refine s_attr (pre := [_, _]) (setOk_of (ca_Box _) (fa_Box_items _)) F N G (F.keep _ _ hx) hO (by first | assumption | k_all) (by first | assumption | k_all) (Nat.le_of_ble_eq_true rfl) ?_; clear F N hO; intro h o F N hO; (try simp only [List.nil_append, List.cons_append] at N)))
   | ((with_reducible show wpAny _ _ (setAttr _ (Str.ofString "shift") _) _ _ _); first | (refine s_attr (pre := []) (setOk_of (ca_Box _) (fa_Box_shift _)) F N G (F.keep _ _ hx) hO (by first | assumption | k_all) (by first | assumption | k_all) (Nat.le_of_ble_eq_true rfl) ?_; clear F N hO; intro h o F N hO; (try simp only [List.nil_append, List.cons_append] at N)) | (refine s_attr (pre := [_]) (setOk_of (ca_Box _) (fa_Box_shift _)) F N G (F.keep _ _ hx) hO (by first | assumption | k_all) (by first | assumption | k_all) (Nat.le_of_ble_eq_true rfl) ?_; clear F N hO; intro h o F N hO; (try simp only [List.nil_append, List.cons_append] at N)) | (refine s_attr (pre := [_, _]) (setOk_of (ca_Box _) (fa_Box_shift _)) F N G (F.keep _ _ hx) hO (by first | assumption | k_all) (by first | assumption | k_all) (Nat.le_of_ble_eq_true rfl) ?_; clear F N hO; intro h o F N hO; (try simp only [List.nil_append, List.cons_append] at N)))
   | ((with_reducible show wpAny _ _ (setAttr _ (Str.ofString "sign") _) _ _ _); first | (refine s_attr (pre := []) (setOk_of (ca_Box _) (fa_Box_sign _)) F N G (F.keep _ _ hx) hO (by first | assumption | k_all) (by first | assumption | k_all) (Nat.le_of_ble_eq_true rfl) ?_; clear F N hO; intro h o F N hO; (try simp only [List.nil_append, List.cons_append] at N)) | (refine s_attr (pre := [_]) (setOk_of (ca_Box _) (fa_Box_sign _)) F N G (F.keep _ _ hx) hO (by first | assumption | k_all) (by first | assumption | k_all) (Nat.le_of_ble_eq_true rfl) ?_; clear F N hO; intro h o F N hO; (try simp only [List.nil_append, List.cons_append] at N)) | (refine s_attr (pre := [_, _]) (setOk_of (ca_Box _) (fa_Box_sign _)) F N G (F.keep _ _ hx) hO (by first | assumption | k_all) (by first | assumption | k_all) (Nat.le_of_ble_eq_true rfl) ?_; clear F N hO; intro h o F N hO; (try simp only [List.nil_append, List.cons_append] at N)))
   | ((with_reducible show wpAny _ _ (setAttr _ (Str.ofString "order") _) _ _ _); first | (refine s_attr (pre := []) (setOk_of (ca_Box _) (fa_Box_order _)) F N G (F.keep _ _ hx) hO (by first | assumption | k_all) (by first | assumption | k_all) (Nat.le_of_ble_eq_true rfl) ?_; clear F N hO; intro h o F N hO; (try simp only [List.nil_append, List.cons_append] at N)) | (refine s_attr (pre := [_]) (setOk_of (ca_Box _) (fa_Box_order _)) F N G (F.keep _ _ hx) hO (by first | assumption | k_all) (by first | assumption | k_all) (Nat.le_of_ble_eq_true rfl) ?_; clear F N hO; intro h o F N hO; (try simp only [List.nil_append, List.cons_append] at N)) | (refine s_attr (pre := [_, _]) (setOk_of (ca_Box _) (fa_Box_order _)) F N G (F.keep _ _ hx) hO (by first | assumption | k_all) (by first | assumption | k_all) (Nat.le_of_ble_eq_true rfl) ?_; clear F N hO; intro h o F N hO; (try simp only [List.nil_append, List.cons_append] at N)))
   | ((with_reducible show wpAny _ _ (setAttr _ (Str.ofString "ratio") _) _ _ _); first | (refine s_attr (pre := []) (setOk_of (ca_Box _) (fa_Box_ratio _)) F N G (F.keep _ _ hx) hO (by first | assumption | k_all) (by first | assumption | k_all) (Nat.le_of_ble_eq_true rfl) ?_; clear F N hO; intro h o F N hO; (try simp only [List.nil_append, List.cons_append] at N)) | (refine s_attr (pre := [_]) (setOk_of (ca_Box _) (fa_Box_ratio _)) F N G (F.keep _ _ hx) hO (by first | assumption | k_all) (by first | assumption | k_all) (Nat.le_of_ble_eq_true rfl) ?_; clear F N hO; intro h o F N hO; (try simp only [List.nil_append, List.cons_append] at N)) | (refine s_attr (pre := [_, _]) (setOk_of (ca_Box _) (fa_Box_ratio _)) F N G (F.keep _ _ hx) hO (by first | assumption | k_all) (by first | assumption | k_all) (Nat.le_of_ble_eq_true rfl) ?_; clear F N hO; intro h o F N hO; (try simp only [List.nil_append, List.cons_append] at N)))
   | ((with_reducible show wpAny _ _ (eval (Expr.Name _ _) _) _ _ _); first | ((with_reducible refine n_HBOX F G ?_ ?hka ?hkb); (case hka => rfl); (case hkb => rfl)) | ((with_reducible refine n_VBOX F G ?_ ?hka ?hkb); (case hka => rfl); (case hkb => rfl)) | ((with_reducible refine n_NATURAL F G ?_ ?hka ?hkb); (case hka => rfl); (case hkb => rfl)))
   | ((with_reducible show wpAny _ _ (eval (Expr.Call (Expr.Name (Str.ofString "is_whole") _) _ _ _) _) _ _ _); refine e_call3 (kp_is_whole _) (n_is_whole F G ⟨rfl, ?_⟩ (by rfl) (by rfl)))
   | ((with_reducible show wpAny _ _ (call (Value.ref 89) _) _ _ _); (refine is_whole_c (R.le (by decide)) (G.fr F) ?_; intro h tk b u hr; subst hr; replace F := Fr.up F u; replace N := News.up N u; clear u))
   | ((with_reducible show wpAny _ _ (eval (Expr.Call (Expr.Name (Str.ofString "check_dimen") _) _ _ _) _) _ _ _); refine e_call1 (kp_check_dimen _) (n_check_dimen F G ⟨rfl, ?_⟩ (by rfl) (by rfl)))
   | ((with_reducible show wpAny _ _ (call (Value.ref 110) _) _ _ _); (refine check_dimen_c (R.le (by decide)) (G.fr F) (by omega) ?_; intro h tk u; replace F := Fr.up F u; replace N := News.up N u; clear u))
   | walk_at "mS")
  all_goals
    have N1 := N _ (.head _)
    exact ⟨rfl, kq _ _ _ _ _ t _ _ _ _ ⟨fun b o e => F.keep _ _ (u b o e), hn, hdn, hne, F.keep _ _ hx, (N _ (.tail _ (.head _))).1, hO⟩ (none_up u N1.2.2) N1.1 (fun q => by rw [q, hx] at N1; cases N1.2.2) (Nat.ne_of_gt hlt)⟩
theorem mk_Glue_c {st so sk ko : Int} {t1 t2 t3 t4 : Tok} (R : Rm 5 A) (G : Gd w p loose mg mb h) (hw : -1073741823 ≤ wd ∧ wd ≤ 1073741823) (hs : -1073741823 ≤ st ∧ st ≤ 1073741823) (hs2 : 0 ≤ so ∧ so ≤ 3) (hk : -1073741823 ≤ sk ∧ sk ≤ 1073741823) (hk2 : 0 ≤ ko ∧ ko ≤ 3)
    (kq : ∀ h' tk' x dx o r1 r2 u1 u2, r1 = (if st = 0 then 0 else so) → r2 = (if sk = 0 then 0 else ko) → NewI w.params h h' x dx 234 o [K_ "width" (.int wd tx), K_ "stretch" (.int st t1), K_ "stretch_order" (.int r1 u1), K_ "shrink" (.int sk t3), K_ "shrink_order" (.int r2 u2)] → Q (.ref x) ⟨h', gs, dr, tk', os⟩) :
    wpAny (model prog w) A (call (.ref 234) [.int wd tx, .int st t1, .int so t2, .int sk t3, .int ko t4]) Q E ⟨h, gs, dr, tk, os⟩ := by
  refine call_mk (n := 3) (binds := fun xa => [(Str.ofString "self", .ref xa), (Str.ofString "width", .int wd tx), (Str.ofString "stretch", .int st t1), (Str.ofString "stretch_order", .int so t2), (Str.ofString "shrink", .int sk t3), (Str.ofString "shrink_order", .int ko t4)]) R G (mk_Glue _) (in_Glue _) (ty_Glue _) (by k_is) (by k_is) (fun xa h₁ G₁ => by first | exact BindsTo.of_eq (by rfl) | exact binds_K G₁.x rfl (by k_is) rfl rfl rfl) (fun xa => by rfl) (fun A g L h tk xa dx R F N G u hx hn hdn hne => ?_)
  have hO := isD_nil w.params
  repeat (first
   | ((with_reducible show wpAny _ _ (setAttr _ (Str.ofString "width") _) _ _ _); first | (refine s_attr (pre := []) (setOk_of (ca_Glue _) (fa_Glue_width _)) F N G (F.keep _ _ hx) hO (by first | assumption | k_all) (by first | assumption | k_all) (Nat.le_of_ble_eq_true rfl) ?_; clear F N hO; intro h o F N hO; (try simp only [List.nil_append, List.cons_append] at N)) | (refine s_attr (pre := [_]) (setOk_of (ca_Glue _) (fa_Glue_width _)) F N G (F.keep _ _ hx) hO (by first | assumption | k_all) (by first | assumption | k_all) (Nat.le_of_ble_eq_true rfl) ?_; clear F N hO; intro h o F N hO; (try simp only [List.nil_append, List.cons_append] at N)) | (refine s_attr (pre := [_, _]) (setOk_of (ca_Glue _) (fa_Glue_width _)) F N G (F.keep _ _ hx) hO (by first | assumption | k_all) (by first | assumption | k_all) (Nat.le_of_ble_eq_true rfl) ?_; clear F N hO; intro h o F N hO; (try simp only [List.nil_append, List.cons_append] at N)))
   | ((with_reducible show wpAny _ _ (setAttr _ (Str.ofString "stretch") _) _ _ _); first | (refine s_attr (pre := []) (setOk_of (ca_Glue _) (fa_Glue_stretch _)) F N G (F.keep _ _ hx) hO (by first | assumption | k_all) (by first | assumption | k_all) (Nat.le_of_ble_eq_true rfl) ?_; clear F N hO; intro h o F N hO; (try simp only [List.nil_append, List.cons_append] at N)) | (refine s_attr (pre := [_]) (setOk_of (ca_Glue _) (fa_Glue_stretch _)) F N G (F.keep _ _ hx) hO (by first | assumption | k_all) (by first | assumption | k_all) (Nat.le_of_ble_eq_true rfl) ?_; clear F N hO; intro h o F N hO; (try simp only [List.nil_append, List.cons_append] at N)) | (refine s_attr (pre := [_, _]) (setOk_of (ca_Glue _) (fa_Glue_stretch _)) F N G (F.keep _ _ hx) hO (by first | assumption | k_all) (by first | assumption | k_all) (Nat.le_of_ble_eq_true rfl) ?_; clear F N hO; intro h o F N hO; (try simp only [List.nil_append, List.cons_append] at N)))
   | ((with_reducible show wpAny _ _ (setAttr _ (Str.ofString "stretch_order") _) _ _ _); first | (refine s_attr (pre := []) (setOk_of (ca_Glue _) (fa_Glue_stretch_order _)) F N G (F.keep _ _ hx) hO (by first | assumption | k_all) (by first | assumption | k_all) (Nat.le_of_ble_eq_true rfl) ?_; clear F N hO; intro h o F N hO; (try simp only [List.nil_append, List.cons_append] at N)) | (refine s_attr (pre := [_]) (setOk_of (ca_Glue _) (fa_Glue_stretch_order _)) F N G (F.keep _ _ hx) hO (by first | assumption | k_all) (by first | assumption | k_all) (Nat.le_of_ble_eq_true rfl) ?_; clear F N hO; intro h o F N hO; (try simp only [List.nil_append, List.cons_append] at N)) | (refine s_attr (pre := [_, _]) (setOk_of (ca_Glue _) (fa_Glue_stretch_order _)) F N G (F.keep _ _ hx) hO (by first | assumption | k_all) (by first | assumption | k_all) (Nat.le_of_ble_eq_true rfl) ?_; clear F N hO; intro h o F N hO; (try simp only [List.nil_append, List.cons_append] at N)))
   | ((with_reducible show wpAny _ _ (setAttr _ (Str.ofString "shrink") _) _ _ _); first | (refine s_attr (pre := []) (setOk_of (ca_Glue _) (fa_Glue_shrink _)) F N G (F.keep _ _ hx) hO (by first | assumption | k_all) (by first | assumption | k_all) (Nat.le_of_ble_eq_true rfl) ?_; clear F N hO; intro h o F N hO; (try simp only [List.nil_append, List.cons_append] at N)) | (refine s_attr (pre := [_]) (setOk_of (ca_Glue _) (fa_Glue_shrink _)) F N G (F.keep _ _ hx) hO (by first | assumption | k_all) (by first | assumption | k_all) (Nat.le_of_ble_eq_true rfl) ?_; clear F N hO; intro h o F N hO; (try simp only [List.nil_append, List.cons_append] at N)) | (refine s_attr (pre := [_, _]) (setOk_of (ca_Glue _) (fa_Glue_shrink _)) F N G (F.keep _ _ hx) hO (by first | assumption | k_all) (by first | assumption | k_all) (Nat.le_of_ble_eq_true rfl) ?_; clear F N hO; intro h o F N hO; (try simp only [List.nil_append, List.cons_append] at N)))
   | ((with_reducible show wpAny _ _ (setAttr _ (Str.ofString "shrink_order") _) _ _ _); first | (refine s_attr (pre := []) (setOk_of (ca_Glue _) (fa_Glue_shrink_order _)) F N G (F.keep _ _ hx) hO (by first | assumption | k_all) (by first | assumption | k_all) (Nat.le_of_ble_eq_true rfl) ?_; clear F N hO; intro h o F N hO; (try simp only [List.nil_append, List.cons_append] at N)) | (refine s_attr (pre := [_]) (setOk_of (ca_Glue _) (fa_Glue_shrink_order _)) F N G (F.keep _ _ hx) hO (by first | assumption | k_all) (by first | assumption | k_all) (Nat.le_of_ble_eq_true rfl) ?_; clear F N hO; intro h o F N hO; (try simp only [List.nil_append, List.cons_append] at N)) | (refine s_attr (pre := [_, _]) (setOk_of (ca_Glue _) (fa_Glue_shrink_order _)) F N G (F.keep _ _ hx) hO (by first | assumption | k_all) (by first | assumption | k_all) (Nat.le_of_ble_eq_true rfl) ?_; clear F N hO; intro h o F N hO; (try simp only [List.nil_append, List.cons_append] at N)))
   | ((with_reducible show wpAny _ _ (eval (Expr.Name _ _) _) _ _ _); first | ((with_reducible refine n_NORMAL F G ?_ ?hka ?hkb); (case hka => rfl); (case hkb => rfl)) | ((with_reducible refine n_FILLL F G ?_ ?hka ?hkb); (case hka => rfl); (case hkb => rfl)))
   | ((with_reducible show wpAny _ _ (eval (Expr.Call (Expr.Name (Str.ofString "is_whole") _) _ _ _) _) _ _ _); refine e_call3 (kp_is_whole _) (n_is_whole F G ⟨rfl, ?_⟩ (by rfl) (by rfl)))
   | ((with_reducible show wpAny _ _ (call (Value.ref 89) _) _ _ _); (refine is_whole_c (R.le (by decide)) (G.fr F) ?_; intro h tk b u hr; subst hr; replace F := Fr.up F u; replace N := News.up N u; clear u))
   | ((with_reducible show wpAny _ _ (eval (Expr.Call (Expr.Name (Str.ofString "check_dimen") _) _ _ _) _) _ _ _); refine e_call1 (kp_check_dimen _) (n_check_dimen F G ⟨rfl, ?_⟩ (by rfl) (by rfl)))
   | ((with_reducible show wpAny _ _ (call (Value.ref 110) _) _ _ _); (refine check_dimen_c (R.le (by decide)) (G.fr F) (by omega) ?_; intro h tk u; replace F := Fr.up F u; replace N := News.up N u; clear u))
   | walk_at "mS")
  all_goals refine ⟨rfl, kq _ _ _ _ _ _ _ _ _ ?_ ?_ ⟨fun b o e => F.keep _ _ (u b o e), hn, hdn, hne, F.keep _ _ hx, (N _ (.head _)).1, hO⟩⟩
  all_goals simp [*]
theorem mk_Totals_c (R : Rm 5 A) (G : Gd w p loose mg mb h)
    (kq : ∀ h' tk' x dx o sl sh t0 a0 a1 a2 a3 b0 b1 b2 b3, NewI w.params h h' x dx 297 o [K_ "natural" (.int 0 t0), K_ "stretch" (.ref sl), K_ "shrink" (.ref sh)] →
      h'.get? sl = some (lstOf [.int 0 a0, .int 0 a1, .int 0 a2, .int 0 a3] 0) → h'.get? sh = some (lstOf [.int 0 b0, .int 0 b1, .int 0 b2, .int 0 b3] 0) → h.get? sl = none → h.get? sh = none → sl ≠ x → sl ≠ dx → sh ≠ x → sh ≠ dx → sl ≠ sh → Q (.ref x) ⟨h', gs, dr, tk', os⟩) :
    wpAny (model prog w) A (call (.ref 297) []) Q E ⟨h, gs, dr, tk, os⟩ := by
  refine call_mk (n := 3) (binds := fun xa => [(Str.ofString "self", .ref xa)]) R G (mk_Totals _) (in_Totals _) (ty_Totals _) (by k_is) (by k_is) (fun xa h₁ G₁ => BindsTo.of_eq (by rfl)) (fun xa => by rfl) (fun A g L h tk xa dx R F N G u hx hn hdn hne => ?_)
  have hO := isD_nil w.params
  repeat (first
   | ((with_reducible show wpAny _ _ (setAttr _ (Str.ofString "natural") _) _ _ _); first | (refine s_attr (pre := []) (setOk_of (ca_Totals _) (fa_Totals_natural _)) F N G (F.keep _ _ hx) hO (by first | assumption | k_all) (by first | assumption | k_all) (Nat.le_of_ble_eq_true rfl) ?_; clear F N hO; intro h o F N hO; (try simp only [List.nil_append, List.cons_append] at N)) | (refine s_attr (pre := [_]) (setOk_of (ca_Totals _) (fa_Totals_natural _)) F N G (F.keep _ _ hx) hO (by first | assumption | k_all) (by first | assumption | k_all) (Nat.le_of_ble_eq_true rfl) ?_; clear F N hO; intro h o F N hO; (try simp only [List.nil_append, List.cons_append] at N)) | (refine s_attr (pre := [_, _]) (setOk_of (ca_Totals _) (fa_Totals_natural _)) F N G (F.keep _ _ hx) hO (by first | assumption | k_all) (by first | assumption | k_all) (Nat.le_of_ble_eq_true rfl) ?_; clear F N hO; intro h o F N hO; (try simp only [List.nil_append, List.cons_append] at N)))
   | ((with_reducible show wpAny _ _ (setAttr _ (Str.ofString "stretch") _) _ _ _); first | (refine s_attr (pre := []) (setOk_of (ca_Totals _) (fa_Totals_stretch _)) F N G (F.keep _ _ hx) hO (by first | assumption | k_all) (by first | assumption | k_all) (Nat.le_of_ble_eq_true rfl) ?_; clear F N hO; intro h o F N hO; (try simp only [List.nil_append, List.cons_append] at N)) | (refine s_attr (pre := [_]) (setOk_of (ca_Totals _) (fa_Totals_stretch _)) F N G (F.keep _ _ hx) hO (by first | assumption | k_all) (by first | assumption | k_all) (Nat.le_of_ble_eq_true rfl) ?_; clear F N hO; intro h o F N hO; (try simp only [List.nil_append, List.cons_append] at N)) | (refine s_attr (pre := [_, _]) (setOk_of (ca_Totals _) (fa_Totals_stretch _)) F N G (F.keep _ _ hx) hO (by first | assumption | k_all) (by first | assumption | k_all) (Nat.le_of_ble_eq_true rfl) ?_; clear F N hO; intro h o F N hO; (try simp only [List.nil_append, List.cons_append] at N)))
   | ((with_reducible show wpAny _ _ (setAttr _ (Str.ofString "shrink") _) _ _ _); first | (refine s_attr (pre := []) (setOk_of (ca_Totals _) (fa_Totals_shrink _)) F N G (F.keep _ _ hx) hO (by first | assumption | k_all) (by first | assumption | k_all) (Nat.le_of_ble_eq_true rfl) ?_; clear F N hO; intro h o F N hO; (try simp only [List.nil_append, List.cons_append] at N)) | (refine s_attr (pre := [_]) (setOk_of (ca_Totals _) (fa_Totals_shrink _)) F N G (F.keep _ _ hx) hO (by first | assumption | k_all) (by first | assumption | k_all) (Nat.le_of_ble_eq_true rfl) ?_; clear F N hO; intro h o F N hO; (try simp only [List.nil_append, List.cons_append] at N)) | (refine s_attr (pre := [_, _]) (setOk_of (ca_Totals _) (fa_Totals_shrink _)) F N G (F.keep _ _ hx) hO (by first | assumption | k_all) (by first | assumption | k_all) (Nat.le_of_ble_eq_true rfl) ?_; clear F N hO; intro h o F N hO; (try simp only [List.nil_append, List.cons_append] at N)))
   | walk_at "mS")
  all_goals
    have N0 := N _ (.head _)
    have N1 := N _ (.tail _ (.head _))
    have N2 := N _ (.tail _ (.tail _ (.head _)))
    have nx : ∀ {b : Addr}, g.get? b = none → b ≠ xa := fun e q => by rw [q, hx] at e; cases e
    exact ⟨rfl, kq _ _ _ _ _ _ _ _ _ _ _ _ _ _ _ _ ⟨fun b o e => F.keep _ _ (u b o e), hn, hdn, hne, F.keep _ _ hx, N2.1, hO⟩ N1.1 N0.1 (none_up u N1.2.2) (none_up u N0.2.2) (nx N1.2.2) (Nat.ne_of_gt (by assumption)) (nx N0.2.2) (Nat.ne_of_gt hlt.2) (Nat.ne_of_lt hlt.1)⟩
theorem mk_Rule_c {oa ob oc : Option (Int × Tok)} (R : Rm 5 A) (G : Gd w p loose mg mb h) (ha : ∀ q, oa = some q → -1073741823 ≤ q.1 ∧ q.1 ≤ 1073741823) (hb : ∀ q, ob = some q → -1073741823 ≤ q.1 ∧ q.1 ≤ 1073741823) (hc : ∀ q, oc = some q → -1073741823 ≤ q.1 ∧ q.1 ≤ 1073741823)
    (kq : ∀ h' tk' x dx o, NewI w.params h h' x dx 363 o [K_ "width" (OvV oa), K_ "height" (OvV ob), K_ "depth" (OvV oc)] → Q (.ref x) ⟨h', gs, dr, tk', os⟩) :
    wpAny (model prog w) A (call (.ref 363) [OvV oa, OvV ob, OvV oc]) Q E ⟨h, gs, dr, tk, os⟩ := by
  refine call_mk (n := 3) (binds := fun xa => [(Str.ofString "self", .ref xa), (Str.ofString "width", OvV oa), (Str.ofString "height", OvV ob), (Str.ofString "depth", OvV oc)]) R G (mk_Rule _) (in_Rule _) (ty_Rule _) (by k_is) (by k_is) (fun xa h₁ G₁ => by first | exact BindsTo.of_eq (by rfl) | exact binds_K G₁.x rfl (by k_is) rfl rfl rfl) (fun xa => by rfl) (fun A g L h tk xa dx R F N G u hx hn hdn hne => ?_)
  have hO := isD_nil w.params
  refine x_for g ?_
  repeat (first
   | walk_at "mS")
  refine for_tup (fun i m' led' => led' = [(dx, dictOf [] 0)] ∧ m' (Str.ofString "self") = some (.ref xa) ∧ m' (Str.ofString "width") = some (OvV oa) ∧ m' (Str.ofString "height") = some (OvV ob) ∧ m' (Str.ofString "depth") = some (OvV oc)) R.hd ((N _ (.head _)).1) (N _ (.head _)).2.1 F (fun q hq => N q (.tail _ hq)) ⟨rfl, by rfl, by rfl, by rfl, by rfl⟩ (fun i m' led' z => by rw [z.1]) ?_ ?_
  · rintro i v m₁ led₁ h tk own hv ⟨rfl, m1, m2, m3, m4⟩ F N
    have ⟨o, ho, hq⟩ : ∃ o, v = OvV o ∧ ∀ q, o = some q → -1073741823 ≤ q.1 ∧ q.1 ≤ 1073741823 := by
      rcases i with _ | _ | _ | i
      · exact ⟨oa, (Option.some.inj hv).symm, ha⟩
      · exact ⟨ob, (Option.some.inj hv).symm, hb⟩
      · exact ⟨oc, (Option.some.inj hv).symm, hc⟩
      · simp at hv
    subst ho
    rcases o with _ | ⟨i, t⟩
    · simp only [OvV] at F
      repeat (first
   | walk_at "mS")
      all_goals exact ⟨_, _, _, _, rfl, F, N, rfl, m1, m2, m3, m4⟩
    · have hq := hq _ rfl
      simp only [OvV] at F
      dsimp only at hq
      repeat (first
   | ((with_reducible show wpAny _ _ (eval (Expr.Call (Expr.Name (Str.ofString "check_dimen") _) _ _ _) _) _ _ _); refine e_call1 (kp_check_dimen _) (n_check_dimen F G ⟨rfl, ?_⟩ (by rfl) (by rfl)))
   | ((with_reducible show wpAny _ _ (call (Value.ref 110) _) _ _ _); (refine check_dimen_c (R.le (by decide)) (G.fr F) (by omega) ?_; intro h tk u; replace F := Fr.up F u; replace N := News.up N u; clear u))
   | walk_at "mS")
      all_goals exact ⟨_, _, _, _, rfl, F, N, rfl, m1, m2, m3, m4⟩
  · rintro m' led' h tk ⟨rfl, m1, m2, m3, m4⟩ F N
    show wpAny _ _ _ _ _ _
    have F : Fr g L h (lo [] m') := F
    repeat (first
   | ((with_reducible show wpAny _ _ (setAttr _ (Str.ofString "width") _) _ _ _); first | (refine s_attr (pre := []) (setOk_of (ca_Rule _) (fa_Rule_width _)) F N G (F.keep _ _ hx) hO (by first | assumption | k_all) (by first | assumption | k_all) (Nat.le_of_ble_eq_true rfl) ?_; clear F N hO; intro h o F N hO; (try simp only [List.nil_append, List.cons_append] at N)) | (refine s_attr (pre := [_]) (setOk_of (ca_Rule _) (fa_Rule_width _)) F N G (F.keep _ _ hx) hO (by first | assumption | k_all) (by first | assumption | k_all) (Nat.le_of_ble_eq_true rfl) ?_; clear F N hO; intro h o F N hO; (try simp only [List.nil_append, List.cons_append] at N)) | (refine s_attr (pre := [_, _]) (setOk_of (ca_Rule _) (fa_Rule_width _)) F N G (F.keep _ _ hx) hO (by first | assumption | k_all) (by first | assumption | k_all) (Nat.le_of_ble_eq_true rfl) ?_; clear F N hO; intro h o F N hO; (try simp only [List.nil_append, List.cons_append] at N)))
   | ((with_reducible show wpAny _ _ (setAttr _ (Str.ofString "height") _) _ _ _); first | (refine s_attr (pre := []) (setOk_of (ca_Rule _) (fa_Rule_height _)) F N G (F.keep _ _ hx) hO (by first | assumption | k_all) (by first | assumption | k_all) (Nat.le_of_ble_eq_true rfl) ?_; clear F N hO; intro h o F N hO; (try simp only [List.nil_append, List.cons_append] at N)) | (refine s_attr (pre := [_]) (setOk_of (ca_Rule _) (fa_Rule_height _)) F N G (F.keep _ _ hx) hO (by first | assumption | k_all) (by first | assumption | k_all) (Nat.le_of_ble_eq_true rfl) ?_; clear F N hO; intro h o F N hO; (try simp only [List.nil_append, List.cons_append] at N)) | (refine s_attr (pre := [_, _]) (setOk_of (ca_Rule _) (fa_Rule_height _)) F N G (F.keep _ _ hx) hO (by first | assumption | k_all) (by first | assumption | k_all) (Nat.le_of_ble_eq_true rfl) ?_; clear F N hO; intro h o F N hO; (try simp only [List.nil_append, List.cons_append] at N)))
   | ((with_reducible show wpAny _ _ (setAttr _ (Str.ofString "depth") _) _ _ _); first | (refine s_attr (pre := []) (setOk_of (ca_Rule _) (fa_Rule_depth _)) F N G (F.keep _ _ hx) hO (by first | assumption | k_all) (by first | assumption | k_all) (Nat.le_of_ble_eq_true rfl) ?_; clear F N hO; intro h o F N hO; (try simp only [List.nil_append, List.cons_append] at N)) | (refine s_attr (pre := [_]) (setOk_of (ca_Rule _) (fa_Rule_depth _)) F N G (F.keep _ _ hx) hO (by first | assumption | k_all) (by first | assumption | k_all) (Nat.le_of_ble_eq_true rfl) ?_; clear F N hO; intro h o F N hO; (try simp only [List.nil_append, List.cons_append] at N)) | (refine s_attr (pre := [_, _]) (setOk_of (ca_Rule _) (fa_Rule_depth _)) F N G (F.keep _ _ hx) hO (by first | assumption | k_all) (by first | assumption | k_all) (Nat.le_of_ble_eq_true rfl) ?_; clear F N hO; intro h o F N hO; (try simp only [List.nil_append, List.cons_append] at N)))
   | walk_at "mS")
    all_goals exact ⟨rfl, kq _ _ _ _ _ ⟨fun b o e => F.keep _ _ (u b o e), hn, hdn, hne, F.keep _ _ hx, (N _ (.head _)).1, hO⟩⟩
theorem mk_Skip0_c {gl : Addr} {srt : Int} (R : Rm 5 A) (G : Gd w p loose mg mb h) (hs : srt = 0)
    (kq : ∀ h' tk' x dx o, NewI w.params h h' x dx 406 o [K_ "glue" (.ref gl), K_ "sort" (.int srt ti), K_ "leader" .none] → Q (.ref x) ⟨h', gs, dr, tk', os⟩) :
    wpAny (model prog w) A (call (.ref 406) [.ref gl, .int srt ti]) Q E ⟨h, gs, dr, tk, os⟩ := by
  refine call_mk (n := 3) (binds := fun xa => [(Str.ofString "self", .ref xa), (Str.ofString "glue", .ref gl), (Str.ofString "sort", .int srt ti), (Str.ofString "leader", .none)]) R G (mk_Skip _) (in_Skip _) (ty_Skip _) (by k_is) (by k_is) (fun xa h₁ G₁ => by first | exact BindsTo.of_eq (by rfl) | exact binds_K G₁.x rfl (by k_is) rfl rfl rfl) (fun xa => by rfl) (fun A g L h tk xa dx R F N G u hx hn hdn hne => ?_)
  have hO := isD_nil w.params
  repeat (first
   | ((with_reducible show wpAny _ _ (setAttr _ (Str.ofString "glue") _) _ _ _); first | (refine s_attr (pre := []) (setOk_of (ca_Skip _) (fa_Skip_glue _)) F N G (F.keep _ _ hx) hO (by first | assumption | k_all) (by first | assumption | k_all) (Nat.le_of_ble_eq_true rfl) ?_; clear F N hO; intro h o F N hO; (try simp only [List.nil_append, List.cons_append] at N)) | (refine s_attr (pre := [_]) (setOk_of (ca_Skip _) (fa_Skip_glue _)) F N G (F.keep _ _ hx) hO (by first | assumption | k_all) (by first | assumption | k_all) (Nat.le_of_ble_eq_true rfl) ?_; clear F N hO; intro h o F N hO; (try simp only [List.nil_append, List.cons_append] at N)) | (refine s_attr (pre := [_, _]) (setOk_of (ca_Skip _) (fa_Skip_glue _)) F N G (F.keep _ _ hx) hO (by first | assumption | k_all) (by first | assumption | k_all) (Nat.le_of_ble_eq_true rfl) ?_; clear F N hO; intro h o F N hO; (try simp only [List.nil_append, List.cons_append] at N)))
   | ((with_reducible show wpAny _ _ (setAttr _ (Str.ofString "sort") _) _ _ _); first | (refine s_attr (pre := []) (setOk_of (ca_Skip _) (fa_Skip_sort _)) F N G (F.keep _ _ hx) hO (by first | assumption | k_all) (by first | assumption | k_all) (Nat.le_of_ble_eq_true rfl) ?_; clear F N hO; intro h o F N hO; (try simp only [List.nil_append, List.cons_append] at N)) | (refine s_attr (pre := [_]) (setOk_of (ca_Skip _) (fa_Skip_sort _)) F N G (F.keep _ _ hx) hO (by first | assumption | k_all) (by first | assumption | k_all) (Nat.le_of_ble_eq_true rfl) ?_; clear F N hO; intro h o F N hO; (try simp only [List.nil_append, List.cons_append] at N)) | (refine s_attr (pre := [_, _]) (setOk_of (ca_Skip _) (fa_Skip_sort _)) F N G (F.keep _ _ hx) hO (by first | assumption | k_all) (by first | assumption | k_all) (Nat.le_of_ble_eq_true rfl) ?_; clear F N hO; intro h o F N hO; (try simp only [List.nil_append, List.cons_append] at N)))
   | ((with_reducible show wpAny _ _ (setAttr _ (Str.ofString "leader") _) _ _ _); first | (refine s_attr (pre := []) (setOk_of (ca_Skip _) (fa_Skip_leader _)) F N G (F.keep _ _ hx) hO (by first | assumption | k_all) (by first | assumption | k_all) (Nat.le_of_ble_eq_true rfl) ?_; clear F N hO; intro h o F N hO; (try simp only [List.nil_append, List.cons_append] at N)) | (refine s_attr (pre := [_]) (setOk_of (ca_Skip _) (fa_Skip_leader _)) F N G (F.keep _ _ hx) hO (by first | assumption | k_all) (by first | assumption | k_all) (Nat.le_of_ble_eq_true rfl) ?_; clear F N hO; intro h o F N hO; (try simp only [List.nil_append, List.cons_append] at N)) | (refine s_attr (pre := [_, _]) (setOk_of (ca_Skip _) (fa_Skip_leader _)) F N G (F.keep _ _ hx) hO (by first | assumption | k_all) (by first | assumption | k_all) (Nat.le_of_ble_eq_true rfl) ?_; clear F N hO; intro h o F N hO; (try simp only [List.nil_append, List.cons_append] at N)))
   | ((with_reducible show wpAny _ _ (eval (Expr.Name _ _) _) _ _ _); first | ((with_reducible refine n_PLAIN F G ?_ ?hka ?hkb); (case hka => rfl); (case hkb => rfl)) | ((with_reducible refine n_NONSCRIPT F G ?_ ?hka ?hkb); (case hka => rfl); (case hkb => rfl)) | ((with_reducible refine n_NAMED F G ?_ ?hka ?hkb); (case hka => rfl); (case hkb => rfl)) | ((with_reducible refine n_ALEADERS F G ?_ ?hka ?hkb); (case hka => rfl); (case hkb => rfl)) | ((with_reducible refine n_XLEADERS F G ?_ ?hka ?hkb); (case hka => rfl); (case hkb => rfl)))
   | ((with_reducible show wpAny _ _ (eval (Expr.Call (Expr.Name (Str.ofString "is_whole") _) _ _ _) _) _ _ _); refine e_call3 (kp_is_whole _) (n_is_whole F G ⟨rfl, ?_⟩ (by rfl) (by rfl)))
   | ((with_reducible show wpAny _ _ (call (Value.ref 89) _) _ _ _); (refine is_whole_c (R.le (by decide)) (G.fr F) ?_; intro h tk b u hr; subst hr; replace F := Fr.up F u; replace N := News.up N u; clear u))
   | walk_at "mS")
  all_goals exact ⟨rfl, kq _ _ _ _ _ ⟨fun b o e => F.keep _ _ (u b o e), hn, hdn, hne, F.keep _ _ hx, (N _ (.head _)).1, hO⟩⟩
theorem mk_Skip1_c {gl la : Addr} {srt : Int} {lk : Int} {tlk : Tok} {lr : List (Str × Value)} (R : Rm 5 A) (G : Gd w p loose mg mb h) (hs : 1 ≤ srt ∧ srt ≤ 3) (hk : 2 ≤ lk ∧ lk ≤ 3)
    (I : Inst w.params h la 342 (K_ "kind" (.int lk tlk) :: lr))
    (kq : ∀ h' tk' x dx o, NewI w.params h h' x dx 406 o [K_ "glue" (.ref gl), K_ "sort" (.int srt ti), K_ "leader" (.ref la)] → Q (.ref x) ⟨h', gs, dr, tk', os⟩) :
    wpAny (model prog w) A (call (.ref 406) [.ref gl, .int srt ti, .ref la]) Q E ⟨h, gs, dr, tk, os⟩ := by
  refine call_mk (n := 3) (binds := fun xa => [(Str.ofString "self", .ref xa), (Str.ofString "glue", .ref gl), (Str.ofString "sort", .int srt ti), (Str.ofString "leader", .ref la)]) R G (mk_Skip _) (in_Skip _) (ty_Skip _) (by k_is) (by k_is) (fun xa h₁ G₁ => by first | exact BindsTo.of_eq (by rfl) | exact binds_K G₁.x rfl (by k_is) rfl rfl rfl) (fun xa => by rfl) (fun A g L h tk xa dx R F N G u hx hn hdn hne => ?_)
  have hO := isD_nil w.params
  replace I := I.up u
  repeat (first
   | ((with_reducible show wpAny _ _ (getAttr _ (Str.ofString "kind") _) _ _ _); refine g_own (clsOk_ofA (ca_Box _) (fa_Box_kind _)) (G.x.keeps F.keep) (Inst.up I F.keep) (by rfl) ?_)
   | ((with_reducible show wpAny _ _ (setAttr _ (Str.ofString "glue") _) _ _ _); first | (refine s_attr (pre := []) (setOk_of (ca_Skip _) (fa_Skip_glue _)) F N G (F.keep _ _ hx) hO (by first | assumption | k_all) (by first | assumption | k_all) (Nat.le_of_ble_eq_true rfl) ?_; clear F N hO; intro h o F N hO; (try simp only [List.nil_append, List.cons_append] at N)) | (refine s_attr (pre := [_]) (setOk_of (ca_Skip _) (fa_Skip_glue _)) F N G (F.keep _ _ hx) hO (by first | assumption | k_all) (by first | assumption | k_all) (Nat.le_of_ble_eq_true rfl) ?_; clear F N hO; intro h o F N hO; (try simp only [List.nil_append, List.cons_append] at N)) | (refine s_attr (pre := [_, _]) (setOk_of (ca_Skip _) (fa_Skip_glue _)) F N G (F.keep _ _ hx) hO (by first | assumption | k_all) (by first | assumption | k_all) (Nat.le_of_ble_eq_true rfl) ?_; clear F N hO; intro h o F N hO; (try simp only [List.nil_append, List.cons_append] at N)))
   | ((with_reducible show wpAny _ _ (setAttr _ (Str.ofString "sort") _) _ _ _); first | (refine s_attr (pre := []) (setOk_of (ca_Skip _) (fa_Skip_sort _)) F N G (F.keep _ _ hx) hO (by first | assumption | k_all) (by first | assumption | k_all) (Nat.le_of_ble_eq_true rfl) ?_; clear F N hO; intro h o F N hO; (try simp only [List.nil_append, List.cons_append] at N)) | (refine s_attr (pre := [_]) (setOk_of (ca_Skip _) (fa_Skip_sort _)) F N G (F.keep _ _ hx) hO (by first | assumption | k_all) (by first | assumption | k_all) (Nat.le_of_ble_eq_true rfl) ?_; clear F N hO; intro h o F N hO; (try simp only [List.nil_append, List.cons_append] at N)) | (refine s_attr (pre := [_, _]) (setOk_of (ca_Skip _) (fa_Skip_sort _)) F N G (F.keep _ _ hx) hO (by first | assumption | k_all) (by first | assumption | k_all) (Nat.le_of_ble_eq_true rfl) ?_; clear F N hO; intro h o F N hO; (try simp only [List.nil_append, List.cons_append] at N)))
   | ((with_reducible show wpAny _ _ (setAttr _ (Str.ofString "leader") _) _ _ _); first | (refine s_attr (pre := []) (setOk_of (ca_Skip _) (fa_Skip_leader _)) F N G (F.keep _ _ hx) hO (by first | assumption | k_all) (by first | assumption | k_all) (Nat.le_of_ble_eq_true rfl) ?_; clear F N hO; intro h o F N hO; (try simp only [List.nil_append, List.cons_append] at N)) | (refine s_attr (pre := [_]) (setOk_of (ca_Skip _) (fa_Skip_leader _)) F N G (F.keep _ _ hx) hO (by first | assumption | k_all) (by first | assumption | k_all) (Nat.le_of_ble_eq_true rfl) ?_; clear F N hO; intro h o F N hO; (try simp only [List.nil_append, List.cons_append] at N)) | (refine s_attr (pre := [_, _]) (setOk_of (ca_Skip _) (fa_Skip_leader _)) F N G (F.keep _ _ hx) hO (by first | assumption | k_all) (by first | assumption | k_all) (Nat.le_of_ble_eq_true rfl) ?_; clear F N hO; intro h o F N hO; (try simp only [List.nil_append, List.cons_append] at N)))
   | ((with_reducible show wpAny _ _ (eval (Expr.Name _ _) _) _ _ _); first | ((with_reducible refine n_PLAIN F G ?_ ?hka ?hkb); (case hka => rfl); (case hkb => rfl)) | ((with_reducible refine n_NONSCRIPT F G ?_ ?hka ?hkb); (case hka => rfl); (case hkb => rfl)) | ((with_reducible refine n_NAMED F G ?_ ?hka ?hkb); (case hka => rfl); (case hkb => rfl)) | ((with_reducible refine n_ALEADERS F G ?_ ?hka ?hkb); (case hka => rfl); (case hkb => rfl)) | ((with_reducible refine n_XLEADERS F G ?_ ?hka ?hkb); (case hka => rfl); (case hkb => rfl)) | ((with_reducible refine n_HBOX F G ?_ ?hka ?hkb); (case hka => rfl); (case hkb => rfl)) | ((with_reducible refine n_RULE F G ?_ ?hka ?hkb); (case hka => rfl); (case hkb => rfl)))
   | ((with_reducible show wpAny _ _ (eval (Expr.Call (Expr.Name (Str.ofString "is_whole") _) _ _ _) _) _ _ _); refine e_call3 (kp_is_whole _) (n_is_whole F G ⟨rfl, ?_⟩ (by rfl) (by rfl)))
   | ((with_reducible show wpAny _ _ (call (Value.ref 89) _) _ _ _); (refine is_whole_c (R.le (by decide)) (G.fr F) ?_; intro h tk b u hr; subst hr; replace F := Fr.up F u; replace N := News.up N u; clear u))
   | walk_at "mS")
  all_goals exact ⟨rfl, kq _ _ _ _ _ ⟨fun b o e => F.keep _ _ (u b o e), hn, hdn, hne, F.keep _ _ hx, (N _ (.head _)).1, hO⟩⟩
end
end Mine
/-! Nodes -/
namespace Mine
theorem cn_kind : copiedNames.contains (Str.ofString "kind") = false := by decide +kernel
/-- the parts of a column -/
inductive Nd where
  | box (k w h d s : Int)
  | skip (gw st so sk ko : Int) (sort : Int) (lead : Option Int)
  | rule (w h d : Option Int)
  | kern (w : Int)
  | pen (v : Int)
  | mark
noncomputable def Nd.kind : Nd → Int
  | .box k .. => k | .skip .. => 6 | .rule .. => 4 | .kern .. => 5 | .pen .. => 7 | .mark => 9
noncomputable def Nd.wid : Nd → Int
  | .box _ w _ _ _ => w | .rule w _ _ => w.getD 0 | _ => 0
noncomputable def Nd.hgt : Nd → Int
  | .box _ _ h _ _ => h | .rule _ h _ => h.getD 0 | _ => 0
noncomputable def Nd.dep : Nd → Int
  | .box _ _ _ d _ => d | .rule _ _ d => d.getD 0 | _ => 0
noncomputable def Nd.acr : Nd → Int
  | .box _ w _ _ s => w + s | .skip _ _ _ _ _ _ l => l.getD 0 | .rule w _ _ => w.getD 0 | _ => 0
noncomputable def OInt (v : Value) : Option Int → Prop
  | none => v = .none
  | some i => ∃ t, v = .int i t
noncomputable def BoxAt (P : Params) (h : Heap) (a : Addr) (k wd hh dd sh : Int) : Prop :=
  ∃ t1 t2 t3 t4 t5 v1 v2 v3 v4, Inst P h a 342 [K_ "kind" (.int k t1), K_ "width" (.int wd t2), K_ "height" (.int hh t3), K_ "depth" (.int dd t4), K_ "items" v1, K_ "shift" (.int sh t5), K_ "sign" v2, K_ "order" v3, K_ "ratio" v4]
noncomputable def GlueAt (P : Params) (h : Heap) (a : Addr) (gw st so sk ko : Int) : Prop :=
  ∃ t1 t2 t3 t4 t5, Inst P h a 234 [K_ "width" (.int gw t1), K_ "stretch" (.int st t2), K_ "stretch_order" (.int so t3), K_ "shrink" (.int sk t4), K_ "shrink_order" (.int ko t5)]
noncomputable def LeadAt (P : Params) (h : Heap) (v : Value) : Option Int → Prop
  | none => v = .none
  | some lw => ∃ la, v = .ref la ∧ BoxAt P h la 2 lw 4 4 0
noncomputable def NodeAt (P : Params) (h : Heap) (a : Addr) : Nd → Prop
  | .box k wd hh dd sh => (k = 2 ∨ k = 3) ∧ BoxAt P h a k wd hh dd sh
  | .skip gw st so sk ko sort lead => ∃ ga t v, Inst P h a 406 [K_ "glue" (.ref ga), K_ "sort" (.int sort t), K_ "leader" v] ∧ GlueAt P h ga gw st so sk ko ∧ LeadAt P h v lead
  | .rule wd hh dd => ∃ v1 v2 v3, Inst P h a 363 [K_ "width" v1, K_ "height" v2, K_ "depth" v3] ∧ OInt v1 wd ∧ OInt v2 hh ∧ OInt v3 dd
  | .kern wd => ∃ t t2, Inst P h a 384 [K_ "width" (.int wd t), K_ "sort" (.int 1 t2)]
  | .pen v => ∃ t, Inst P h a 427 [K_ "value" (.int v t)]
  | .mark => ∃ tt tu a1 a2, Inst P h a 448 [K_ "tokens" (.ref tt)] ∧ h.get? tt = some (tupOf [.ref tu]) ∧ h.get? tu = some (tupOf [.int 11 a1, .int 97 a2])
theorem BoxAt.up {P : Params} {h h' : Heap} {a : Addr} {k wd hh dd sh : Int} (B : BoxAt P h a k wd hh dd sh) (u : Up h h') : BoxAt P h' a k wd hh dd sh :=
  let ⟨t1, t2, t3, t4, t5, v1, v2, v3, v4, I⟩ := B; ⟨t1, t2, t3, t4, t5, v1, v2, v3, v4, I.up u⟩
theorem NodeAt.up {P : Params} {h h' : Heap} {a : Addr} {n : Nd} (N : NodeAt P h a n) (u : Up h h') : NodeAt P h' a n := by
  cases n with
  | box => exact ⟨N.1, N.2.up u⟩
  | skip gw st so sk ko sort lead =>
    obtain ⟨ga, t, v, I, ⟨t1, t2, t3, t4, t5, g⟩, l⟩ := N
    refine ⟨ga, t, v, I.up u, ⟨t1, t2, t3, t4, t5, g.up u⟩, ?_⟩
    cases lead with
    | none => exact l
    | some lw => obtain ⟨la, e, b⟩ := l; exact ⟨la, e, b.up u⟩
  | rule => obtain ⟨v1, v2, v3, I, r⟩ := N; exact ⟨v1, v2, v3, I.up u, r⟩
  | kern => obtain ⟨t, t2, I⟩ := N; exact ⟨t, t2, I.up u⟩
  | pen => obtain ⟨t, I⟩ := N; exact ⟨t, I.up u⟩
  | mark => obtain ⟨tt, tu, a1, a2, I, e1, e2⟩ := N; exact ⟨tt, tu, a1, a2, I.up u, u _ _ e1, u _ _ e2⟩
section
variable {prog : Program} {w : World} {A : Around} {E : Value → Shared → Prop} {h g : Heap} {gs : Array GenState} {dr : Drawn} {tk : Nat} {os : OsState} {L a : Addr} {m : Str → Option Value}
  {cn : Str} {cs : Scope} {ccd : Value} {cl : List (Str × Addr)} {p : Program} {loose : List Str} {mg mb : Str → Option Value} {Q : Value → Shared → Prop} {pos : Pos}

variable {i j x b wd hh dd : Int} {ti tj tx tb tl th td : Tok} {n : Nd}
theorem oint_not {v : Value} {o : Option Int} (e : OInt v o) : (o = none ∧ v = .none) ∨ ∃ i t, o = some i ∧ v = .int i t := by
  cases o with
  | none => exact .inl ⟨rfl, e⟩
  | some i => obtain ⟨t, rfl⟩ := e; exact .inr ⟨i, t, rfl, rfl⟩
/-- not for glue, nor for a kern -/
noncomputable def Nd.sized : Nd → Bool
  | .skip .. | .kern .. => false | _ => true
theorem nd_kind {ex : Bool} (X : (Mine.hd.heap_1_39 w.params).In h) (H : NodeAt w.params h a n) (kq : ∀ t, Q (.int n.kind t) ⟨h, gs, dr, tk + 1, os⟩) : wpAny (model prog w) A (getAttr (.ref a) (Str.ofString "kind") ex) Q E ⟨h, gs, dr, tk, os⟩ := by
  cases n with
  | box => obtain ⟨_, t1, t2, t3, t4, t5, v1, v2, v3, v4, I⟩ := H; exact g_own (clsOk_ofA (ca_Box _) (fa_Box_kind _)) X I (by rfl) (kq _)
  | skip => obtain ⟨ga, t, v, I, _, _⟩ := H; exact g_cls (pg_of (ca_Skip _)) (hd_of (ca_Skip _)) (fk_Skip _) (ng_int _ _ _) cn_kind X I (by rfl) (kq _)
  | rule => obtain ⟨v1, v2, v3, I, _⟩ := H; exact g_cls (pg_of (ca_Rule _)) (hd_of (ca_Rule _)) (fk_Rule _) (ng_int _ _ _) cn_kind X I (by rfl) (kq _)
  | kern => obtain ⟨t, t2, I⟩ := H; exact g_cls (pg_of (ca_Kern _)) (hd_of (ca_Kern _)) (fk_Kern _) (ng_int _ _ _) cn_kind X I (by rfl) (kq _)
  | pen => obtain ⟨t, I⟩ := H; exact g_cls (pg_of (ca_Penalty _)) (hd_of (ca_Penalty _)) (fk_Penalty _) (ng_int _ _ _) cn_kind X I (by rfl) (kq _)
  | mark => obtain ⟨tt, tu, a1, a2, I, _⟩ := H; exact g_cls (pg_of (ca_Mark _)) (hd_of (ca_Mark _)) (fk_Mark _) (ng_int _ _ _) cn_kind X I (by rfl) (kq _)
theorem nd_kr {P : Params} (H : NodeAt P h a n) : n.kind = 2 ∨ n.kind = 3 ∨ n.kind = 4 ∨ n.kind = 5 ∨ n.kind = 6 ∨ n.kind = 7 ∨ n.kind = 9 := by
  cases n with
  | box => obtain ⟨h | h, _⟩ := H <;> simp [Nd.kind, h]
  | _ => simp [Nd.kind]
theorem is_box {P : Params} (H : NodeAt P h a n) (e : n.kind = 2 ∨ n.kind = 3) : ∃ k wd hh dd sh, n = .box k wd hh dd sh := by
  cases n with
  | box => exact ⟨_, _, _, _, _, rfl⟩
  | _ => simp [Nd.kind] at e
theorem is_rule {P : Params} (H : NodeAt P h a n) (e : n.kind = 4) : ∃ wd hh dd, n = .rule wd hh dd := by
  cases n with
  | rule => exact ⟨_, _, _, rfl⟩
  | box => obtain ⟨h | h, _⟩ := H <;> (subst h; cases e)
  | _ => simp [Nd.kind] at e
theorem is_kern {P : Params} (H : NodeAt P h a n) (e : n.kind = 5) : ∃ wd, n = .kern wd := by
  cases n with
  | kern => exact ⟨_, rfl⟩
  | box => obtain ⟨h | h, _⟩ := H <;> (subst h; cases e)
  | _ => simp [Nd.kind] at e
theorem is_skip {P : Params} (H : NodeAt P h a n) (e : n.kind = 6) : ∃ gw st so sk ko sort lead, n = .skip gw st so sk ko sort lead := by
  cases n with
  | skip => exact ⟨_, _, _, _, _, _, _, rfl⟩
  | box => obtain ⟨h | h, _⟩ := H <;> (subst h; cases e)
  | _ => simp [Nd.kind] at e
theorem is_small {P : Params} (H : NodeAt P h a n) (e1 : n.kind ≠ 2) (e2 : n.kind ≠ 3) (e3 : n.kind ≠ 4) (e4 : n.kind ≠ 5) (e5 : n.kind ≠ 6) : (∃ v, n = .pen v) ∨ n = .mark := by
  cases n with
  | box => obtain ⟨h | h, _⟩ := H <;> (subst h; simp [Nd.kind] at e1 e2)
  | pen v => exact .inl ⟨v, rfl⟩
  | mark => exact .inr rfl
  | _ => simp [Nd.kind] at *
theorem nd_sz {P : Params} (H : NodeAt P h a n) (hz : n.sized = true) : n.kind ≠ 5 ∧ n.kind ≠ 6 := by
  cases n with
  | box => obtain ⟨h | h, _⟩ := H <;> (subst h; simp [Nd.kind])
  | _ => simp_all [Nd.sized, Nd.kind]
theorem sized_of {P : Params} (_H : NodeAt P h a n) (e5 : n.kind ≠ 5) (e6 : n.kind ≠ 6) : n.sized = true := by
  cases n <;> simp_all [Nd.sized, Nd.kind]
theorem acr_wid {P : Params} (H : NodeAt P h a n) (e : n.kind ≠ 2 ∧ n.kind ≠ 3 ∧ n.kind ≠ 5 ∧ n.kind ≠ 6) : n.acr = n.wid := by
  cases n with
  | box => obtain ⟨h | h, _⟩ := H <;> (subst h; simp [Nd.kind] at e)
  | _ => simp_all [Nd.acr, Nd.wid, Nd.kind]
theorem width_of_c (R : Rm 1 A) (G : Gd w p loose mg mb h) (H : NodeAt w.params h a n) (hz : n.sized = true)
    (kq : ∀ h' tk' t, Up h h' → Q (.int n.wid t) ⟨h', gs, dr, tk', os⟩) : wpAny (model prog w) A (call (.ref 488) [.ref a]) Q E ⟨h, gs, dr, tk, os⟩ := by
  refine call_fn (n := 0) (binds := [(Str.ofString "node", .ref a)]) R G (by k_is) (by k_is) (by first | exact BindsTo.of_eq (by rfl) | exact binds_K G.x rfl (by k_is) rfl rfl rfl) (by rfl) (fun A L h tk R F N => ?_)
  have hr := nd_kr H
  have hs := nd_sz H hz
  repeat (first
   | ((with_reducible show wpAny _ _ (getAttr _ (Str.ofString "kind") _) _ _ _); (refine nd_kind (G.x.keeps F.keep) (NodeAt.up H F.keep) ?_; intro t))
   | ((with_reducible show wpAny _ _ (eval (Expr.Name _ _) _) _ _ _); first | ((with_reducible refine n_CHAR F G ?_ ?hka ?hkb); (case hka => rfl); (case hkb => rfl)) | ((with_reducible refine n_LIGATURE F G ?_ ?hka ?hkb); (case hka => rfl); (case hkb => rfl)) | ((with_reducible refine n_HBOX F G ?_ ?hka ?hkb); (case hka => rfl); (case hkb => rfl)) | ((with_reducible refine n_VBOX F G ?_ ?hka ?hkb); (case hka => rfl); (case hkb => rfl)) | ((with_reducible refine n_KERN F G ?_ ?hka ?hkb); (case hka => rfl); (case hkb => rfl)) | ((with_reducible refine n_MATH F G ?_ ?hka ?hkb); (case hka => rfl); (case hkb => rfl)) | ((with_reducible refine n_UNSET F G ?_ ?hka ?hkb); (case hka => rfl); (case hkb => rfl)) | ((with_reducible refine n_RULE F G ?_ ?hka ?hkb); (case hka => rfl); (case hkb => rfl)) | ((with_reducible refine n_GLUE F G ?_ ?hka ?hkb); (case hka => rfl); (case hkb => rfl)) | ((with_reducible refine n_DISC F G ?_ ?hka ?hkb); (case hka => rfl); (case hkb => rfl)))
   | walk_at "mS")
  all_goals first
  | ((have e9 : n.kind = 2 ∨ n.kind = 3 := by omega); (obtain ⟨k, wd, hh, dd, sh, rfl⟩ := is_box H e9; clear e9; have H0 := H; obtain ⟨hk, t1, t2, t3, t4, t5, v1, v2, v3, v4, I⟩ := H; (repeat (first  | ((with_reducible show wpAny _ _ (getAttr _ (Str.ofString "width") _) _ _ _); refine g_own (clsOk_ofA (ca_Box _) (fa_Box_width _)) (G.x.keeps F.keep) (Inst.up I F.keep) (by rfl) ?_)  | ((with_reducible show wpAny _ _ (eval (Expr.Name _ _) _) _ _ _); first | ((with_reducible refine n_CHAR F G ?_ ?hka ?hkb); (case hka => rfl); (case hkb => rfl)) | ((with_reducible refine n_LIGATURE F G ?_ ?hka ?hkb); (case hka => rfl); (case hkb => rfl)) | ((with_reducible refine n_HBOX F G ?_ ?hka ?hkb); (case hka => rfl); (case hkb => rfl)) | ((with_reducible refine n_VBOX F G ?_ ?hka ?hkb); (case hka => rfl); (case hkb => rfl)) | ((with_reducible refine n_KERN F G ?_ ?hka ?hkb); (case hka => rfl); (case hkb => rfl)) | ((with_reducible refine n_MATH F G ?_ ?hka ?hkb); (case hka => rfl); (case hkb => rfl)) | ((with_reducible refine n_UNSET F G ?_ ?hka ?hkb); (case hka => rfl); (case hkb => rfl)) | ((with_reducible refine n_RULE F G ?_ ?hka ?hkb); (case hka => rfl); (case hkb => rfl)) | ((with_reducible refine n_GLUE F G ?_ ?hka ?hkb); (case hka => rfl); (case hkb => rfl)) | ((with_reducible refine n_DISC F G ?_ ?hka ?hkb); (case hka => rfl); (case hkb => rfl)))  | walk_at "mS")) <;> (exact kq _ _ _ F.keep); done))
  | ((have e9 : n.kind = 4 := by omega); (obtain ⟨wd, hh, dd, rfl⟩ := is_rule H e9; clear e9; have H0 := H; obtain ⟨v1, v2, v3, I, o1, o2, o3⟩ := H; rcases oint_not o1 with ⟨rfl, rfl⟩ | ⟨i, t, rfl, rfl⟩ <;> ((repeat (first  | ((with_reducible show wpAny _ _ (getAttr _ (Str.ofString "kind") _) _ _ _); refine g_cls (pg_of (ca_Rule _)) (hd_of (ca_Rule _)) (fk_Rule _) (ng_int _ _ _) cn_kind (G.x.keeps F.keep) (Inst.up I F.keep) (by rfl) ?_)  | ((with_reducible show wpAny _ _ (getAttr _ (Str.ofString "width") _) _ _ _); refine g_own (clsOk_ofA (ca_Rule _) (fa_Rule_width _)) (G.x.keeps F.keep) (Inst.up I F.keep) (by rfl) ?_)  | ((with_reducible show wpAny _ _ (eval (Expr.Name _ _) _) _ _ _); first | ((with_reducible refine n_CHAR F G ?_ ?hka ?hkb); (case hka => rfl); (case hkb => rfl)) | ((with_reducible refine n_LIGATURE F G ?_ ?hka ?hkb); (case hka => rfl); (case hkb => rfl)) | ((with_reducible refine n_HBOX F G ?_ ?hka ?hkb); (case hka => rfl); (case hkb => rfl)) | ((with_reducible refine n_VBOX F G ?_ ?hka ?hkb); (case hka => rfl); (case hkb => rfl)) | ((with_reducible refine n_KERN F G ?_ ?hka ?hkb); (case hka => rfl); (case hkb => rfl)) | ((with_reducible refine n_MATH F G ?_ ?hka ?hkb); (case hka => rfl); (case hkb => rfl)) | ((with_reducible refine n_UNSET F G ?_ ?hka ?hkb); (case hka => rfl); (case hkb => rfl)) | ((with_reducible refine n_RULE F G ?_ ?hka ?hkb); (case hka => rfl); (case hkb => rfl)) | ((with_reducible refine n_GLUE F G ?_ ?hka ?hkb); (case hka => rfl); (case hkb => rfl)) | ((with_reducible refine n_DISC F G ?_ ?hka ?hkb); (case hka => rfl); (case hkb => rfl)))  | walk_at "mS")) <;> (exact kq _ _ _ F.keep)); done))
  | ((have e9 : n.kind = 5 := by omega); (obtain ⟨wd, rfl⟩ := is_kern H e9; clear e9; cases hz; done))
  | ((have e9 : n.kind = 6 := by omega); (obtain ⟨gw, st, so, sk, ko, sort, lead, rfl⟩ := is_skip H e9; clear e9; cases hz; done))
  | ((have e9 : n.kind ≠ 2 ∧ n.kind ≠ 3 ∧ n.kind ≠ 4 ∧ n.kind ≠ 5 ∧ n.kind ≠ 6 := by refine ⟨?_, ?_, ?_, ?_, ?_⟩ <;> omega); (rcases is_small H e9.1 e9.2.1 e9.2.2.1 e9.2.2.2.1 e9.2.2.2.2 with ⟨v, rfl⟩ | rfl <;> (have H0 := H; (repeat (first  | ((with_reducible show wpAny _ _ (eval (Expr.Name _ _) _) _ _ _); first | ((with_reducible refine n_CHAR F G ?_ ?hka ?hkb); (case hka => rfl); (case hkb => rfl)) | ((with_reducible refine n_LIGATURE F G ?_ ?hka ?hkb); (case hka => rfl); (case hkb => rfl)) | ((with_reducible refine n_HBOX F G ?_ ?hka ?hkb); (case hka => rfl); (case hkb => rfl)) | ((with_reducible refine n_VBOX F G ?_ ?hka ?hkb); (case hka => rfl); (case hkb => rfl)) | ((with_reducible refine n_KERN F G ?_ ?hka ?hkb); (case hka => rfl); (case hkb => rfl)) | ((with_reducible refine n_MATH F G ?_ ?hka ?hkb); (case hka => rfl); (case hkb => rfl)) | ((with_reducible refine n_UNSET F G ?_ ?hka ?hkb); (case hka => rfl); (case hkb => rfl)) | ((with_reducible refine n_RULE F G ?_ ?hka ?hkb); (case hka => rfl); (case hkb => rfl)) | ((with_reducible refine n_GLUE F G ?_ ?hka ?hkb); (case hka => rfl); (case hkb => rfl)) | ((with_reducible refine n_DISC F G ?_ ?hka ?hkb); (case hka => rfl); (case hkb => rfl)))  | walk_at "mS")) <;> (exact kq _ _ _ F.keep)); done))
theorem height_of_c (R : Rm 1 A) (G : Gd w p loose mg mb h) (H : NodeAt w.params h a n) (hz : n.sized = true)
    (kq : ∀ h' tk' t, Up h h' → Q (.int n.hgt t) ⟨h', gs, dr, tk', os⟩) : wpAny (model prog w) A (call (.ref 493) [.ref a]) Q E ⟨h, gs, dr, tk, os⟩ := by
  refine call_fn (n := 0) (binds := [(Str.ofString "node", .ref a)]) R G (by k_is) (by k_is) (by first | exact BindsTo.of_eq (by rfl) | exact binds_K G.x rfl (by k_is) rfl rfl rfl) (by rfl) (fun A L h tk R F N => ?_)
  have hr := nd_kr H
  have hs := nd_sz H hz
  repeat (first
   | ((with_reducible show wpAny _ _ (getAttr _ (Str.ofString "kind") _) _ _ _); (refine nd_kind (G.x.keeps F.keep) (NodeAt.up H F.keep) ?_; intro t))
   | ((with_reducible show wpAny _ _ (eval (Expr.Name _ _) _) _ _ _); first | ((with_reducible refine n_CHAR F G ?_ ?hka ?hkb); (case hka => rfl); (case hkb => rfl)) | ((with_reducible refine n_LIGATURE F G ?_ ?hka ?hkb); (case hka => rfl); (case hkb => rfl)) | ((with_reducible refine n_HBOX F G ?_ ?hka ?hkb); (case hka => rfl); (case hkb => rfl)) | ((with_reducible refine n_VBOX F G ?_ ?hka ?hkb); (case hka => rfl); (case hkb => rfl)) | ((with_reducible refine n_UNSET F G ?_ ?hka ?hkb); (case hka => rfl); (case hkb => rfl)) | ((with_reducible refine n_RULE F G ?_ ?hka ?hkb); (case hka => rfl); (case hkb => rfl)) | ((with_reducible refine n_GLUE F G ?_ ?hka ?hkb); (case hka => rfl); (case hkb => rfl)) | ((with_reducible refine n_DISC F G ?_ ?hka ?hkb); (case hka => rfl); (case hkb => rfl)))
   | walk_at "mS")
  all_goals first
  | ((have e9 : n.kind = 2 ∨ n.kind = 3 := by omega); (obtain ⟨k, wd, hh, dd, sh, rfl⟩ := is_box H e9; clear e9; have H0 := H; obtain ⟨hk, t1, t2, t3, t4, t5, v1, v2, v3, v4, I⟩ := H; (repeat (first  | ((with_reducible show wpAny _ _ (getAttr _ (Str.ofString "height") _) _ _ _); refine g_own (clsOk_ofA (ca_Box _) (fa_Box_height _)) (G.x.keeps F.keep) (Inst.up I F.keep) (by rfl) ?_)  | ((with_reducible show wpAny _ _ (eval (Expr.Name _ _) _) _ _ _); first | ((with_reducible refine n_CHAR F G ?_ ?hka ?hkb); (case hka => rfl); (case hkb => rfl)) | ((with_reducible refine n_LIGATURE F G ?_ ?hka ?hkb); (case hka => rfl); (case hkb => rfl)) | ((with_reducible refine n_HBOX F G ?_ ?hka ?hkb); (case hka => rfl); (case hkb => rfl)) | ((with_reducible refine n_VBOX F G ?_ ?hka ?hkb); (case hka => rfl); (case hkb => rfl)) | ((with_reducible refine n_UNSET F G ?_ ?hka ?hkb); (case hka => rfl); (case hkb => rfl)) | ((with_reducible refine n_RULE F G ?_ ?hka ?hkb); (case hka => rfl); (case hkb => rfl)) | ((with_reducible refine n_GLUE F G ?_ ?hka ?hkb); (case hka => rfl); (case hkb => rfl)) | ((with_reducible refine n_DISC F G ?_ ?hka ?hkb); (case hka => rfl); (case hkb => rfl)))  | walk_at "mS")) <;> (exact kq _ _ _ F.keep); done))
  | ((have e9 : n.kind = 4 := by omega); (obtain ⟨wd, hh, dd, rfl⟩ := is_rule H e9; clear e9; have H0 := H; obtain ⟨v1, v2, v3, I, o1, o2, o3⟩ := H; rcases oint_not o2 with ⟨rfl, rfl⟩ | ⟨i, t, rfl, rfl⟩ <;> ((repeat (first  | ((with_reducible show wpAny _ _ (getAttr _ (Str.ofString "kind") _) _ _ _); refine g_cls (pg_of (ca_Rule _)) (hd_of (ca_Rule _)) (fk_Rule _) (ng_int _ _ _) cn_kind (G.x.keeps F.keep) (Inst.up I F.keep) (by rfl) ?_)  | ((with_reducible show wpAny _ _ (getAttr _ (Str.ofString "height") _) _ _ _); refine g_own (clsOk_ofA (ca_Rule _) (fa_Rule_height _)) (G.x.keeps F.keep) (Inst.up I F.keep) (by rfl) ?_)  | ((with_reducible show wpAny _ _ (eval (Expr.Name _ _) _) _ _ _); first | ((with_reducible refine n_CHAR F G ?_ ?hka ?hkb); (case hka => rfl); (case hkb => rfl)) | ((with_reducible refine n_LIGATURE F G ?_ ?hka ?hkb); (case hka => rfl); (case hkb => rfl)) | ((with_reducible refine n_HBOX F G ?_ ?hka ?hkb); (case hka => rfl); (case hkb => rfl)) | ((with_reducible refine n_VBOX F G ?_ ?hka ?hkb); (case hka => rfl); (case hkb => rfl)) | ((with_reducible refine n_UNSET F G ?_ ?hka ?hkb); (case hka => rfl); (case hkb => rfl)) | ((with_reducible refine n_RULE F G ?_ ?hka ?hkb); (case hka => rfl); (case hkb => rfl)) | ((with_reducible refine n_GLUE F G ?_ ?hka ?hkb); (case hka => rfl); (case hkb => rfl)) | ((with_reducible refine n_DISC F G ?_ ?hka ?hkb); (case hka => rfl); (case hkb => rfl)))  | walk_at "mS")) <;> (exact kq _ _ _ F.keep)); done))
  | ((have e9 : n.kind = 5 := by omega); (obtain ⟨wd, rfl⟩ := is_kern H e9; clear e9; cases hz; done))
  | ((have e9 : n.kind = 6 := by omega); (obtain ⟨gw, st, so, sk, ko, sort, lead, rfl⟩ := is_skip H e9; clear e9; cases hz; done))
  | ((have e9 : n.kind ≠ 2 ∧ n.kind ≠ 3 ∧ n.kind ≠ 4 ∧ n.kind ≠ 5 ∧ n.kind ≠ 6 := by refine ⟨?_, ?_, ?_, ?_, ?_⟩ <;> omega); (rcases is_small H e9.1 e9.2.1 e9.2.2.1 e9.2.2.2.1 e9.2.2.2.2 with ⟨v, rfl⟩ | rfl <;> (have H0 := H; (repeat (first  | ((with_reducible show wpAny _ _ (eval (Expr.Name _ _) _) _ _ _); first | ((with_reducible refine n_CHAR F G ?_ ?hka ?hkb); (case hka => rfl); (case hkb => rfl)) | ((with_reducible refine n_LIGATURE F G ?_ ?hka ?hkb); (case hka => rfl); (case hkb => rfl)) | ((with_reducible refine n_HBOX F G ?_ ?hka ?hkb); (case hka => rfl); (case hkb => rfl)) | ((with_reducible refine n_VBOX F G ?_ ?hka ?hkb); (case hka => rfl); (case hkb => rfl)) | ((with_reducible refine n_UNSET F G ?_ ?hka ?hkb); (case hka => rfl); (case hkb => rfl)) | ((with_reducible refine n_RULE F G ?_ ?hka ?hkb); (case hka => rfl); (case hkb => rfl)) | ((with_reducible refine n_GLUE F G ?_ ?hka ?hkb); (case hka => rfl); (case hkb => rfl)) | ((with_reducible refine n_DISC F G ?_ ?hka ?hkb); (case hka => rfl); (case hkb => rfl)))  | walk_at "mS")) <;> (exact kq _ _ _ F.keep)); done))
theorem depth_of_c (R : Rm 1 A) (G : Gd w p loose mg mb h) (H : NodeAt w.params h a n) (hz : n.sized = true)
    (kq : ∀ h' tk' t, Up h h' → Q (.int n.dep t) ⟨h', gs, dr, tk', os⟩) : wpAny (model prog w) A (call (.ref 498) [.ref a]) Q E ⟨h, gs, dr, tk, os⟩ := by
  refine call_fn (n := 0) (binds := [(Str.ofString "node", .ref a)]) R G (by k_is) (by k_is) (by first | exact BindsTo.of_eq (by rfl) | exact binds_K G.x rfl (by k_is) rfl rfl rfl) (by rfl) (fun A L h tk R F N => ?_)
  have hr := nd_kr H
  have hs := nd_sz H hz
  repeat (first
   | ((with_reducible show wpAny _ _ (getAttr _ (Str.ofString "kind") _) _ _ _); (refine nd_kind (G.x.keeps F.keep) (NodeAt.up H F.keep) ?_; intro t))
   | ((with_reducible show wpAny _ _ (eval (Expr.Name _ _) _) _ _ _); first | ((with_reducible refine n_CHAR F G ?_ ?hka ?hkb); (case hka => rfl); (case hkb => rfl)) | ((with_reducible refine n_LIGATURE F G ?_ ?hka ?hkb); (case hka => rfl); (case hkb => rfl)) | ((with_reducible refine n_HBOX F G ?_ ?hka ?hkb); (case hka => rfl); (case hkb => rfl)) | ((with_reducible refine n_VBOX F G ?_ ?hka ?hkb); (case hka => rfl); (case hkb => rfl)) | ((with_reducible refine n_UNSET F G ?_ ?hka ?hkb); (case hka => rfl); (case hkb => rfl)) | ((with_reducible refine n_RULE F G ?_ ?hka ?hkb); (case hka => rfl); (case hkb => rfl)) | ((with_reducible refine n_GLUE F G ?_ ?hka ?hkb); (case hka => rfl); (case hkb => rfl)) | ((with_reducible refine n_DISC F G ?_ ?hka ?hkb); (case hka => rfl); (case hkb => rfl)))
   | walk_at "mS")
  all_goals first
  | ((have e9 : n.kind = 2 ∨ n.kind = 3 := by omega); (obtain ⟨k, wd, hh, dd, sh, rfl⟩ := is_box H e9; clear e9; have H0 := H; obtain ⟨hk, t1, t2, t3, t4, t5, v1, v2, v3, v4, I⟩ := H; (repeat (first  | ((with_reducible show wpAny _ _ (getAttr _ (Str.ofString "depth") _) _ _ _); refine g_own (clsOk_ofA (ca_Box _) (fa_Box_depth _)) (G.x.keeps F.keep) (Inst.up I F.keep) (by rfl) ?_)  | ((with_reducible show wpAny _ _ (eval (Expr.Name _ _) _) _ _ _); first | ((with_reducible refine n_CHAR F G ?_ ?hka ?hkb); (case hka => rfl); (case hkb => rfl)) | ((with_reducible refine n_LIGATURE F G ?_ ?hka ?hkb); (case hka => rfl); (case hkb => rfl)) | ((with_reducible refine n_HBOX F G ?_ ?hka ?hkb); (case hka => rfl); (case hkb => rfl)) | ((with_reducible refine n_VBOX F G ?_ ?hka ?hkb); (case hka => rfl); (case hkb => rfl)) | ((with_reducible refine n_UNSET F G ?_ ?hka ?hkb); (case hka => rfl); (case hkb => rfl)) | ((with_reducible refine n_RULE F G ?_ ?hka ?hkb); (case hka => rfl); (case hkb => rfl)) | ((with_reducible refine n_GLUE F G ?_ ?hka ?hkb); (case hka => rfl); (case hkb => rfl)) | ((with_reducible refine n_DISC F G ?_ ?hka ?hkb); (case hka => rfl); (case hkb => rfl)))  | walk_at "mS")) <;> (exact kq _ _ _ F.keep); done))
  | ((have e9 : n.kind = 4 := by omega); (obtain ⟨wd, hh, dd, rfl⟩ := is_rule H e9; clear e9; have H0 := H; obtain ⟨v1, v2, v3, I, o1, o2, o3⟩ := H; rcases oint_not o3 with ⟨rfl, rfl⟩ | ⟨i, t, rfl, rfl⟩ <;> ((repeat (first  | ((with_reducible show wpAny _ _ (getAttr _ (Str.ofString "kind") _) _ _ _); refine g_cls (pg_of (ca_Rule _)) (hd_of (ca_Rule _)) (fk_Rule _) (ng_int _ _ _) cn_kind (G.x.keeps F.keep) (Inst.up I F.keep) (by rfl) ?_)  | ((with_reducible show wpAny _ _ (getAttr _ (Str.ofString "depth") _) _ _ _); refine g_own (clsOk_ofA (ca_Rule _) (fa_Rule_depth _)) (G.x.keeps F.keep) (Inst.up I F.keep) (by rfl) ?_)  | ((with_reducible show wpAny _ _ (eval (Expr.Name _ _) _) _ _ _); first | ((with_reducible refine n_CHAR F G ?_ ?hka ?hkb); (case hka => rfl); (case hkb => rfl)) | ((with_reducible refine n_LIGATURE F G ?_ ?hka ?hkb); (case hka => rfl); (case hkb => rfl)) | ((with_reducible refine n_HBOX F G ?_ ?hka ?hkb); (case hka => rfl); (case hkb => rfl)) | ((with_reducible refine n_VBOX F G ?_ ?hka ?hkb); (case hka => rfl); (case hkb => rfl)) | ((with_reducible refine n_UNSET F G ?_ ?hka ?hkb); (case hka => rfl); (case hkb => rfl)) | ((with_reducible refine n_RULE F G ?_ ?hka ?hkb); (case hka => rfl); (case hkb => rfl)) | ((with_reducible refine n_GLUE F G ?_ ?hka ?hkb); (case hka => rfl); (case hkb => rfl)) | ((with_reducible refine n_DISC F G ?_ ?hka ?hkb); (case hka => rfl); (case hkb => rfl)))  | walk_at "mS")) <;> (exact kq _ _ _ F.keep)); done))
  | ((have e9 : n.kind = 5 := by omega); (obtain ⟨wd, rfl⟩ := is_kern H e9; clear e9; cases hz; done))
  | ((have e9 : n.kind = 6 := by omega); (obtain ⟨gw, st, so, sk, ko, sort, lead, rfl⟩ := is_skip H e9; clear e9; cases hz; done))
  | ((have e9 : n.kind ≠ 2 ∧ n.kind ≠ 3 ∧ n.kind ≠ 4 ∧ n.kind ≠ 5 ∧ n.kind ≠ 6 := by refine ⟨?_, ?_, ?_, ?_, ?_⟩ <;> omega); (rcases is_small H e9.1 e9.2.1 e9.2.2.1 e9.2.2.2.1 e9.2.2.2.2 with ⟨v, rfl⟩ | rfl <;> (have H0 := H; (repeat (first  | ((with_reducible show wpAny _ _ (eval (Expr.Name _ _) _) _ _ _); first | ((with_reducible refine n_CHAR F G ?_ ?hka ?hkb); (case hka => rfl); (case hkb => rfl)) | ((with_reducible refine n_LIGATURE F G ?_ ?hka ?hkb); (case hka => rfl); (case hkb => rfl)) | ((with_reducible refine n_HBOX F G ?_ ?hka ?hkb); (case hka => rfl); (case hkb => rfl)) | ((with_reducible refine n_VBOX F G ?_ ?hka ?hkb); (case hka => rfl); (case hkb => rfl)) | ((with_reducible refine n_UNSET F G ?_ ?hka ?hkb); (case hka => rfl); (case hkb => rfl)) | ((with_reducible refine n_RULE F G ?_ ?hka ?hkb); (case hka => rfl); (case hkb => rfl)) | ((with_reducible refine n_GLUE F G ?_ ?hka ?hkb); (case hka => rfl); (case hkb => rfl)) | ((with_reducible refine n_DISC F G ?_ ?hka ?hkb); (case hka => rfl); (case hkb => rfl)))  | walk_at "mS")) <;> (exact kq _ _ _ F.keep)); done))
theorem across_c (R : Rm 2 A) (G : Gd w p loose mg mb h) (H : NodeAt w.params h a n)
    (kq : ∀ h' tk' t, Up h h' → Q (.int n.acr t) ⟨h', gs, dr, tk', os⟩) : wpAny (model prog w) A (call (.ref 527) [.ref a]) Q E ⟨h, gs, dr, tk, os⟩ := by
  refine call_fn (n := 1) (binds := [(Str.ofString "node", .ref a)]) R G (by k_is) (by k_is) (by first | exact BindsTo.of_eq (by rfl) | exact binds_K G.x rfl (by k_is) rfl rfl rfl) (by rfl) (fun A L h tk R F N => ?_)
  have hr := nd_kr H
  repeat (first
   | ((with_reducible show wpAny _ _ (getAttr _ (Str.ofString "kind") _) _ _ _); (refine nd_kind (G.x.keeps F.keep) (NodeAt.up H F.keep) ?_; intro t))
   | ((with_reducible show wpAny _ _ (eval (Expr.Name _ _) _) _ _ _); first | ((with_reducible refine n_HBOX F G ?_ ?hka ?hkb); (case hka => rfl); (case hkb => rfl)) | ((with_reducible refine n_VBOX F G ?_ ?hka ?hkb); (case hka => rfl); (case hkb => rfl)) | ((with_reducible refine n_KERN F G ?_ ?hka ?hkb); (case hka => rfl); (case hkb => rfl)) | ((with_reducible refine n_GLUE F G ?_ ?hka ?hkb); (case hka => rfl); (case hkb => rfl)))
   | ((with_reducible show wpAny _ _ (eval (Expr.Call (Expr.Name (Str.ofString "width_of") _) _ _ _) _) _ _ _); refine e_call1 (kp_width_of _) (n_width_of F G ⟨rfl, ?_⟩ (by rfl) (by rfl)))
   | ((with_reducible show wpAny _ _ (call (Value.ref 488) _) _ _ _); (refine width_of_c (R.le (by decide)) (G.fr F) (NodeAt.up (by assumption) F.keep) (by rfl) ?_; intro h tk t u; replace F := Fr.up F u; replace N := News.up N u; clear u))
   | walk_at "mS")
  all_goals first
  | ((have e9 : n.kind = 2 ∨ n.kind = 3 := by omega); (obtain ⟨k, wd, hh, dd, sh, rfl⟩ := is_box H e9; clear e9; have H0 := H; obtain ⟨hk, t1, t2, t3, t4, t5, v1, v2, v3, v4, I⟩ := H; (repeat (first  | ((with_reducible show wpAny _ _ (getAttr _ (Str.ofString "width") _) _ _ _); refine g_own (clsOk_ofA (ca_Box _) (fa_Box_width _)) (G.x.keeps F.keep) (Inst.up I F.keep) (by rfl) ?_)  | ((with_reducible show wpAny _ _ (getAttr _ (Str.ofString "shift") _) _ _ _); refine g_own (clsOk_ofA (ca_Box _) (fa_Box_shift _)) (G.x.keeps F.keep) (Inst.up I F.keep) (by rfl) ?_)  | ((with_reducible show wpAny _ _ (eval (Expr.Name _ _) _) _ _ _); first | ((with_reducible refine n_HBOX F G ?_ ?hka ?hkb); (case hka => rfl); (case hkb => rfl)) | ((with_reducible refine n_VBOX F G ?_ ?hka ?hkb); (case hka => rfl); (case hkb => rfl)) | ((with_reducible refine n_KERN F G ?_ ?hka ?hkb); (case hka => rfl); (case hkb => rfl)) | ((with_reducible refine n_GLUE F G ?_ ?hka ?hkb); (case hka => rfl); (case hkb => rfl)))  | ((with_reducible show wpAny _ _ (eval (Expr.Call (Expr.Name (Str.ofString "width_of") _) _ _ _) _) _ _ _); refine e_call1 (kp_width_of _) (n_width_of F G ⟨rfl, ?_⟩ (by rfl) (by rfl)))  | ((with_reducible show wpAny _ _ (call (Value.ref 488) _) _ _ _); (refine width_of_c (R.le (by decide)) (G.fr F) (NodeAt.up (by assumption) F.keep) (by rfl) ?_; intro h tk t u; replace F := Fr.up F u; replace N := News.up N u; clear u))  | walk_at "mS")) <;> (exact kq _ _ _ F.keep); done))
  | ((have e9 : n.kind = 4 := by omega); (obtain ⟨wd, hh, dd, rfl⟩ := is_rule H e9; clear e9; have H0 := H; obtain ⟨v1, v2, v3, I, o1, o2, o3⟩ := H; (repeat (first  | ((with_reducible show wpAny _ _ (getAttr _ (Str.ofString "kind") _) _ _ _); refine g_cls (pg_of (ca_Rule _)) (hd_of (ca_Rule _)) (fk_Rule _) (ng_int _ _ _) cn_kind (G.x.keeps F.keep) (Inst.up I F.keep) (by rfl) ?_)  | ((with_reducible show wpAny _ _ (eval (Expr.Name _ _) _) _ _ _); first | ((with_reducible refine n_HBOX F G ?_ ?hka ?hkb); (case hka => rfl); (case hkb => rfl)) | ((with_reducible refine n_VBOX F G ?_ ?hka ?hkb); (case hka => rfl); (case hkb => rfl)) | ((with_reducible refine n_KERN F G ?_ ?hka ?hkb); (case hka => rfl); (case hkb => rfl)) | ((with_reducible refine n_GLUE F G ?_ ?hka ?hkb); (case hka => rfl); (case hkb => rfl)))  | ((with_reducible show wpAny _ _ (eval (Expr.Call (Expr.Name (Str.ofString "width_of") _) _ _ _) _) _ _ _); refine e_call1 (kp_width_of _) (n_width_of F G ⟨rfl, ?_⟩ (by rfl) (by rfl)))  | ((with_reducible show wpAny _ _ (call (Value.ref 488) _) _ _ _); (refine width_of_c (R.le (by decide)) (G.fr F) (NodeAt.up (by assumption) F.keep) (by rfl) ?_; intro h tk t u; replace F := Fr.up F u; replace N := News.up N u; clear u))  | walk_at "mS")) <;> (exact kq _ _ _ F.keep); done))
  | ((have e9 : n.kind = 5 := by omega); (obtain ⟨wd, rfl⟩ := is_kern H e9; clear e9; have H0 := H; obtain ⟨t, t2, I⟩ := H; (repeat (first  | ((with_reducible show wpAny _ _ (getAttr _ (Str.ofString "kind") _) _ _ _); refine g_cls (pg_of (ca_Kern _)) (hd_of (ca_Kern _)) (fk_Kern _) (ng_int _ _ _) cn_kind (G.x.keeps F.keep) (Inst.up I F.keep) (by rfl) ?_)  | ((with_reducible show wpAny _ _ (eval (Expr.Name _ _) _) _ _ _); first | ((with_reducible refine n_HBOX F G ?_ ?hka ?hkb); (case hka => rfl); (case hkb => rfl)) | ((with_reducible refine n_VBOX F G ?_ ?hka ?hkb); (case hka => rfl); (case hkb => rfl)) | ((with_reducible refine n_KERN F G ?_ ?hka ?hkb); (case hka => rfl); (case hkb => rfl)) | ((with_reducible refine n_GLUE F G ?_ ?hka ?hkb); (case hka => rfl); (case hkb => rfl)))  | ((with_reducible show wpAny _ _ (eval (Expr.Call (Expr.Name (Str.ofString "width_of") _) _ _ _) _) _ _ _); refine e_call1 (kp_width_of _) (n_width_of F G ⟨rfl, ?_⟩ (by rfl) (by rfl)))  | ((with_reducible show wpAny _ _ (call (Value.ref 488) _) _ _ _); (refine width_of_c (R.le (by decide)) (G.fr F) (NodeAt.up (by assumption) F.keep) (by rfl) ?_; intro h tk t u; replace F := Fr.up F u; replace N := News.up N u; clear u))  | walk_at "mS")) <;> (exact kq _ _ _ F.keep); done))
  | ((have e9 : n.kind = 6 := by omega); (obtain ⟨gw, st, so, sk, ko, sort, lead, rfl⟩ := is_skip H e9; clear e9; have H0 := H; obtain ⟨ga, t, v, I, Ig, Il⟩ := H; rcases lead with _ | lw; (focus (have Il : v = .none := Il; subst Il; (repeat (first  | ((with_reducible show wpAny _ _ (getAttr _ (Str.ofString "kind") _) _ _ _); refine g_cls (pg_of (ca_Skip _)) (hd_of (ca_Skip _)) (fk_Skip _) (ng_int _ _ _) cn_kind (G.x.keeps F.keep) (Inst.up I F.keep) (by rfl) ?_)  | ((with_reducible show wpAny _ _ (getAttr _ (Str.ofString "leader") _) _ _ _); refine g_own (clsOk_ofA (ca_Skip _) (fa_Skip_leader _)) (G.x.keeps F.keep) (Inst.up I F.keep) (by rfl) ?_)  | ((with_reducible show wpAny _ _ (eval (Expr.Name _ _) _) _ _ _); first | ((with_reducible refine n_HBOX F G ?_ ?hka ?hkb); (case hka => rfl); (case hkb => rfl)) | ((with_reducible refine n_VBOX F G ?_ ?hka ?hkb); (case hka => rfl); (case hkb => rfl)) | ((with_reducible refine n_KERN F G ?_ ?hka ?hkb); (case hka => rfl); (case hkb => rfl)) | ((with_reducible refine n_GLUE F G ?_ ?hka ?hkb); (case hka => rfl); (case hkb => rfl)))  | ((with_reducible show wpAny _ _ (eval (Expr.Call (Expr.Name (Str.ofString "width_of") _) _ _ _) _) _ _ _); refine e_call1 (kp_width_of _) (n_width_of F G ⟨rfl, ?_⟩ (by rfl) (by rfl)))  | ((with_reducible show wpAny _ _ (call (Value.ref 488) _) _ _ _); (refine width_of_c (R.le (by decide)) (G.fr F) (NodeAt.up (by assumption) F.keep) (by rfl) ?_; intro h tk t u; replace F := Fr.up F u; replace N := News.up N u; clear u))  | walk_at "mS")) <;> (exact kq _ _ _ F.keep))); (focus (obtain ⟨la, rfl, Ib⟩ := Il; have Ib : NodeAt w.params _ la (.box 2 lw 4 4 0) := ⟨.inl rfl, Ib⟩; (repeat (first  | ((with_reducible show wpAny _ _ (getAttr _ (Str.ofString "kind") _) _ _ _); refine g_cls (pg_of (ca_Skip _)) (hd_of (ca_Skip _)) (fk_Skip _) (ng_int _ _ _) cn_kind (G.x.keeps F.keep) (Inst.up I F.keep) (by rfl) ?_)  | ((with_reducible show wpAny _ _ (getAttr _ (Str.ofString "leader") _) _ _ _); refine g_own (clsOk_ofA (ca_Skip _) (fa_Skip_leader _)) (G.x.keeps F.keep) (Inst.up I F.keep) (by rfl) ?_)  | ((with_reducible show wpAny _ _ (eval (Expr.Name _ _) _) _ _ _); first | ((with_reducible refine n_HBOX F G ?_ ?hka ?hkb); (case hka => rfl); (case hkb => rfl)) | ((with_reducible refine n_VBOX F G ?_ ?hka ?hkb); (case hka => rfl); (case hkb => rfl)) | ((with_reducible refine n_KERN F G ?_ ?hka ?hkb); (case hka => rfl); (case hkb => rfl)) | ((with_reducible refine n_GLUE F G ?_ ?hka ?hkb); (case hka => rfl); (case hkb => rfl)))  | ((with_reducible show wpAny _ _ (eval (Expr.Call (Expr.Name (Str.ofString "width_of") _) _ _ _) _) _ _ _); refine e_call1 (kp_width_of _) (n_width_of F G ⟨rfl, ?_⟩ (by rfl) (by rfl)))  | ((with_reducible show wpAny _ _ (call (Value.ref 488) _) _ _ _); (refine width_of_c (R.le (by decide)) (G.fr F) (NodeAt.up (by assumption) F.keep) (by rfl) ?_; intro h tk t u; replace F := Fr.up F u; replace N := News.up N u; clear u))  | walk_at "mS")) <;> (exact kq _ _ _ F.keep))); done))
  | ((have e9 : n.kind ≠ 2 ∧ n.kind ≠ 3 ∧ n.kind ≠ 5 ∧ n.kind ≠ 6 := by refine ⟨?_, ?_, ?_, ?_⟩ <;> omega); refine width_of_c (R.le (by decide)) (G.fr F) (NodeAt.up H F.keep) (sized_of H e9.2.2.1 e9.2.2.2) ?_; intro h tk t u; replace F := Fr.up F u; exact acr_wid H e9 ▸ kq _ _ _ F.keep)
end
end Mine
/-! Tot -/
namespace Mine
noncomputable def iV (q : Int × Tok) : Value := .int q.1 q.2
noncomputable def LObj (o : Obj) (zs : List Int) : Prop := ∃ qs : List (Int × Tok), qs.map (·.1) = zs ∧ o.cls = .type "list" ∧ ∃ n, o.data = .seq (qs.map iV).toArray n
structure Apart (xa dx ls lk : Addr) : Prop where
  a1 : xa ≠ dx
  a2 : xa ≠ ls
  a3 : xa ≠ lk
  a4 : dx ≠ ls
  a5 : dx ≠ lk
  a6 : ls ≠ lk
structure TotO (P : Params) (o o1 o2 : Obj) (ls lk : Addr) (nat : Int) (st sk : List Int) : Prop where
  isd : ∃ t, IsD P o [K_ "natural" (.int nat t), K_ "stretch" (.ref ls), K_ "shrink" (.ref lk)]
  l1 : LObj o1 st
  l2 : LObj o2 sk
structure TotH (P : Params) (h : Heap) (xa dx ls lk : Addr) (o o1 o2 : Obj) (nat : Int) (st sk : List Int) : Prop extends TotO P o o1 o2 ls lk nat st sk where
  hx : h.get? xa = some (instObj 297 dx)
  hd : h.get? dx = some o
  h1 : h.get? ls = some o1
  h2 : h.get? lk = some o2
noncomputable def TotAt (P : Params) (h : Heap) (xa dx ls lk : Addr) (nat : Int) (st sk : List Int) : Prop := ∃ o o1 o2, TotH P h xa dx ls lk o o1 o2 nat st sk
section
variable {prog : Program} {w : World} {A : Around} {E : Value → Shared → Prop} {h g : Heap} {gs : Array GenState} {dr : Drawn} {tk : Nat} {os : OsState} {L a : Addr} {m : Str → Option Value}
  {cn : Str} {cs : Scope} {ccd : Value} {cl : List (Str × Addr)} {p : Program} {loose : List Str} {mg mb : Str → Option Value} {Q : Value → Shared → Prop} {pos : Pos}

variable {i j x b wd hh dd : Int} {ti tj tx tb tl th td : Tok} {n : Nd} {xa dx ls lk : Addr} {nat : Int} {st sk : List Int}
theorem LObj.list {l : Addr} {o : Obj} {zs : List Int} (e : h.get? l = some o) (H : LObj o zs) : ∃ qs : List (Int × Tok), qs.map (·.1) = zs ∧ h.IsList l (qs.map iV).toArray :=
  let ⟨qs, a, c, d⟩ := H; ⟨qs, a, o, e, c, d⟩
theorem LObj.of {l : Addr} {o : Obj} {qs : List (Int × Tok)} (e : h.get? l = some o) (H : h.IsList l (qs.map iV).toArray) : LObj o (qs.map (·.1)) := by
  obtain ⟨o', e', c, d⟩ := H
  rw [e] at e'; cases e'
  exact ⟨qs, rfl, c, d⟩
theorem TotAt.up {P : Params} {h' : Heap} (T : TotAt P h xa dx ls lk nat st sk) (u : Up h h') : TotAt P h' xa dx ls lk nat st sk :=
  let ⟨o, o1, o2, T⟩ := T; ⟨o, o1, o2, ⟨T.isd, T.l1, T.l2⟩, u _ _ T.hx, u _ _ T.hd, u _ _ T.h1, u _ _ T.h2⟩
theorem TotH.inst {P : Params} {o o1 o2 : Obj} (T : TotH P h xa dx ls lk o o1 o2 nat st sk) : ∃ t, Inst P h xa 297 [K_ "natural" (.int nat t), K_ "stretch" (.ref ls), K_ "shrink" (.ref lk)] :=
  let ⟨t, hO⟩ := T.isd; ⟨t, .of T.hx hO T.hd⟩
theorem tot_widen_c (R : Rm 1 A) (G : Gd w p loose mg mb h) (gb : Heap) (Gb : Gd w p loose mg mb gb) (T : TotAt w.params h xa dx ls lk nat st sk) (ap : Apart xa dx ls lk) (hf : gb.get? dx = none)
    (kq : ∀ h' tk', Ext [dx, ls, lk] h h' → TotAt w.params h' xa dx ls lk (nat + i) st sk → Q .none ⟨h', gs, dr, tk', os⟩) :
    wpAny (model prog w) A (call (.ref 273) [.ref xa, .int i ti]) Q E ⟨h, gs, dr, tk, os⟩ := by
  obtain ⟨o, o1, o2, T⟩ := T
  obtain ⟨t0, hO⟩ := T.isd
  refine call_fnW (n := 0) (binds := [(Str.ofString "self", .ref xa), (Str.ofString "width", .int i ti)]) R G gb Gb [(dx, o)] (fun q hq => by rw [List.mem_singleton.mp hq]; exact T.hd) (fun q hq => by rw [List.mem_singleton.mp hq]; exact hf) (by k_is) (by k_is) (BindsTo.of_eq (by rfl)) (by rfl) (fun A g L h₁ tk R F N G sg => ?_)
  have nm : ∀ {b : Addr}, b ≠ dx → b ∉ [(dx, o)].map (·.1) := fun e hm => e (List.mem_singleton.mp hm)
  have hx := sg _ _ T.hx (nm ap.a1)
  have g1 := sg _ _ T.h1 (nm (Ne.symm ap.a4))
  have g2 := sg _ _ T.h2 (nm (Ne.symm ap.a5))
  repeat (first
   | ((with_reducible show wpAny _ _ (getAttr _ (Str.ofString "natural") _) _ _ _); (refine g_own (clsOk_ofA (ca_Totals _) (fa_Totals_natural _)) (G.x.keeps F.keep) (Inst.of (F.keep _ _ hx) hO (N _ (.head _)).1) (by rfl) ?_))
   | ((with_reducible show wpAny _ _ (setAttr _ (Str.ofString "natural") _) _ _ _); first | (refine s_attr (pre := []) (setOk_of (ca_Totals _) (fa_Totals_natural _)) F N G (F.keep _ _ hx) hO (by first | assumption | k_all) (by first | assumption | k_all) (Nat.le_of_ble_eq_true rfl) ?_; clear F N hO; intro h o F N hO; (try simp only [List.nil_append, List.cons_append] at N)) | (refine s_attr (pre := [_]) (setOk_of (ca_Totals _) (fa_Totals_natural _)) F N G (F.keep _ _ hx) hO (by first | assumption | k_all) (by first | assumption | k_all) (Nat.le_of_ble_eq_true rfl) ?_; clear F N hO; intro h o F N hO; (try simp only [List.nil_append, List.cons_append] at N)) | (refine s_attr (pre := [_, _]) (setOk_of (ca_Totals _) (fa_Totals_natural _)) F N G (F.keep _ _ hx) hO (by first | assumption | k_all) (by first | assumption | k_all) (Nat.le_of_ble_eq_true rfl) ?_; clear F N hO; intro h o F N hO; (try simp only [List.nil_append, List.cons_append] at N)))
   | walk_at "mS")
  all_goals exact kq _ _ (fun b ob e hm => F.keep _ _ (sg _ _ e (nm fun q => hm (q ▸ .head _)))) ⟨_, o1, o2, ⟨⟨_, hO⟩, T.l1, T.l2⟩, F.keep _ _ hx, (N _ (.head _)).1, F.keep _ _ g1, F.keep _ _ g2⟩
theorem getq {qs : List (Int × Tok)} {zs : List Int} (e : qs.map (·.1) = zs) {k : Nat} (hk : k < zs.length) : ∃ u, (qs.map iV)[k]? = some (.int (zs.getD k 0) u) := by
  subst e
  have hk' : k < qs.length := by simpa using hk
  refine ⟨(qs[k]).2, ?_⟩
  simp [List.getElem?_eq_getElem hk', iV, List.getD_eq_getElem?_getD]
theorem setq {qs : List (Int × Tok)} {k : Nat} {z : Int} {u : Tok} : (qs.map iV).set k (.int z u) = (qs.set k (z, u)).map iV ∧ (qs.set k (z, u)).map (·.1) = (qs.map (·.1)).set k z := by
  simp [List.map_set, iV]
theorem tot_add_c {ga : Addr} {gw gs_ so gk ko : Int} (R : Rm 1 A) (G : Gd w p loose mg mb h) (gb : Heap) (Gb : Gd w p loose mg mb gb) (T : TotAt w.params h xa dx ls lk nat st sk) (ap : Apart xa dx ls lk) (hf : gb.get? dx = none) (hf1 : gb.get? ls = none) (hf2 : gb.get? lk = none)
    (Ig : GlueAt w.params gb ga gw gs_ so gk ko) (ub : ∀ b o, gb.get? b = some o → h.get? b = some o) (hs : st.length = 4) (hk : sk.length = 4) (hso : 0 ≤ so ∧ so ≤ 3) (hko : 0 ≤ ko ∧ ko ≤ 3)
    (kq : ∀ h' tk', Ext [dx, ls, lk] h h' → TotAt w.params h' xa dx ls lk (nat + gw) (st.set so.toNat (st.getD so.toNat 0 + gs_)) (sk.set ko.toNat (sk.getD ko.toNat 0 + gk)) → Q .none ⟨h', gs, dr, tk', os⟩) :
    wpAny (model prog w) A (call (.ref 266) [.ref xa, .ref ga]) Q E ⟨h, gs, dr, tk, os⟩ := by
  obtain ⟨o, o1, o2, T⟩ := T
  obtain ⟨t0, hO⟩ := T.isd
  obtain ⟨t1, t2, t3, t4, t5, Ig⟩ := Ig
  have led3 : ∀ {P : Addr × Obj → Prop}, P (dx, o) → P (ls, o1) → P (lk, o2) → ∀ q ∈ [(dx, o), (ls, o1), (lk, o2)], P q := fun p1 p2 p3 q hq => by
    rcases List.mem_cons.mp hq with rfl | hq
    · exact p1
    · rcases List.mem_cons.mp hq with rfl | hq
      · exact p2
      · rw [List.mem_singleton.mp hq]; exact p3
  refine call_fnW (n := 0) (binds := [(Str.ofString "self", .ref xa), (Str.ofString "glue", .ref ga)]) R G gb Gb [(dx, o), (ls, o1), (lk, o2)] (led3 T.hd T.h1 T.h2) (led3 hf hf1 hf2) (by k_is) (by k_is) (BindsTo.of_eq (by rfl)) (by rfl) (fun A g L h₁ tk R F N G sg => ?_)
  have nm : ∀ {b : Addr}, b ≠ dx → b ≠ ls → b ≠ lk → b ∉ [(dx, o), (ls, o1), (lk, o2)].map (·.1) := fun e1 e2 e3 hm => by simp at hm; rcases hm with q | q | q <;> contradiction
  have fr : ∀ {b : Addr} {ob : Obj}, gb.get? b = some ob → g.get? b = some ob := fun {b ob} e => sg _ _ (ub _ _ e) (nm (fun q => by rw [q, hf] at e; cases e) (fun q => by rw [q, hf1] at e; cases e) (fun q => by rw [q, hf2] at e; cases e))
  have hx := sg _ _ T.hx (nm ap.a1 ap.a2 ap.a3)
  have Ig := Ig.up (fun b o e => fr e)
  have rs1 : ∀ q ∈ [(ls, o1), (lk, o2)], q.1 ≠ dx := fun q hq => by simp at hq; rcases hq with rfl | rfl; exact Ne.symm ap.a4; exact Ne.symm ap.a5
  repeat (first
   | ((with_reducible show wpAny _ _ (getAttr _ (Str.ofString "natural") _) _ _ _); (refine g_own (clsOk_ofA (ca_Totals _) (fa_Totals_natural _)) (G.x.keeps F.keep) (Inst.of (F.keep _ _ hx) hO (N _ (.head _)).1) (by rfl) ?_))
   | ((with_reducible show wpAny _ _ (getAttr (Value.ref _) (Str.ofString "stretch") _) _ _ _); (first | refine g_own (clsOk_ofA (ca_Totals _) (fa_Totals_stretch _)) (G.x.keeps F.keep) (Inst.of (F.keep _ _ hx) hO (N _ (.head _)).1) (by rfl) ?_ | refine g_own (clsOk_ofA (ca_Glue _) (fa_Glue_stretch _)) (G.x.keeps F.keep) (Inst.up Ig F.keep) (by rfl) ?_))
   | ((with_reducible show wpAny _ _ (getAttr (Value.ref _) (Str.ofString "shrink") _) _ _ _); (first | refine g_own (clsOk_ofA (ca_Totals _) (fa_Totals_shrink _)) (G.x.keeps F.keep) (Inst.of (F.keep _ _ hx) hO (N _ (.head _)).1) (by rfl) ?_ | refine g_own (clsOk_ofA (ca_Glue _) (fa_Glue_shrink _)) (G.x.keeps F.keep) (Inst.up Ig F.keep) (by rfl) ?_))
   | ((with_reducible show wpAny _ _ (getAttr _ (Str.ofString "width") _) _ _ _); refine g_own (clsOk_ofA (ca_Glue _) (fa_Glue_width _)) (G.x.keeps F.keep) (Inst.up Ig F.keep) (by rfl) ?_)
   | ((with_reducible show wpAny _ _ (getAttr _ (Str.ofString "stretch_order") _) _ _ _); refine g_own (clsOk_ofA (ca_Glue _) (fa_Glue_stretch_order _)) (G.x.keeps F.keep) (Inst.up Ig F.keep) (by rfl) ?_)
   | ((with_reducible show wpAny _ _ (getAttr _ (Str.ofString "shrink_order") _) _ _ _); refine g_own (clsOk_ofA (ca_Glue _) (fa_Glue_shrink_order _)) (G.x.keeps F.keep) (Inst.up Ig F.keep) (by rfl) ?_)
   | ((with_reducible show wpAny _ _ (setAttr _ (Str.ofString "natural") _) _ _ _); first | (refine s_attr (pre := []) (setOk_of (ca_Totals _) (fa_Totals_natural _)) F N G (F.keep _ _ hx) hO (by first | assumption | k_all) (by first | assumption | k_all) (Nat.le_of_ble_eq_true rfl) ?_; clear F N hO; intro h o F N hO; (try simp only [List.nil_append, List.cons_append] at N)) | (refine s_attr (pre := [_]) (setOk_of (ca_Totals _) (fa_Totals_natural _)) F N G (F.keep _ _ hx) hO (by first | assumption | k_all) (by first | assumption | k_all) (Nat.le_of_ble_eq_true rfl) ?_; clear F N hO; intro h o F N hO; (try simp only [List.nil_append, List.cons_append] at N)) | (refine s_attr (pre := [_, _]) (setOk_of (ca_Totals _) (fa_Totals_natural _)) F N G (F.keep _ _ hx) hO (by first | assumption | k_all) (by first | assumption | k_all) (Nat.le_of_ble_eq_true rfl) ?_; clear F N hO; intro h o F N hO; (try simp only [List.nil_append, List.cons_append] at N)))
   | walk_at "mS")
  -- the two lists
  obtain ⟨qs, hq, hl⟩ := LObj.list (N (ls, o1) (.tail _ (.head _))).1 T.l1
  subst hq
  obtain ⟨u, hu⟩ := getq rfl (show so.toNat < (qs.map (·.1)).length by omega)
  refine g_item hl hso.1 (by omega) hu ?_
  repeat (first
   | ((with_reducible show wpAny _ _ (getAttr _ (Str.ofString "natural") _) _ _ _); (refine g_own (clsOk_ofA (ca_Totals _) (fa_Totals_natural _)) (G.x.keeps F.keep) (Inst.of (F.keep _ _ hx) hO (N _ (.head _)).1) (by rfl) ?_))
   | ((with_reducible show wpAny _ _ (getAttr (Value.ref _) (Str.ofString "stretch") _) _ _ _); (first | refine g_own (clsOk_ofA (ca_Totals _) (fa_Totals_stretch _)) (G.x.keeps F.keep) (Inst.of (F.keep _ _ hx) hO (N _ (.head _)).1) (by rfl) ?_ | refine g_own (clsOk_ofA (ca_Glue _) (fa_Glue_stretch _)) (G.x.keeps F.keep) (Inst.up Ig F.keep) (by rfl) ?_))
   | ((with_reducible show wpAny _ _ (getAttr (Value.ref _) (Str.ofString "shrink") _) _ _ _); (first | refine g_own (clsOk_ofA (ca_Totals _) (fa_Totals_shrink _)) (G.x.keeps F.keep) (Inst.of (F.keep _ _ hx) hO (N _ (.head _)).1) (by rfl) ?_ | refine g_own (clsOk_ofA (ca_Glue _) (fa_Glue_shrink _)) (G.x.keeps F.keep) (Inst.up Ig F.keep) (by rfl) ?_))
   | ((with_reducible show wpAny _ _ (getAttr _ (Str.ofString "width") _) _ _ _); refine g_own (clsOk_ofA (ca_Glue _) (fa_Glue_width _)) (G.x.keeps F.keep) (Inst.up Ig F.keep) (by rfl) ?_)
   | ((with_reducible show wpAny _ _ (getAttr _ (Str.ofString "stretch_order") _) _ _ _); refine g_own (clsOk_ofA (ca_Glue _) (fa_Glue_stretch_order _)) (G.x.keeps F.keep) (Inst.up Ig F.keep) (by rfl) ?_)
   | ((with_reducible show wpAny _ _ (getAttr _ (Str.ofString "shrink_order") _) _ _ _); refine g_own (clsOk_ofA (ca_Glue _) (fa_Glue_shrink_order _)) (G.x.keeps F.keep) (Inst.up Ig F.keep) (by rfl) ?_)
   | ((with_reducible show wpAny _ _ (setAttr _ (Str.ofString "natural") _) _ _ _); first | (refine s_attr (pre := []) (setOk_of (ca_Totals _) (fa_Totals_natural _)) F N G (F.keep _ _ hx) hO (by first | assumption | k_all) (by first | assumption | k_all) (Nat.le_of_ble_eq_true rfl) ?_; clear F N hO; intro h o F N hO; (try simp only [List.nil_append, List.cons_append] at N)) | (refine s_attr (pre := [_]) (setOk_of (ca_Totals _) (fa_Totals_natural _)) F N G (F.keep _ _ hx) hO (by first | assumption | k_all) (by first | assumption | k_all) (Nat.le_of_ble_eq_true rfl) ?_; clear F N hO; intro h o F N hO; (try simp only [List.nil_append, List.cons_append] at N)) | (refine s_attr (pre := [_, _]) (setOk_of (ca_Totals _) (fa_Totals_natural _)) F N G (F.keep _ _ hx) hO (by first | assumption | k_all) (by first | assumption | k_all) (Nat.le_of_ble_eq_true rfl) ?_; clear F N hO; intro h o F N hO; (try simp only [List.nil_append, List.cons_append] at N)))
   | walk_at "mS")
  refine s_item (pre := [_]) F N hl (by rintro q hq rfl; rw [List.mem_singleton.mp hq] at ap; exact absurd rfl ap.a4) (by rintro q hq rfl; rw [List.mem_singleton.mp hq] at ap; exact absurd rfl ap.a6) hso.1 (by have := hs; simp only [List.length_map] at this ⊢; omega) (by have := hs; simp only [List.length_map] at this ⊢; omega) (fun h₂ o1' F' N' hl' => ?_)
  clear hl F N
  replace F := F'
  replace N := N'
  clear F' N'
  rw [setq.1] at hl'
  have L1 := setq.2 ▸ LObj.of (N (ls, o1') (.tail _ (.head _))).1 hl'
  repeat (first
   | ((with_reducible show wpAny _ _ (getAttr _ (Str.ofString "natural") _) _ _ _); (refine g_own (clsOk_ofA (ca_Totals _) (fa_Totals_natural _)) (G.x.keeps F.keep) (Inst.of (F.keep _ _ hx) hO (N _ (.head _)).1) (by rfl) ?_))
   | ((with_reducible show wpAny _ _ (getAttr (Value.ref _) (Str.ofString "stretch") _) _ _ _); (first | refine g_own (clsOk_ofA (ca_Totals _) (fa_Totals_stretch _)) (G.x.keeps F.keep) (Inst.of (F.keep _ _ hx) hO (N _ (.head _)).1) (by rfl) ?_ | refine g_own (clsOk_ofA (ca_Glue _) (fa_Glue_stretch _)) (G.x.keeps F.keep) (Inst.up Ig F.keep) (by rfl) ?_))
   | ((with_reducible show wpAny _ _ (getAttr (Value.ref _) (Str.ofString "shrink") _) _ _ _); (first | refine g_own (clsOk_ofA (ca_Totals _) (fa_Totals_shrink _)) (G.x.keeps F.keep) (Inst.of (F.keep _ _ hx) hO (N _ (.head _)).1) (by rfl) ?_ | refine g_own (clsOk_ofA (ca_Glue _) (fa_Glue_shrink _)) (G.x.keeps F.keep) (Inst.up Ig F.keep) (by rfl) ?_))
   | ((with_reducible show wpAny _ _ (getAttr _ (Str.ofString "width") _) _ _ _); refine g_own (clsOk_ofA (ca_Glue _) (fa_Glue_width _)) (G.x.keeps F.keep) (Inst.up Ig F.keep) (by rfl) ?_)
   | ((with_reducible show wpAny _ _ (getAttr _ (Str.ofString "stretch_order") _) _ _ _); refine g_own (clsOk_ofA (ca_Glue _) (fa_Glue_stretch_order _)) (G.x.keeps F.keep) (Inst.up Ig F.keep) (by rfl) ?_)
   | ((with_reducible show wpAny _ _ (getAttr _ (Str.ofString "shrink_order") _) _ _ _); refine g_own (clsOk_ofA (ca_Glue _) (fa_Glue_shrink_order _)) (G.x.keeps F.keep) (Inst.up Ig F.keep) (by rfl) ?_)
   | ((with_reducible show wpAny _ _ (setAttr _ (Str.ofString "natural") _) _ _ _); first | (refine s_attr (pre := []) (setOk_of (ca_Totals _) (fa_Totals_natural _)) F N G (F.keep _ _ hx) hO (by first | assumption | k_all) (by first | assumption | k_all) (Nat.le_of_ble_eq_true rfl) ?_; clear F N hO; intro h o F N hO; (try simp only [List.nil_append, List.cons_append] at N)) | (refine s_attr (pre := [_]) (setOk_of (ca_Totals _) (fa_Totals_natural _)) F N G (F.keep _ _ hx) hO (by first | assumption | k_all) (by first | assumption | k_all) (Nat.le_of_ble_eq_true rfl) ?_; clear F N hO; intro h o F N hO; (try simp only [List.nil_append, List.cons_append] at N)) | (refine s_attr (pre := [_, _]) (setOk_of (ca_Totals _) (fa_Totals_natural _)) F N G (F.keep _ _ hx) hO (by first | assumption | k_all) (by first | assumption | k_all) (Nat.le_of_ble_eq_true rfl) ?_; clear F N hO; intro h o F N hO; (try simp only [List.nil_append, List.cons_append] at N)))
   | walk_at "mS")
  obtain ⟨ps, hp, hl⟩ := LObj.list (N (lk, o2) (.tail _ (.tail _ (.head _)))).1 T.l2
  subst hp
  obtain ⟨v, hv⟩ := getq rfl (show ko.toNat < (ps.map (·.1)).length by omega)
  refine g_item hl hko.1 (by omega) hv ?_
  repeat (first
   | ((with_reducible show wpAny _ _ (getAttr _ (Str.ofString "natural") _) _ _ _); (refine g_own (clsOk_ofA (ca_Totals _) (fa_Totals_natural _)) (G.x.keeps F.keep) (Inst.of (F.keep _ _ hx) hO (N _ (.head _)).1) (by rfl) ?_))
   | ((with_reducible show wpAny _ _ (getAttr (Value.ref _) (Str.ofString "stretch") _) _ _ _); (first | refine g_own (clsOk_ofA (ca_Totals _) (fa_Totals_stretch _)) (G.x.keeps F.keep) (Inst.of (F.keep _ _ hx) hO (N _ (.head _)).1) (by rfl) ?_ | refine g_own (clsOk_ofA (ca_Glue _) (fa_Glue_stretch _)) (G.x.keeps F.keep) (Inst.up Ig F.keep) (by rfl) ?_))
   | ((with_reducible show wpAny _ _ (getAttr (Value.ref _) (Str.ofString "shrink") _) _ _ _); (first | refine g_own (clsOk_ofA (ca_Totals _) (fa_Totals_shrink _)) (G.x.keeps F.keep) (Inst.of (F.keep _ _ hx) hO (N _ (.head _)).1) (by rfl) ?_ | refine g_own (clsOk_ofA (ca_Glue _) (fa_Glue_shrink _)) (G.x.keeps F.keep) (Inst.up Ig F.keep) (by rfl) ?_))
   | ((with_reducible show wpAny _ _ (getAttr _ (Str.ofString "width") _) _ _ _); refine g_own (clsOk_ofA (ca_Glue _) (fa_Glue_width _)) (G.x.keeps F.keep) (Inst.up Ig F.keep) (by rfl) ?_)
   | ((with_reducible show wpAny _ _ (getAttr _ (Str.ofString "stretch_order") _) _ _ _); refine g_own (clsOk_ofA (ca_Glue _) (fa_Glue_stretch_order _)) (G.x.keeps F.keep) (Inst.up Ig F.keep) (by rfl) ?_)
   | ((with_reducible show wpAny _ _ (getAttr _ (Str.ofString "shrink_order") _) _ _ _); refine g_own (clsOk_ofA (ca_Glue _) (fa_Glue_shrink_order _)) (G.x.keeps F.keep) (Inst.up Ig F.keep) (by rfl) ?_)
   | ((with_reducible show wpAny _ _ (setAttr _ (Str.ofString "natural") _) _ _ _); first | (refine s_attr (pre := []) (setOk_of (ca_Totals _) (fa_Totals_natural _)) F N G (F.keep _ _ hx) hO (by first | assumption | k_all) (by first | assumption | k_all) (Nat.le_of_ble_eq_true rfl) ?_; clear F N hO; intro h o F N hO; (try simp only [List.nil_append, List.cons_append] at N)) | (refine s_attr (pre := [_]) (setOk_of (ca_Totals _) (fa_Totals_natural _)) F N G (F.keep _ _ hx) hO (by first | assumption | k_all) (by first | assumption | k_all) (Nat.le_of_ble_eq_true rfl) ?_; clear F N hO; intro h o F N hO; (try simp only [List.nil_append, List.cons_append] at N)) | (refine s_attr (pre := [_, _]) (setOk_of (ca_Totals _) (fa_Totals_natural _)) F N G (F.keep _ _ hx) hO (by first | assumption | k_all) (by first | assumption | k_all) (Nat.le_of_ble_eq_true rfl) ?_; clear F N hO; intro h o F N hO; (try simp only [List.nil_append, List.cons_append] at N)))
   | walk_at "mS")
  refine s_item (pre := [_, _]) (post := []) F N hl (by intro q hq; simp at hq; rcases hq with rfl | rfl; exact ap.a5; exact ap.a6) (by simp) hko.1 (by have := hk; simp only [List.length_map] at this ⊢; omega) (by have := hk; simp only [List.length_map] at this ⊢; omega) (fun h₃ o2' F' N' hl2 => ?_)
  rw [setq.1] at hl2
  have L2 := setq.2 ▸ LObj.of (N' (lk, o2') (.tail _ (.tail _ (.head _)))).1 hl2
  clear hl F N
  replace F := F'
  replace N := N'
  clear F' N'
  repeat (first
   | ((with_reducible show wpAny _ _ (getAttr _ (Str.ofString "natural") _) _ _ _); (refine g_own (clsOk_ofA (ca_Totals _) (fa_Totals_natural _)) (G.x.keeps F.keep) (Inst.of (F.keep _ _ hx) hO (N _ (.head _)).1) (by rfl) ?_))
   | ((with_reducible show wpAny _ _ (getAttr (Value.ref _) (Str.ofString "stretch") _) _ _ _); (first | refine g_own (clsOk_ofA (ca_Totals _) (fa_Totals_stretch _)) (G.x.keeps F.keep) (Inst.of (F.keep _ _ hx) hO (N _ (.head _)).1) (by rfl) ?_ | refine g_own (clsOk_ofA (ca_Glue _) (fa_Glue_stretch _)) (G.x.keeps F.keep) (Inst.up Ig F.keep) (by rfl) ?_))
   | ((with_reducible show wpAny _ _ (getAttr (Value.ref _) (Str.ofString "shrink") _) _ _ _); (first | refine g_own (clsOk_ofA (ca_Totals _) (fa_Totals_shrink _)) (G.x.keeps F.keep) (Inst.of (F.keep _ _ hx) hO (N _ (.head _)).1) (by rfl) ?_ | refine g_own (clsOk_ofA (ca_Glue _) (fa_Glue_shrink _)) (G.x.keeps F.keep) (Inst.up Ig F.keep) (by rfl) ?_))
   | ((with_reducible show wpAny _ _ (getAttr _ (Str.ofString "width") _) _ _ _); refine g_own (clsOk_ofA (ca_Glue _) (fa_Glue_width _)) (G.x.keeps F.keep) (Inst.up Ig F.keep) (by rfl) ?_)
   | ((with_reducible show wpAny _ _ (getAttr _ (Str.ofString "stretch_order") _) _ _ _); refine g_own (clsOk_ofA (ca_Glue _) (fa_Glue_stretch_order _)) (G.x.keeps F.keep) (Inst.up Ig F.keep) (by rfl) ?_)
   | ((with_reducible show wpAny _ _ (getAttr _ (Str.ofString "shrink_order") _) _ _ _); refine g_own (clsOk_ofA (ca_Glue _) (fa_Glue_shrink_order _)) (G.x.keeps F.keep) (Inst.up Ig F.keep) (by rfl) ?_)
   | ((with_reducible show wpAny _ _ (setAttr _ (Str.ofString "natural") _) _ _ _); first | (refine s_attr (pre := []) (setOk_of (ca_Totals _) (fa_Totals_natural _)) F N G (F.keep _ _ hx) hO (by first | assumption | k_all) (by first | assumption | k_all) (Nat.le_of_ble_eq_true rfl) ?_; clear F N hO; intro h o F N hO; (try simp only [List.nil_append, List.cons_append] at N)) | (refine s_attr (pre := [_]) (setOk_of (ca_Totals _) (fa_Totals_natural _)) F N G (F.keep _ _ hx) hO (by first | assumption | k_all) (by first | assumption | k_all) (Nat.le_of_ble_eq_true rfl) ?_; clear F N hO; intro h o F N hO; (try simp only [List.nil_append, List.cons_append] at N)) | (refine s_attr (pre := [_, _]) (setOk_of (ca_Totals _) (fa_Totals_natural _)) F N G (F.keep _ _ hx) hO (by first | assumption | k_all) (by first | assumption | k_all) (Nat.le_of_ble_eq_true rfl) ?_; clear F N hO; intro h o F N hO; (try simp only [List.nil_append, List.cons_append] at N)))
   | walk_at "mS")
  all_goals exact kq _ _ (fun b ob e hm => F.keep _ _ (sg _ _ e (by simpa using hm))) ⟨_, o1', o2', ⟨⟨_, hO⟩, L1, L2⟩, F.keep _ _ hx, (N _ (.head _)).1, (N _ (.tail _ (.head _))).1, (N _ (.tail _ (.tail _ (.head _)))).1⟩
end
end Mine
/-! Fn3 -/
namespace Mine
noncomputable def IL (h : Heap) (l : Addr) (zs : List Int) : Prop := ∃ qs : List (Int × Tok), qs.map (·.1) = zs ∧ h.IsList l (qs.map iV).toArray
noncomputable def topOrd (zs : List Int) : Int := if zs.getD 3 0 ≠ 0 then 3 else if zs.getD 2 0 ≠ 0 then 2 else if zs.getD 1 0 ≠ 0 then 1 else 0
structure SG where
  sign : Int
  order : Int
  up : Int
  down : Int
  rep : Int
  bad : Int
noncomputable def setF (st sk : List Int) (e : Int) : SG :=
  if e = 0 then ⟨0, 0, 0, 1, 0, 0⟩ else
  let zs := if e > 0 then st else sk
  let o := topOrd zs
  let t := zs.getD o.toNat 0
  let rp := if o = 0 then (if e < 0 ∧ t < -e then 3 else if e > 0 then 1 else 2) else 0
  let bd := if o = 0 then (if e < 0 ∧ t < -e then -e - t else badF (if e < 0 then -e else e) t) else 0
  if t = 0 then ⟨0, 0, 0, 1, rp, bd⟩ else if rp = 3 then ⟨2, o, 1, 1, rp, bd⟩ else ⟨if e > 0 then 1 else 2, o, if t > 0 then (if e < 0 then -e else e) else -(if e < 0 then -e else e), if t > 0 then t else -t, rp, bd⟩
section
variable {prog : Program} {w : World} {A : Around} {E : Value → Shared → Prop} {h g : Heap} {gs : Array GenState} {dr : Drawn} {tk : Nat} {os : OsState} {L a : Addr} {m : Str → Option Value}
  {cn : Str} {cs : Scope} {ccd : Value} {cl : List (Str × Addr)} {p : Program} {loose : List Str} {mg mb : Str → Option Value} {Q : Value → Shared → Prop} {pos : Pos}

variable {i j x b wd hh dd : Int} {ti tj tx tb tl th td : Tok} {n : Nd} {xa dx ls lk : Addr} {nat : Int} {st sk zs : List Int} {l : Addr}
theorem IL.up {h' : Heap} (H : IL h l zs) (u : Up h h') : IL h' l zs := let ⟨qs, a, b⟩ := H; ⟨qs, a, b.at fun o e => u _ _ e⟩
theorem TotAt.s1 {P : Params} (T : TotAt P h xa dx ls lk nat st sk) : IL h ls st := let ⟨_, _, _, T⟩ := T; T.l1.list T.h1
theorem TotAt.s2 {P : Params} (T : TotAt P h xa dx ls lk nat st sk) : IL h lk sk := let ⟨_, _, _, T⟩ := T; T.l2.list T.h2
theorem i_lst {value slice : Expr} {k : Int} {u : Tok} (H : IL h l zs) (h0 : 0 ≤ k) (hk : k < zs.length) (hz : zs.length < 1000) (kq : ∀ t, Q (.int (zs.getD k.toNat 0) t) ⟨h, gs, dr, tk, os⟩)
    (hs : subscripted slice false (.ref l) (.int k u) = operate [.ref l, .int k u] (getItem (.ref l) (.int k u)) := by with_unfolding_all rfl) :
    wpAny (model prog w) A (subscriptTail value slice (.ref l) (.int k u)) Q E ⟨h, gs, dr, tk, os⟩ := by
  obtain ⟨qs, e, hl⟩ := H
  obtain ⟨v, hv⟩ := getq e (k := k.toNat) (by omega)
  exact tail_any (s := ⟨h, gs, dr, tk, os⟩) hl.typeIs slot_list_getitem.lookup (wpAny_getItem_list hl h0 (by omega) (by simpa using hv) (kq v)) hs
theorem i_list {value slice : Expr} {vs : List Value} {k : Int} {u : Tok} {x : Value} (hl : h.IsList l vs.toArray) (h0 : 0 ≤ k) (hk : k < 2 ^ 63) (hx : vs[k.toNat]? = some x) (kq : Q x ⟨h, gs, dr, tk, os⟩)
    (hs : subscripted slice false (.ref l) (.int k u) = operate [.ref l, .int k u] (getItem (.ref l) (.int k u)) := by with_unfolding_all rfl) :
    wpAny (model prog w) A (subscriptTail value slice (.ref l) (.int k u)) Q E ⟨h, gs, dr, tk, os⟩ :=
  tail_any (s := ⟨h, gs, dr, tk, os⟩) hl.typeIs slot_list_getitem.lookup (wpAny_getItem_list hl h0 hk (by simpa using hx) kq) hs
theorem i_tupA {value slice : Expr} {t : Addr} {vs : List Value} {k : Int} {u : Tok} {v : Value} (ht : h.get? t = some (tupOf vs)) (h0 : 0 ≤ k) (hj : k < vs.length) (hl : vs.length < 1000) (hx : vs[k.toNat]? = some v) (kq : Q v ⟨h, gs, dr, tk, os⟩)
    (hs : subscripted slice false (.ref t) (.int k u) = operate [.ref t, .int k u] (getItem (.ref t) (.int k u)) := by with_unfolding_all rfl) :
    wpAny (model prog w) A (subscriptTail value slice (.ref t) (.int k u)) Q E ⟨h, gs, dr, tk, os⟩ :=
  item_tupleT (s := ⟨h, gs, dr, tk, os⟩) (j := k.toNat) ⟨_, ht, rfl, _, rfl⟩ (by omega) (by omega) (by unfold seqIndex?; simp; omega) hx kq hs
theorem top_order_c (R : Rm 1 A) (G : Gd w p loose mg mb g) (H : IL g l zs) (h4 : zs.length = 4)
    (kq : ∀ h' tk' t r, Up g h' → r = topOrd zs → Q (.int r t) ⟨h', gs, dr, tk', os⟩) : wpAny (model prog w) A (call (.ref 245) [.ref l]) Q E ⟨g, gs, dr, tk, os⟩ := by
  refine call_fn (n := 0) (binds := [(Str.ofString "sums", .ref l)]) R G (by k_is) (by k_is) (by first | exact BindsTo.of_eq (by rfl) | exact binds_K G.x rfl (by k_is) rfl rfl rfl) (by rfl) (fun A L h tk R F N => ?_)
  refine x_for g ?_
  repeat (first
   | ((with_reducible show wpAny _ _ (eval (Expr.Name _ _) _) _ _ _); first | ((with_reducible refine n_FILLL F G ?_ ?hka ?hkb); (case hka => rfl); (case hkb => rfl)) | ((with_reducible refine n_FILL F G ?_ ?hka ?hkb); (case hka => rfl); (case hkb => rfl)) | ((with_reducible refine n_FIL F G ?_ ?hka ?hkb); (case hka => rfl); (case hkb => rfl)))
   | walk_at "mS")
  refine for_tup (fun i m' led' => led' = [] ∧ m' (Str.ofString "sums") = some (.ref l) ∧ (1 ≤ i → zs.getD 3 0 = 0) ∧ (2 ≤ i → zs.getD 2 0 = 0) ∧ (3 ≤ i → zs.getD 1 0 = 0)) R.hd ((N _ (.head _)).1) (N _ (.head _)).2.1 F (fun q hq => N q (.tail _ hq)) ⟨rfl, (by rfl : lo _ _ _ = _), fun h => by omega, fun h => by omega, fun h => by omega⟩ (fun i m' led' z => by rw [z.1]) ?_ ?_
  · rintro i v m₁ led₁ h tk own hv ⟨rfl, m1, m2, m3, m4⟩ F N
    have ⟨z, tz, hz, hr⟩ : ∃ (z : Int) (tz : Tok), v = .int z tz ∧ 0 ≤ z ∧ z < 4 ∧ ((i = 0 ∧ z = 3) ∨ (i = 1 ∧ z = 2) ∨ (i = 2 ∧ z = 1)) := by
      rcases i with _ | _ | _ | i
      · exact ⟨3, _, (Option.some.inj hv).symm, by omega⟩
      · exact ⟨2, _, (Option.some.inj hv).symm, by omega⟩
      · exact ⟨1, _, (Option.some.inj hv).symm, by omega⟩
      · simp at hv
    subst hz
    repeat (first
   | ((with_reducible show wpAny _ _ (subscriptTail _ _ _ _) _ _ _); (refine i_lst (H.up F.keep) hr.1 (by omega) (by omega) ?_; intro t))
   | walk_at "mS")
    · refine kq _ _ _ _ F.keep ?_
      rcases hr.2.2 with ⟨e1, e2⟩ | ⟨e1, e2⟩ | ⟨e1, e2⟩ <;> subst e1 <;> subst e2 <;> unfold topOrd
      · exact (if_pos hc).symm
      · rw [if_neg (fun q => q (m2 (by omega)))]; exact (if_pos hc).symm
      · rw [if_neg (fun q => q (m2 (by omega))), if_neg (fun q => q (m3 (by omega)))]; exact (if_pos hc).symm
    · refine ⟨_, _, _, _, rfl, F, N, rfl, m1, ?_, ?_, ?_⟩
      · intro _
        rcases hr.2.2 with ⟨e1, e2⟩ | ⟨e1, e2⟩ | ⟨e1, e2⟩ <;> subst e1 <;> subst e2
        · exact hc
        · exact m2 (by omega)
        · exact m2 (by omega)
      · intro _
        rcases hr.2.2 with ⟨e1, e2⟩ | ⟨e1, e2⟩ | ⟨e1, e2⟩ <;> subst e1 <;> subst e2
        · omega
        · exact hc
        · exact m3 (by omega)
      · intro _
        rcases hr.2.2 with ⟨e1, e2⟩ | ⟨e1, e2⟩ | ⟨e1, e2⟩ <;> subst e1 <;> subst e2
        · omega
        · omega
        · exact hc
  · rintro m' led' h tk ⟨rfl, m1, m2, m3, m4⟩ F N
    show wpAny _ _ _ _ _ _
    repeat (first
   | ((with_reducible show wpAny _ _ (eval (Expr.Name _ _) _) _ _ _); ((with_reducible refine n_NORMAL F G ?_ ?hka ?hkb); (case hka => rfl); (case hkb => rfl)))
   | walk_at "mS")
    refine kq _ _ _ _ F.keep ?_
    have e3 := m2 (Nat.le_of_ble_eq_true rfl)
    have e2 := m3 (Nat.le_of_ble_eq_true rfl)
    have e1 := m4 (Nat.le_of_ble_eq_true rfl)
    unfold topOrd
    rw [if_neg (fun q => q e3), if_neg (fun q => q e2), if_neg (fun q => q e1)]
theorem stretch_top_c (R : Rm 2 A) (G : Gd w p loose mg mb h) (T : TotAt w.params h xa dx ls lk nat st sk) (h4 : st.length = 4)
    (kq : ∀ h' tk' t r, Up h h' → r = topOrd st → Q (.int r t) ⟨h', gs, dr, tk', os⟩) : wpAny (model prog w) A (call (.ref 280) [.ref xa]) Q E ⟨h, gs, dr, tk, os⟩ := by
  refine call_fn (n := 1) (binds := [(Str.ofString "self", .ref xa)]) R G (by k_is) (by k_is) (by first | exact BindsTo.of_eq (by rfl) | exact binds_K G.x rfl (by k_is) rfl rfl rfl) (by rfl) (fun A L h tk R F N => ?_)
  have H := T.s1
  obtain ⟨o, o1, o2, T⟩ := T
  obtain ⟨t, I⟩ := T.inst
  repeat (first
   | ((with_reducible show wpAny _ _ (getAttr _ (Str.ofString "stretch") _) _ _ _); refine g_own (clsOk_ofA (ca_Totals _) (fa_Totals_stretch _)) (G.x.keeps F.keep) (Inst.up I F.keep) (by rfl) ?_)
   | ((with_reducible show wpAny _ _ (eval (Expr.Call (Expr.Name (Str.ofString "top_order") _) _ _ _) _) _ _ _); refine e_call1 (kp_top_order _) (n_top_order F G ⟨rfl, ?_⟩ (by rfl) (by rfl)))
   | ((with_reducible show wpAny _ _ (call (Value.ref 245) _) _ _ _); (refine top_order_c (R.le (by decide)) (G.fr F) (H.up F.keep) (by assumption) ?_; intro h tk t r u hr; subst hr; replace F := Fr.up F u; replace N := News.up N u; clear u))
   | walk_at "mS")
  all_goals exact kq _ _ _ _ F.keep rfl
theorem shrink_top_c (R : Rm 2 A) (G : Gd w p loose mg mb h) (T : TotAt w.params h xa dx ls lk nat st sk) (h4 : sk.length = 4)
    (kq : ∀ h' tk' t r, Up h h' → r = topOrd sk → Q (.int r t) ⟨h', gs, dr, tk', os⟩) : wpAny (model prog w) A (call (.ref 287) [.ref xa]) Q E ⟨h, gs, dr, tk, os⟩ := by
  refine call_fn (n := 1) (binds := [(Str.ofString "self", .ref xa)]) R G (by k_is) (by k_is) (by first | exact BindsTo.of_eq (by rfl) | exact binds_K G.x rfl (by k_is) rfl rfl rfl) (by rfl) (fun A L h tk R F N => ?_)
  have H := T.s2
  obtain ⟨o, o1, o2, T⟩ := T
  obtain ⟨t, I⟩ := T.inst
  repeat (first
   | ((with_reducible show wpAny _ _ (getAttr _ (Str.ofString "shrink") _) _ _ _); refine g_own (clsOk_ofA (ca_Totals _) (fa_Totals_shrink _)) (G.x.keeps F.keep) (Inst.up I F.keep) (by rfl) ?_)
   | ((with_reducible show wpAny _ _ (eval (Expr.Call (Expr.Name (Str.ofString "top_order") _) _ _ _) _) _ _ _); refine e_call1 (kp_top_order _) (n_top_order F G ⟨rfl, ?_⟩ (by rfl) (by rfl)))
   | ((with_reducible show wpAny _ _ (call (Value.ref 245) _) _ _ _); (refine top_order_c (R.le (by decide)) (G.fr F) (H.up F.keep) (by assumption) ?_; intro h tk t r u hr; subst hr; replace F := Fr.up F u; replace N := News.up N u; clear u))
   | walk_at "mS")
  all_goals exact kq _ _ _ _ F.keep rfl
theorem new_in {led : List (Addr × Obj)} {h' : Heap} {b : Addr} {o : Obj} (F : Fr g L h m) (N : News g L h led) (u : Up h h') (e : h.get? b = none) (e' : h'.get? b = some o) : News g L h' ((b, o) :: led) :=
  News.cons (News.up N u) e' (fun q => by obtain ⟨o, es, ep, k, r⟩ := F.ns; rw [← q, e] at k; cases k) (none_up F.keep e)
theorem quotient_c (R : Rm 1 A) (G : Gd w p loose mg mb h)
    (kq : ∀ h' tk' t r1 r2 t1 t2, Up h h' → r1 = (if b > 0 then x else -x) → r2 = (if b > 0 then b else -b) → h.get? t = none → h'.get? t = some (tupOf [.int r1 t1, .int r2 t2]) → Q (.ref t) ⟨h', gs, dr, tk', os⟩) :
    wpAny (model prog w) A (call (.ref 548) [.int x tx, .int b tb]) Q E ⟨h, gs, dr, tk, os⟩ := by
  refine call_fn (n := 0) (binds := [(Str.ofString "up", .int x tx), (Str.ofString "down", .int b tb)]) R G (by k_is) (by k_is) (by first | exact BindsTo.of_eq (by rfl) | exact binds_K G.x rfl (by k_is) rfl rfl rfl) (by rfl) (fun A L h tk R F N => ?_)
  repeat (first
   | walk_at "mS")
  all_goals refine kq _ _ _ _ _ _ _ F.keep ?_ ?_ (N _ (.head _)).2.2 (N _ (.head _)).1
  all_goals simp [*]
theorem topOrd_r (zs : List Int) : 0 ≤ topOrd zs ∧ topOrd zs ≤ 3 := by unfold topOrd; (repeat' split) <;> omega
theorem set_glue_c (R : Rm 3 A) (G : Gd w p loose mg mb h) (T : TotAt w.params h xa dx ls lk nat st sk) (h4 : st.length = 4) (h5 : sk.length = 4) (hi : -(2 ^ 29) < i ∧ i < 2 ^ 29) (bs : ∀ k, -(2 ^ 29) < st.getD k 0 ∧ st.getD k 0 < 2 ^ 29) (bk : ∀ k, -(2 ^ 29) < sk.getD k 0 ∧ sk.getD k 0 < 2 ^ 29)
    (kq : ∀ h' tk' t t1 t2 rt t3 t4 rp t5 t6 r1 r2 r3 r4 r5 r6, h'.get? t = some (tupOf [.int r1 t1, .int r2 t2, .ref rt, .ref rp]) → h'.get? rt = some (tupOf [.int r3 t3, .int r4 t4]) → h'.get? rp = some (tupOf [.int r5 t5, .int r6 t6]) → Up h h' → SG.mk r1 r2 r3 r4 r5 r6 = setF st sk i → h.get? t = none → h.get? rt = none → h.get? rp = none → Q (.ref t) ⟨h', gs, dr, tk', os⟩) :
    wpAny (model prog w) A (call (.ref 555) [.ref xa, .int i ti]) Q E ⟨h, gs, dr, tk, os⟩ := by
  refine call_fn (n := 2) (binds := [(Str.ofString "totals", .ref xa), (Str.ofString "excess", .int i ti)]) R G (by k_is) (by k_is) (by first | exact BindsTo.of_eq (by rfl) | exact binds_K G.x rfl (by k_is) rfl rfl rfl) (by rfl) (fun A L h tk R F N => ?_)
  have H1 := T.s1
  have H2 := T.s2
  have r1 := topOrd_r st
  have r2 := topOrd_r sk
  have b1 := bs (topOrd st).toNat
  have b2 := bk (topOrd sk).toNat
  have T0 := T
  obtain ⟨o, o1, o2, T⟩ := T
  obtain ⟨t, I⟩ := T.inst
  repeat (first
   | ((with_reducible show wpAny _ _ (eval (Expr.Call (Expr.Attribute _ (Str.ofString "stretch_top") _) _ _ _) _) _ _ _); (refine e_meth0 (mk_stretch_top _) ?_))
   | ((with_reducible show wpAny _ _ (eval (Expr.Call (Expr.Attribute _ (Str.ofString "shrink_top") _) _ _ _) _) _ _ _); (refine e_meth0 (mk_shrink_top _) ?_))
   | ((with_reducible show wpAny _ _ (getMethod _ (Str.ofString "stretch_top") _) _ _ _); (refine g_meth (pg_of (ca_Totals _)) (me_stretch_top _) (mf_stretch_top _) (G.x.keeps F.keep) (Inst.up I F.keep) (by rfl) ⟨rfl, ?_⟩))
   | ((with_reducible show wpAny _ _ (getMethod _ (Str.ofString "shrink_top") _) _ _ _); (refine g_meth (pg_of (ca_Totals _)) (me_shrink_top _) (mf_shrink_top _) (G.x.keeps F.keep) (Inst.up I F.keep) (by rfl) ⟨rfl, ?_⟩))
   | ((with_reducible show wpAny _ _ (call (Value.ref 280) _) _ _ _); (refine stretch_top_c (R.le (by decide)) (G.fr F) (T0.up F.keep) h4 ?_; intro h tk t r u hr; subst hr; replace F := Fr.up F u; replace N := News.up N u; clear u))
   | ((with_reducible show wpAny _ _ (call (Value.ref 287) _) _ _ _); (refine shrink_top_c (R.le (by decide)) (G.fr F) (T0.up F.keep) h5 ?_; intro h tk t r u hr; subst hr; replace F := Fr.up F u; replace N := News.up N u; clear u))
   | ((with_reducible show wpAny _ _ (subscriptTail _ _ (Value.ref ls) _) _ _ _); (refine i_lst (H1.up F.keep) r1.1 (by omega) (by omega) ?_; intro t))
   | ((with_reducible show wpAny _ _ (subscriptTail _ _ (Value.ref lk) _) _ _ _); (refine i_lst (H2.up F.keep) r2.1 (by omega) (by omega) ?_; intro t))
   | ((with_reducible show wpAny _ _ (subscriptTail _ _ (Value.ref _) (Value.int 0 _)) _ _ _); (refine i_tupA (N _ (.head _)).1 (by decide) (by simp) (by simp) (by rfl) ?_))
   | ((with_reducible show wpAny _ _ (getAttr _ (Str.ofString "stretch") _) _ _ _); refine g_own (clsOk_ofA (ca_Totals _) (fa_Totals_stretch _)) (G.x.keeps F.keep) (Inst.up I F.keep) (by rfl) ?_)
   | ((with_reducible show wpAny _ _ (getAttr _ (Str.ofString "shrink") _) _ _ _); refine g_own (clsOk_ofA (ca_Totals _) (fa_Totals_shrink _)) (G.x.keeps F.keep) (Inst.up I F.keep) (by rfl) ?_)
   | ((with_reducible show wpAny _ _ (eval (Expr.Name _ _) _) _ _ _); first | ((with_reducible refine n_NATURAL F G ?_ ?hka ?hkb); (case hka => rfl); (case hkb => rfl)) | ((with_reducible refine n_NORMAL F G ?_ ?hka ?hkb); (case hka => rfl); (case hkb => rfl)) | ((with_reducible refine n_FINE F G ?_ ?hka ?hkb); (case hka => rfl); (case hkb => rfl)) | ((with_reducible refine n_LOOSE F G ?_ ?hka ?hkb); (case hka => rfl); (case hkb => rfl)) | ((with_reducible refine n_TIGHT F G ?_ ?hka ?hkb); (case hka => rfl); (case hkb => rfl)) | ((with_reducible refine n_OVERFULL F G ?_ ?hka ?hkb); (case hka => rfl); (case hkb => rfl)) | ((with_reducible refine n_STRETCHED F G ?_ ?hka ?hkb); (case hka => rfl); (case hkb => rfl)) | ((with_reducible refine n_SHRUNK F G ?_ ?hka ?hkb); (case hka => rfl); (case hkb => rfl)))
   | ((with_reducible show wpAny _ _ (eval (Expr.Call (Expr.Name (Str.ofString "badness") _) _ _ _) _) _ _ _); refine e_call2 (kp_badness _) (n_badness F G ⟨rfl, ?_⟩ (by rfl) (by rfl)))
   | ((with_reducible show wpAny _ _ (call (Value.ref 152) _) _ _ _); (refine badness_c (R.le (by decide)) (G.fr F) (by omega) (by omega) (by omega) (by omega) ?_; intro h tk t r u hr; subst hr; replace F := Fr.up F u; replace N := News.up N u; clear u))
   | ((with_reducible show wpAny _ _ (eval (Expr.Call (Expr.Name (Str.ofString "abs") _) _ _ _) _) _ _ _); refine e_bcall1 (n_abs F G ⟨rfl, ?_⟩ (by rfl) (by rfl)))
   | ((with_reducible show wpAny _ _ (call (Value.builtin "abs") _) _ _ _); (with_reducible refine k_abs ?_; intro t tk))
   | ((with_reducible show wpAny _ _ (eval (Expr.Call (Expr.Name (Str.ofString "quotient") _) _ _ _) _) _ _ _); refine e_call2 (kp_quotient _) (n_quotient F G ⟨rfl, ?_⟩ (by rfl) (by rfl)))
   | ((with_reducible show wpAny _ _ (call (Value.ref 548) _) _ _ _); (refine quotient_c (R.le (by decide)) (G.fr F) ?_; intro h tk qt q1 q2 qt1 qt2 u e1 e2 qn qa; replace N := new_in F N u qn qa; replace F := Fr.up F u; clear u))
   | walk_at "mS")
  all_goals refine kq _ _ _ _ _ _ _ _ _ _ _ _ _ _ _ _ _ (N _ (.head _)).1 (by first | exact (N _ (.tail _ (.head _))).1 | exact (N _ (.tail _ (.tail _ (.head _)))).1 | exact (N _ (.tail _ (.tail _ (.tail _ (.head _))))).1) (by first | exact (N _ (.tail _ (.head _))).1 | exact (N _ (.tail _ (.tail _ (.head _)))).1 | exact (N _ (.tail _ (.tail _ (.tail _ (.head _))))).1) F.keep ?_ (N _ (.head _)).2.2 (by first | exact (N _ (.tail _ (.head _))).2.2 | exact (N _ (.tail _ (.tail _ (.head _)))).2.2 | exact (N _ (.tail _ (.tail _ (.tail _ (.head _))))).2.2) (by first | exact (N _ (.tail _ (.head _))).2.2 | exact (N _ (.tail _ (.tail _ (.head _)))).2.2 | exact (N _ (.tail _ (.tail _ (.tail _ (.head _))))).2.2)
  all_goals clear kq H1 H2 r1 r2 b1 b2 bs bk
  all_goals (simp only [setF]; (repeat' split) <;> first | rfl | omega | (simp [*]; done) | (simp_all; done) | (simp_all; omega))
theorem goal_size_c (R : Rm 3 A) (G : Gd w p loose mg mb h) (hm : i = 0 ∨ i = 1) (hb : -1073741823 ≤ b ∧ b ≤ 1073741823)
    (kq : ∀ h' tk' t r, Up h h' → r = (if i = 0 then b else x + b) → Q (.int r t) ⟨h', gs, dr, tk', os⟩) :
    wpAny (model prog w) A (call (.ref 590) [.int x tx, .int i ti, .int b tb]) Q E ⟨h, gs, dr, tk, os⟩ := by
  refine call_fn (n := 2) (binds := [(Str.ofString "own", .int x tx), (Str.ofString "mode", .int i ti), (Str.ofString "amount", .int b tb)]) R G (by k_is) (by k_is) (by first | exact BindsTo.of_eq (by rfl) | exact binds_K G.x rfl (by k_is) rfl rfl rfl) (by rfl) (fun A L h tk R F N => ?_)
  repeat (first
   | ((with_reducible show wpAny _ _ (eval (Expr.Name _ _) _) _ _ _); first | ((with_reducible refine n_EXACTLY F G ?_ ?hka ?hkb); (case hka => rfl); (case hkb => rfl)) | ((with_reducible refine n_SPREAD F G ?_ ?hka ?hkb); (case hka => rfl); (case hkb => rfl)))
   | ((with_reducible show wpAny _ _ (eval (Expr.Call (Expr.Name (Str.ofString "check_dimen") _) _ _ _) _) _ _ _); refine e_call1 (kp_check_dimen _) (n_check_dimen F G ⟨rfl, ?_⟩ (by rfl) (by rfl)))
   | ((with_reducible show wpAny _ _ (call (Value.ref 110) _) _ _ _); (refine check_dimen_c (R.le (by decide)) (G.fr F) (by omega) ?_; intro h tk u; replace F := Fr.up F u; replace N := News.up N u; clear u))
   | walk_at "mS")
  all_goals first | (refine kq _ _ _ _ F.keep ?_; simp [*]; done) | omega
end
end Mine
/-! Fn4 -/
namespace Mine
noncomputable def NS (P : Params) (h : Heap) (ps : List (Addr × Nd)) : Prop := ∀ q ∈ ps, NodeAt P h q.1 q.2
noncomputable def vals (ps : List (Addr × Nd)) : List Value := ps.map fun q => .ref q.1
noncomputable def Nd.ok : Nd → Prop
  | .skip _ _ so _ ko _ _ => (0 ≤ so ∧ so ≤ 3) ∧ (0 ≤ ko ∧ ko ≤ 3) | _ => True
structure NF where
  nat : Int
  st : List Int
  sk : List Int
  W : Int
  D : Int
noncomputable def natStep (s : NF) (n : Nd) : NF :=
  let W := if n.acr > s.W then n.acr else s.W
  match n with
  | .skip gw st so sk ko _ _ => ⟨s.nat + s.D + gw, s.st.set so.toNat (s.st.getD so.toNat 0 + st), s.sk.set ko.toNat (s.sk.getD ko.toNat 0 + sk), W, 0⟩
  | .kern w => ⟨s.nat + (s.D + w), s.st, s.sk, W, 0⟩
  | .pen _ | .mark => ⟨s.nat, s.st, s.sk, W, s.D⟩
  | n => ⟨s.nat + (s.D + n.hgt), s.st, s.sk, W, n.dep⟩
noncomputable def nf0 : NF := ⟨0, [0, 0, 0, 0], [0, 0, 0, 0], 0, 0⟩
noncomputable def natF (ps : List (Addr × Nd)) : NF := ps.foldl (fun s q => natStep s q.2) nf0
theorem natF_take {ps : List (Addr × Nd)} {i : Nat} {q : Addr × Nd} (e : ps[i]? = some q) : natF (ps.take (i + 1)) = natStep (natF (ps.take i)) q.2 := by
  unfold natF
  rw [List.take_add_one, e, List.foldl_append]
  rfl
theorem vals_get {ps : List (Addr × Nd)} {i : Nat} {v : Value} (e : (vals ps)[i]? = some v) : ∃ a n, ps[i]? = some (a, n) ∧ v = .ref a := by
  unfold vals at e
  rw [List.getElem?_map] at e
  cases q : ps[i]? with
  | none => rw [q] at e; cases e
  | some x => rw [q] at e; cases e; exact ⟨x.1, x.2, rfl, rfl⟩
theorem ns_get {P : Params} {h : Heap} {ps : List (Addr × Nd)} {i : Nat} {a : Addr} {n : Nd} (H : NS P h ps) (e : ps[i]? = some (a, n)) : NodeAt P h a n := H _ (List.mem_of_getElem? e)
section
variable {prog : Program} {w : World} {A : Around} {E : Value → Shared → Prop} {h g : Heap} {gs : Array GenState} {dr : Drawn} {tk : Nat} {os : OsState} {L a : Addr} {m : Str → Option Value}
  {cn : Str} {cs : Scope} {ccd : Value} {cl : List (Str × Addr)} {p : Program} {loose : List Str} {mg mb : Str → Option Value} {Q : Value → Shared → Prop} {pos : Pos}

variable {i j x b wd hh dd : Int} {ti tj tx tb tl th td : Tok} {n : Nd} {xa dx ls lk : Addr} {nat : Int} {st sk zs : List Int} {l : Addr} {ps : List (Addr × Nd)}
theorem NS.up {P : Params} {h' : Heap} (H : NS P h ps) (u : Up h h') : NS P h' ps := fun q hq => (H q hq).up u
theorem check_column_c (R : Rm 1 A) (G : Gd w p loose mg mb g) (hl : g.IsList l (vals ps).toArray) (H : NS w.params g ps)
    (kq : ∀ h' tk', Up g h' → Q .none ⟨h', gs, dr, tk', os⟩) : wpAny (model prog w) A (call (.ref 534) [.ref l]) Q E ⟨g, gs, dr, tk, os⟩ := by
  refine call_fn (n := 0) (binds := [(Str.ofString "items", .ref l)]) R G (by k_is) (by k_is) (by first | exact BindsTo.of_eq (by rfl) | exact binds_K G.x rfl (by k_is) rfl rfl rfl) (by rfl) (fun A L h tk R F N => ?_)
  refine x_for g ?_
  repeat (first
   | walk_at "mS")
  refine for_list (fun i m' led' => led' = []) R.hd hl F N rfl (fun i m' led' z => by rw [z]) ?_ ?_
  · rintro i v m₁ led₁ h tk own hv rfl hown F N
    obtain ⟨a, n, e, rfl⟩ := vals_get hv
    have H := ns_get H e
    have hr := nd_kr H
    repeat (first
   | ((with_reducible show wpAny _ _ (getAttr _ (Str.ofString "kind") _) _ _ _); (refine nd_kind (G.x.keeps F.keep) (NodeAt.up H F.keep) ?_; intro t))
   | ((with_reducible show wpAny _ _ (eval (Expr.Name _ _) _) _ _ _); first | ((with_reducible refine n_CHAR F G ?_ ?hka ?hkb); (case hka => rfl); (case hkb => rfl)) | ((with_reducible refine n_LIGATURE F G ?_ ?hka ?hkb); (case hka => rfl); (case hkb => rfl)) | ((with_reducible refine n_DISC F G ?_ ?hka ?hkb); (case hka => rfl); (case hkb => rfl)) | ((with_reducible refine n_MATH F G ?_ ?hka ?hkb); (case hka => rfl); (case hkb => rfl)))
   | walk_at "mS")
    all_goals exact ⟨_, _, _, _, rfl, F, N, rfl⟩
  · rintro m' led' h tk rfl F N
    show wpAny _ _ _ _ _ _
    repeat (first
   | walk_at "mS")
    all_goals exact kq _ _ F.keep
noncomputable abbrev TN (xa dx ls lk : Addr) (o o1 o2 : Obj) : List (Addr × Obj) := [(xa, instObj 297 dx), (dx, o), (ls, o1), (lk, o2)]
theorem tot_of {led : List (Addr × Obj)} {o o1 o2 : Obj} (N : News g L h (TN xa dx ls lk o o1 o2 ++ led)) (T : TotO w.params o o1 o2 ls lk nat st sk) : TotAt w.params h xa dx ls lk nat st sk :=
  ⟨o, o1, o2, T, (N _ (.head _)).1, (N _ (.tail _ (.head _))).1, (N _ (.tail _ (.tail _ (.head _)))).1, (N _ (.tail _ (.tail _ (.tail _ (.head _))))).1⟩
theorem tot_inst {led : List (Addr × Obj)} {o o1 o2 : Obj} (N : News g L h (TN xa dx ls lk o o1 o2 ++ led)) (T : TotO w.params o o1 o2 ls lk nat st sk) : ∃ t, Inst w.params h xa 297 [K_ "natural" (.int nat t), K_ "stretch" (.ref ls), K_ "shrink" (.ref lk)] :=
  TotH.inst (o := o) (o1 := o1) (o2 := o2) ⟨T, (N _ (.head _)).1, (N _ (.tail _ (.head _))).1, (N _ (.tail _ (.tail _ (.head _)))).1, (N _ (.tail _ (.tail _ (.tail _ (.head _))))).1⟩
theorem tot_back {led : List (Addr × Obj)} {o o1 o2 : Obj} {h' : Heap} {nat' : Int} {st' sk' : List Int} (F : Fr g L h m) (N : News g L h (TN xa dx ls lk o o1 o2 ++ led)) (hown : ∀ q ∈ led, q.1 ∉ [xa, dx, ls, lk]) (e : Ext [dx, ls, lk] h h') (T : TotAt w.params h' xa dx ls lk nat' st' sk') :
    Fr g L h' m ∧ ∃ o o1 o2, News g L h' (TN xa dx ls lk o o1 o2 ++ led) ∧ TotO w.params o o1 o2 ls lk nat' st' sk' := by
  obtain ⟨o', o1', o2', T⟩ := T
  have n0 := N _ (.head _)
  have n1 := N _ (.tail _ (.head _))
  have n2 := N _ (.tail _ (.tail _ (.head _)))
  have n3 := N _ (.tail _ (.tail _ (.tail _ (.head _))))
  refine ⟨Fr.ext F e fun b hb => ?_, o', o1', o2', fun q hq => ?_, T.toTotO⟩
  · simp at hb
    rcases hb with rfl | rfl | rfl
    · exact n1.2
    · exact n2.2
    · exact n3.2
  · rcases List.mem_append.mp hq with hq | hq
    · simp only [TN, List.mem_cons, List.not_mem_nil, or_false] at hq
      rcases hq with rfl | rfl | rfl | rfl
      · exact ⟨T.hx, n0.2⟩
      · exact ⟨T.hd, n1.2⟩
      · exact ⟨T.h1, n2.2⟩
      · exact ⟨T.h2, n3.2⟩
    · have z := N q (List.mem_append_right _ hq)
      exact ⟨e _ _ z.1 fun hm => hown q hq (.tail _ hm), z.2⟩
theorem new_at {led : List (Addr × Obj)} {h' : Heap} {b : Addr} {o : Obj} (F : Fr g L h m) (N : News g L h' led) (e : h.get? b = none) (e' : h'.get? b = some o) : News g L h' ((b, o) :: led) :=
  News.cons N e' (fun q => by obtain ⟨o, es, ep, k, r⟩ := F.ns; rw [← q, e] at k; cases k) (none_up F.keep e)
theorem tot_new {led : List (Addr × Obj)} {h' : Heap} {o : Obj} {sl sh : Addr} {t0 a0 a1 a2 a3 b0 b1 b2 b3 : Tok} (F : Fr g L h m) (N : News g L h led) (I : NewI w.params h h' xa dx 297 o [K_ "natural" (.int 0 t0), K_ "stretch" (.ref sl), K_ "shrink" (.ref sh)])
    (es : h'.get? sl = some (lstOf [.int 0 a0, .int 0 a1, .int 0 a2, .int 0 a3] 0)) (ek : h'.get? sh = some (lstOf [.int 0 b0, .int 0 b1, .int 0 b2, .int 0 b3] 0)) (ns : h.get? sl = none) (nk : h.get? sh = none) (n1 : sl ≠ xa) (n2 : sl ≠ dx) (n3 : sh ≠ xa) (n4 : sh ≠ dx) (n5 : sl ≠ sh) :
    ∃ o1 o2, News g L h' (TN xa dx sl sh o o1 o2 ++ led) ∧ TotO w.params o o1 o2 sl sh nf0.nat nf0.st nf0.sk ∧ Apart xa dx sl sh :=
  ⟨_, _, new_at F (new_at F (new_at F (new_at F (News.up N I.up) nk ek) ns es) I.nd I.dat) I.nx I.at_,
    ⟨⟨t0, I.isd⟩, ⟨[(0, a0), (0, a1), (0, a2), (0, a3)], rfl, rfl, _, rfl⟩, ⟨[(0, b0), (0, b1), (0, b2), (0, b3)], rfl, rfl, _, rfl⟩⟩, ⟨I.ne, Ne.symm n1, Ne.symm n3, Ne.symm n2, Ne.symm n4, n5⟩⟩
theorem natStep_box {s : NF} (H : NodeAt w.params h a n) (e : n.kind = 2 ∨ n.kind = 3 ∨ n.kind = 4) : natStep s n = ⟨s.nat + (s.D + n.hgt), s.st, s.sk, if n.acr > s.W then n.acr else s.W, n.dep⟩ := by
  cases n with
  | box => rfl
  | rule => rfl
  | _ => simp [Nd.kind] at e
theorem natStep_small {s : NF} (H : NodeAt w.params h a n) (e2 : n.kind ≠ 2) (e3 : n.kind ≠ 3) (e4 : n.kind ≠ 4) (e5 : n.kind ≠ 5) (e6 : n.kind ≠ 6) : natStep s n = ⟨s.nat, s.st, s.sk, if n.acr > s.W then n.acr else s.W, s.D⟩ := by
  rcases is_small H e2 e3 e4 e5 e6 with ⟨v, rfl⟩ | rfl <;> rfl
theorem natStep_len {s : NF} (e : s.st.length = 4 ∧ s.sk.length = 4) : (natStep s n).st.length = 4 ∧ (natStep s n).sk.length = 4 := by
  cases n <;> simp [natStep, e]
theorem natF_len (ps : List (Addr × Nd)) : (natF ps).st.length = 4 ∧ (natF ps).sk.length = 4 := by
  have : ∀ s : NF, s.st.length = 4 ∧ s.sk.length = 4 → (ps.foldl (fun s q => natStep s q.2) s).st.length = 4 ∧ (ps.foldl (fun s q => natStep s q.2) s).sk.length = 4 := by
    induction ps with
    | nil => intro s e; exact e
    | cons q ps ih => intro s e; exact ih _ (natStep_len e)
  exact this _ ⟨rfl, rfl⟩
theorem natural_column_c (R : Rm 6 A) (G : Gd w p loose mg mb g) (hl : g.IsList l (vals ps).toArray) (HN : NS w.params g ps) (ok : ∀ q ∈ ps, q.2.ok)
    (kq : ∀ h' tk' t xa dx ls lk t1 t2, Up g h' → g.get? t = none → g.get? xa = none → g.get? dx = none → g.get? ls = none → g.get? lk = none → Apart xa dx ls lk → h'.get? t = some (tupOf [.ref xa, .int (natF ps).W t1, .int (natF ps).D t2]) →
      TotAt w.params h' xa dx ls lk (natF ps).nat (natF ps).st (natF ps).sk → Q (.ref t) ⟨h', gs, dr, tk', os⟩) :
    wpAny (model prog w) A (call (.ref 541) [.ref l]) Q E ⟨g, gs, dr, tk, os⟩ := by
  refine call_fn (n := 5) (binds := [(Str.ofString "items", .ref l)]) R G (by k_is) (by k_is) (by first | exact BindsTo.of_eq (by rfl) | exact binds_K G.x rfl (by k_is) rfl rfl rfl) (by rfl) (fun A L h tk R F N => ?_)
  have HN' := HN
  repeat (first
   | ((with_reducible show wpAny _ _ (eval (Expr.Call (Expr.Name (Str.ofString "Totals") _) _ _ _) _) _ _ _); (refine e_call0 (kp_Totals _) (n_Totals F G ⟨rfl, ?_⟩ (by rfl) (by rfl))))
   | ((with_reducible show wpAny _ _ (call (Value.ref 297) _) _ _ _); (refine mk_Totals_c (R.le (by decide)) (G.fr F) ?_; intro h tk xa dx o ls lk t0 a0 a1 a2 a3 b0 b1 b2 b3 I es ek ns nk n1 n2 n3 n4 n5; obtain ⟨o1, o2, N', TO, ap⟩ := tot_new F N I es ek ns nk n1 n2 n3 n4 n5; clear N; replace N := N'; clear N'; replace F := Fr.up F I.up))
   | ((with_reducible show wpAny _ _ (assign (Expr.Tuple _ _ _) _ (Value.ref _)) _ _ _); (refine as_tup R.hd (N _ (.head _)).1 (by rfl) (by rfl) (fun h u => ?_); replace F := Fr.up F u; replace N := News.up N u; clear u))
   | ((with_reducible show wpAny _ _ (eval (Expr.Call (Expr.Name (Str.ofString "check_column") _) _ _ _) _) _ _ _); refine e_call1 (kp_check_column _) (n_check_column F G ⟨rfl, ?_⟩ (by rfl) (by rfl)))
   | ((with_reducible show wpAny _ _ (call (Value.ref 534) _) _ _ _); (refine check_column_c (R.le (by decide)) (G.fr F) (hl.at fun o e => F.keep _ _ e) (HN.up F.keep) ?_; intro h tk u; replace F := Fr.up F u; replace N := News.up N u; clear u))
   | walk_at "mS")
  replace N : News g L h (TN xa dx ls lk o o1 o2) := News.sub N fun q hq => .tail _ (List.mem_append_left _ hq)
  refine x_for g ?_
  repeat (first
   | walk_at "mS")
  refine for_list (fun i m' led' => ∃ o o1 o2 t1 t2, led' = TN xa dx ls lk o o1 o2 ∧ m' (Str.ofString "items") = some (.ref l) ∧ m' (Str.ofString "totals") = some (.ref xa) ∧ m' (Str.ofString "width") = some (.int (natF (ps.take i)).W t1) ∧ m' (Str.ofString "depth") = some (.int (natF (ps.take i)).D t2) ∧ TotO w.params o o1 o2 ls lk (natF (ps.take i)).nat (natF (ps.take i)).st (natF (ps.take i)).sk) R.hd hl F N ⟨_, _, _, _, _, rfl, (by rfl : lo _ _ _ = _), (by rfl : lo _ _ _ = _), (by rfl : lo _ _ _ = _), (by rfl : lo _ _ _ = _), TO⟩ (fun i m' led' z => by obtain ⟨o, o1, o2, t1, t2, rfl, _⟩ := z; rfl) ?_ ?_
  · clear TO N F hlt I es ek ns nk n1 n2 n3 n4 n5
    rintro i v m₁ led₁ h tk own hv ⟨o, o1, o2, t1, t2, rfl, m1, m2, m3, m4, TO⟩ hown F N
    obtain ⟨a, n, e, rfl⟩ := vals_get hv
    have H := ns_get HN e
    have hr := nd_kr H
    have es := natF_take e
    have s4 := natF_len (ps.take i)
    replace hown : ∀ q ∈ own, q.1 ∉ [xa, dx, ls, lk] := hown
    generalize hS : natF (ps.take i) = S at *
    repeat (first
   | ((with_reducible show wpAny _ _ (eval (Expr.Call (Expr.Attribute _ (Str.ofString "widen") _) _ _ _) _) _ _ _); (refine e_meth1 (mk_widen _) ?_))
   | ((with_reducible show wpAny _ _ (eval (Expr.Call (Expr.Attribute _ (Str.ofString "add") _) _ _ _) _) _ _ _); (refine e_meth1 (mk_add _) ?_))
   | ((with_reducible show wpAny _ _ (getMethod _ (Str.ofString "widen") _) _ _ _); (obtain ⟨tn, It⟩ := tot_inst N TO; refine g_meth (pg_of (ca_Totals _)) (me_widen _) (mf_widen _) (G.x.keeps F.keep) It (by rfl) ⟨rfl, ?_⟩; clear It tn))
   | ((with_reducible show wpAny _ _ (getMethod _ (Str.ofString "add") _) _ _ _); (obtain ⟨tn, It⟩ := tot_inst N TO; refine g_meth (pg_of (ca_Totals _)) (me_add _) (mf_add _) (G.x.keeps F.keep) It (by rfl) ⟨rfl, ?_⟩; clear It tn))
   | ((with_reducible show wpAny _ _ (call (Value.ref 273) _) _ _ _); (refine tot_widen_c (R.le (by decide)) (G.fr F) g G (tot_of N TO) ap (N _ (.tail _ (.head _))).2.2 ?_; intro h tk e T; obtain ⟨F', o, o1, o2, N', TO'⟩ := tot_back F N hown e T; clear F N TO T; replace F := F'; replace N := N'; have TO := TO'; clear F' N' TO'))
   | ((with_reducible show wpAny _ _ (call (Value.ref 266) _) _ _ _); (refine tot_add_c (R.le (by decide)) (G.fr F) g G (tot_of N TO) ap (N _ (.tail _ (.head _))).2.2 (N _ (.tail _ (.tail _ (.head _)))).2.2 (N _ (.tail _ (.tail _ (.tail _ (.head _))))).2.2 Ig F.keep s4.1 s4.2 hok.1 hok.2 ?_; intro h tk e T; obtain ⟨F', o, o1, o2, N', TO'⟩ := tot_back F N hown e T; clear F N TO T; replace F := F'; replace N := N'; have TO := TO'; clear F' N' TO'))
   | ((with_reducible show wpAny _ _ (call (Value.ref 493) _) _ _ _); (refine height_of_c (R.le (by decide)) (G.fr F) (NodeAt.up H F.keep) (sized_of H (by omega) (by omega)) ?_; intro h tk t u; replace F := Fr.up F u; replace N := News.up N u; clear u))
   | ((with_reducible show wpAny _ _ (call (Value.ref 498) _) _ _ _); (refine depth_of_c (R.le (by decide)) (G.fr F) (NodeAt.up H F.keep) (sized_of H (by omega) (by omega)) ?_; intro h tk t u; replace F := Fr.up F u; replace N := News.up N u; clear u))
   | ((with_reducible show wpAny _ _ (getAttr _ (Str.ofString "kind") _) _ _ _); (refine nd_kind (G.x.keeps F.keep) (NodeAt.up H F.keep) ?_; intro t))
   | ((with_reducible show wpAny _ _ (eval (Expr.Name _ _) _) _ _ _); first | ((with_reducible refine n_GLUE F G ?_ ?hka ?hkb); (case hka => rfl); (case hkb => rfl)) | ((with_reducible refine n_KERN F G ?_ ?hka ?hkb); (case hka => rfl); (case hkb => rfl)) | ((with_reducible refine n_HBOX F G ?_ ?hka ?hkb); (case hka => rfl); (case hkb => rfl)) | ((with_reducible refine n_VBOX F G ?_ ?hka ?hkb); (case hka => rfl); (case hkb => rfl)) | ((with_reducible refine n_RULE F G ?_ ?hka ?hkb); (case hka => rfl); (case hkb => rfl)) | ((with_reducible refine n_UNSET F G ?_ ?hka ?hkb); (case hka => rfl); (case hkb => rfl)))
   | ((with_reducible show wpAny _ _ (eval (Expr.Call (Expr.Name (Str.ofString "across") _) _ _ _) _) _ _ _); refine e_call1 (kp_across _) (n_across F G ⟨rfl, ?_⟩ (by rfl) (by rfl)))
   | ((with_reducible show wpAny _ _ (call (Value.ref 527) _) _ _ _); (refine across_c (R.le (by decide)) (G.fr F) (NodeAt.up (by assumption) F.keep) ?_; intro h tk t u; replace F := Fr.up F u; replace N := News.up N u; clear u))
   | ((with_reducible show wpAny _ _ (eval (Expr.Call (Expr.Name (Str.ofString "max") _) _ _ _) _) _ _ _); refine e_bcall2 (n_max F G ⟨rfl, ?_⟩ (by rfl) (by rfl)))
   | ((with_reducible show wpAny _ _ (call (Value.builtin "max") _) _ _ _); (with_reducible refine k_max R.hd ?_; intro h tk t u; replace F := Fr.up F u; replace N := News.up N u; clear u))
   | ((with_reducible show wpAny _ _ (eval (Expr.Call (Expr.Name (Str.ofString "height_of") _) _ _ _) _) _ _ _); refine e_call1 (kp_height_of _) (n_height_of F G ⟨rfl, ?_⟩ (by rfl) (by rfl)))
   | ((with_reducible show wpAny _ _ (call (Value.ref 493) _) _ _ _); (refine height_of_c (R.le (by decide)) (G.fr F) (NodeAt.up (by assumption) F.keep) (by rfl) ?_; intro h tk t u; replace F := Fr.up F u; replace N := News.up N u; clear u))
   | ((with_reducible show wpAny _ _ (eval (Expr.Call (Expr.Name (Str.ofString "depth_of") _) _ _ _) _) _ _ _); refine e_call1 (kp_depth_of _) (n_depth_of F G ⟨rfl, ?_⟩ (by rfl) (by rfl)))
   | ((with_reducible show wpAny _ _ (call (Value.ref 498) _) _ _ _); (refine depth_of_c (R.le (by decide)) (G.fr F) (NodeAt.up (by assumption) F.keep) (by rfl) ?_; intro h tk t u; replace F := Fr.up F u; replace N := News.up N u; clear u))
   | walk_at "mS")
    all_goals first
      | (have e9 : n.kind = 6 := by omega)
        obtain ⟨gw, gst, so, gsk, ko, sort, lead, rfl⟩ := is_skip H e9
        obtain ⟨ga, tg, v, I, Ig, Il⟩ := H
        have hok := ok _ (List.mem_of_getElem? e)
        replace hok : (0 ≤ so ∧ so ≤ 3) ∧ (0 ≤ ko ∧ ko ≤ 3) := hok
        repeat (first
   | ((with_reducible show wpAny _ _ (eval (Expr.Call (Expr.Attribute _ (Str.ofString "widen") _) _ _ _) _) _ _ _); (refine e_meth1 (mk_widen _) ?_))
   | ((with_reducible show wpAny _ _ (eval (Expr.Call (Expr.Attribute _ (Str.ofString "add") _) _ _ _) _) _ _ _); (refine e_meth1 (mk_add _) ?_))
   | ((with_reducible show wpAny _ _ (getMethod _ (Str.ofString "widen") _) _ _ _); (obtain ⟨tn, It⟩ := tot_inst N TO; refine g_meth (pg_of (ca_Totals _)) (me_widen _) (mf_widen _) (G.x.keeps F.keep) It (by rfl) ⟨rfl, ?_⟩; clear It tn))
   | ((with_reducible show wpAny _ _ (getMethod _ (Str.ofString "add") _) _ _ _); (obtain ⟨tn, It⟩ := tot_inst N TO; refine g_meth (pg_of (ca_Totals _)) (me_add _) (mf_add _) (G.x.keeps F.keep) It (by rfl) ⟨rfl, ?_⟩; clear It tn))
   | ((with_reducible show wpAny _ _ (call (Value.ref 273) _) _ _ _); (refine tot_widen_c (R.le (by decide)) (G.fr F) g G (tot_of N TO) ap (N _ (.tail _ (.head _))).2.2 ?_; intro h tk e T; obtain ⟨F', o, o1, o2, N', TO'⟩ := tot_back F N hown e T; clear F N TO T; replace F := F'; replace N := N'; have TO := TO'; clear F' N' TO'))
   | ((with_reducible show wpAny _ _ (call (Value.ref 266) _) _ _ _); (refine tot_add_c (R.le (by decide)) (G.fr F) g G (tot_of N TO) ap (N _ (.tail _ (.head _))).2.2 (N _ (.tail _ (.tail _ (.head _)))).2.2 (N _ (.tail _ (.tail _ (.tail _ (.head _))))).2.2 Ig F.keep s4.1 s4.2 hok.1 hok.2 ?_; intro h tk e T; obtain ⟨F', o, o1, o2, N', TO'⟩ := tot_back F N hown e T; clear F N TO T; replace F := F'; replace N := N'; have TO := TO'; clear F' N' TO'))
   | ((with_reducible show wpAny _ _ (call (Value.ref 493) _) _ _ _); (refine height_of_c (R.le (by decide)) (G.fr F) (NodeAt.up H F.keep) (sized_of H (by omega) (by omega)) ?_; intro h tk t u; replace F := Fr.up F u; replace N := News.up N u; clear u))
   | ((with_reducible show wpAny _ _ (call (Value.ref 498) _) _ _ _); (refine depth_of_c (R.le (by decide)) (G.fr F) (NodeAt.up H F.keep) (sized_of H (by omega) (by omega)) ?_; intro h tk t u; replace F := Fr.up F u; replace N := News.up N u; clear u))
   | ((with_reducible show wpAny _ _ (getAttr _ (Str.ofString "glue") _) _ _ _); refine g_own (clsOk_ofA (ca_Skip _) (fa_Skip_glue _)) (G.x.keeps F.keep) (Inst.up I F.keep) (by rfl) ?_)
   | ((with_reducible show wpAny _ _ (eval (Expr.Name _ _) _) _ _ _); first | ((with_reducible refine n_GLUE F G ?_ ?hka ?hkb); (case hka => rfl); (case hkb => rfl)) | ((with_reducible refine n_KERN F G ?_ ?hka ?hkb); (case hka => rfl); (case hkb => rfl)) | ((with_reducible refine n_HBOX F G ?_ ?hka ?hkb); (case hka => rfl); (case hkb => rfl)) | ((with_reducible refine n_VBOX F G ?_ ?hka ?hkb); (case hka => rfl); (case hkb => rfl)) | ((with_reducible refine n_RULE F G ?_ ?hka ?hkb); (case hka => rfl); (case hkb => rfl)) | ((with_reducible refine n_UNSET F G ?_ ?hka ?hkb); (case hka => rfl); (case hkb => rfl)))
   | ((with_reducible show wpAny _ _ (eval (Expr.Call (Expr.Name (Str.ofString "across") _) _ _ _) _) _ _ _); refine e_call1 (kp_across _) (n_across F G ⟨rfl, ?_⟩ (by rfl) (by rfl)))
   | ((with_reducible show wpAny _ _ (call (Value.ref 527) _) _ _ _); (refine across_c (R.le (by decide)) (G.fr F) (NodeAt.up (by assumption) F.keep) ?_; intro h tk t u; replace F := Fr.up F u; replace N := News.up N u; clear u))
   | ((with_reducible show wpAny _ _ (eval (Expr.Call (Expr.Name (Str.ofString "max") _) _ _ _) _) _ _ _); refine e_bcall2 (n_max F G ⟨rfl, ?_⟩ (by rfl) (by rfl)))
   | ((with_reducible show wpAny _ _ (call (Value.builtin "max") _) _ _ _); (with_reducible refine k_max R.hd ?_; intro h tk t u; replace F := Fr.up F u; replace N := News.up N u; clear u))
   | ((with_reducible show wpAny _ _ (eval (Expr.Call (Expr.Name (Str.ofString "height_of") _) _ _ _) _) _ _ _); refine e_call1 (kp_height_of _) (n_height_of F G ⟨rfl, ?_⟩ (by rfl) (by rfl)))
   | ((with_reducible show wpAny _ _ (call (Value.ref 493) _) _ _ _); (refine height_of_c (R.le (by decide)) (G.fr F) (NodeAt.up (by assumption) F.keep) (by rfl) ?_; intro h tk t u; replace F := Fr.up F u; replace N := News.up N u; clear u))
   | ((with_reducible show wpAny _ _ (eval (Expr.Call (Expr.Name (Str.ofString "depth_of") _) _ _ _) _) _ _ _); refine e_call1 (kp_depth_of _) (n_depth_of F G ⟨rfl, ?_⟩ (by rfl) (by rfl)))
   | ((with_reducible show wpAny _ _ (call (Value.ref 498) _) _ _ _); (refine depth_of_c (R.le (by decide)) (G.fr F) (NodeAt.up (by assumption) F.keep) (by rfl) ?_; intro h tk t u; replace F := Fr.up F u; replace N := News.up N u; clear u))
   | walk_at "mS")
        exact ⟨_, _, _, _, rfl, F, N, _, _, _, _, _, rfl, m1, m2, (by rw [es]; rfl), (by rw [es]; rfl), (by rw [es]; exact TO)⟩
      | (have e9 : n.kind = 5 := by omega)
        obtain ⟨wd, rfl⟩ := is_kern H e9
        obtain ⟨t, tg, I⟩ := H
        repeat (first
   | ((with_reducible show wpAny _ _ (eval (Expr.Call (Expr.Attribute _ (Str.ofString "widen") _) _ _ _) _) _ _ _); (refine e_meth1 (mk_widen _) ?_))
   | ((with_reducible show wpAny _ _ (eval (Expr.Call (Expr.Attribute _ (Str.ofString "add") _) _ _ _) _) _ _ _); (refine e_meth1 (mk_add _) ?_))
   | ((with_reducible show wpAny _ _ (getMethod _ (Str.ofString "widen") _) _ _ _); (obtain ⟨tn, It⟩ := tot_inst N TO; refine g_meth (pg_of (ca_Totals _)) (me_widen _) (mf_widen _) (G.x.keeps F.keep) It (by rfl) ⟨rfl, ?_⟩; clear It tn))
   | ((with_reducible show wpAny _ _ (getMethod _ (Str.ofString "add") _) _ _ _); (obtain ⟨tn, It⟩ := tot_inst N TO; refine g_meth (pg_of (ca_Totals _)) (me_add _) (mf_add _) (G.x.keeps F.keep) It (by rfl) ⟨rfl, ?_⟩; clear It tn))
   | ((with_reducible show wpAny _ _ (call (Value.ref 273) _) _ _ _); (refine tot_widen_c (R.le (by decide)) (G.fr F) g G (tot_of N TO) ap (N _ (.tail _ (.head _))).2.2 ?_; intro h tk e T; obtain ⟨F', o, o1, o2, N', TO'⟩ := tot_back F N hown e T; clear F N TO T; replace F := F'; replace N := N'; have TO := TO'; clear F' N' TO'))
   | ((with_reducible show wpAny _ _ (call (Value.ref 266) _) _ _ _); (refine tot_add_c (R.le (by decide)) (G.fr F) g G (tot_of N TO) ap (N _ (.tail _ (.head _))).2.2 (N _ (.tail _ (.tail _ (.head _)))).2.2 (N _ (.tail _ (.tail _ (.tail _ (.head _))))).2.2 Ig F.keep s4.1 s4.2 hok.1 hok.2 ?_; intro h tk e T; obtain ⟨F', o, o1, o2, N', TO'⟩ := tot_back F N hown e T; clear F N TO T; replace F := F'; replace N := N'; have TO := TO'; clear F' N' TO'))
   | ((with_reducible show wpAny _ _ (call (Value.ref 493) _) _ _ _); (refine height_of_c (R.le (by decide)) (G.fr F) (NodeAt.up H F.keep) (sized_of H (by omega) (by omega)) ?_; intro h tk t u; replace F := Fr.up F u; replace N := News.up N u; clear u))
   | ((with_reducible show wpAny _ _ (call (Value.ref 498) _) _ _ _); (refine depth_of_c (R.le (by decide)) (G.fr F) (NodeAt.up H F.keep) (sized_of H (by omega) (by omega)) ?_; intro h tk t u; replace F := Fr.up F u; replace N := News.up N u; clear u))
   | ((with_reducible show wpAny _ _ (getAttr _ (Str.ofString "width") _) _ _ _); refine g_own (clsOk_ofA (ca_Kern _) (fa_Kern_width _)) (G.x.keeps F.keep) (Inst.up I F.keep) (by rfl) ?_)
   | ((with_reducible show wpAny _ _ (eval (Expr.Name _ _) _) _ _ _); first | ((with_reducible refine n_GLUE F G ?_ ?hka ?hkb); (case hka => rfl); (case hkb => rfl)) | ((with_reducible refine n_KERN F G ?_ ?hka ?hkb); (case hka => rfl); (case hkb => rfl)) | ((with_reducible refine n_HBOX F G ?_ ?hka ?hkb); (case hka => rfl); (case hkb => rfl)) | ((with_reducible refine n_VBOX F G ?_ ?hka ?hkb); (case hka => rfl); (case hkb => rfl)) | ((with_reducible refine n_RULE F G ?_ ?hka ?hkb); (case hka => rfl); (case hkb => rfl)) | ((with_reducible refine n_UNSET F G ?_ ?hka ?hkb); (case hka => rfl); (case hkb => rfl)))
   | ((with_reducible show wpAny _ _ (eval (Expr.Call (Expr.Name (Str.ofString "across") _) _ _ _) _) _ _ _); refine e_call1 (kp_across _) (n_across F G ⟨rfl, ?_⟩ (by rfl) (by rfl)))
   | ((with_reducible show wpAny _ _ (call (Value.ref 527) _) _ _ _); (refine across_c (R.le (by decide)) (G.fr F) (NodeAt.up (by assumption) F.keep) ?_; intro h tk t u; replace F := Fr.up F u; replace N := News.up N u; clear u))
   | ((with_reducible show wpAny _ _ (eval (Expr.Call (Expr.Name (Str.ofString "max") _) _ _ _) _) _ _ _); refine e_bcall2 (n_max F G ⟨rfl, ?_⟩ (by rfl) (by rfl)))
   | ((with_reducible show wpAny _ _ (call (Value.builtin "max") _) _ _ _); (with_reducible refine k_max R.hd ?_; intro h tk t u; replace F := Fr.up F u; replace N := News.up N u; clear u))
   | ((with_reducible show wpAny _ _ (eval (Expr.Call (Expr.Name (Str.ofString "height_of") _) _ _ _) _) _ _ _); refine e_call1 (kp_height_of _) (n_height_of F G ⟨rfl, ?_⟩ (by rfl) (by rfl)))
   | ((with_reducible show wpAny _ _ (call (Value.ref 493) _) _ _ _); (refine height_of_c (R.le (by decide)) (G.fr F) (NodeAt.up (by assumption) F.keep) (by rfl) ?_; intro h tk t u; replace F := Fr.up F u; replace N := News.up N u; clear u))
   | ((with_reducible show wpAny _ _ (eval (Expr.Call (Expr.Name (Str.ofString "depth_of") _) _ _ _) _) _ _ _); refine e_call1 (kp_depth_of _) (n_depth_of F G ⟨rfl, ?_⟩ (by rfl) (by rfl)))
   | ((with_reducible show wpAny _ _ (call (Value.ref 498) _) _ _ _); (refine depth_of_c (R.le (by decide)) (G.fr F) (NodeAt.up (by assumption) F.keep) (by rfl) ?_; intro h tk t u; replace F := Fr.up F u; replace N := News.up N u; clear u))
   | walk_at "mS")
        exact ⟨_, _, _, _, rfl, F, N, _, _, _, _, _, rfl, m1, m2, (by rw [es]; rfl), (by rw [es]; rfl), (by rw [es]; exact TO)⟩
      | (have e9 : n.kind = 2 ∨ n.kind = 3 ∨ n.kind = 4 := by omega)
        rw [natStep_box H e9] at es
        exact ⟨_, _, _, _, rfl, F, N, _, _, _, _, _, rfl, m1, m2, (by rw [es]; rfl), (by rw [es]; rfl), (by rw [es]; exact TO)⟩
      | (have e9 : n.kind ≠ 2 ∧ n.kind ≠ 3 ∧ n.kind ≠ 4 ∧ n.kind ≠ 5 ∧ n.kind ≠ 6 := by refine ⟨?_, ?_, ?_, ?_, ?_⟩ <;> omega)
        rw [natStep_small H e9.1 e9.2.1 e9.2.2.1 e9.2.2.2.1 e9.2.2.2.2] at es
        exact ⟨_, _, _, _, rfl, F, N, _, _, _, _, _, rfl, m1, m2, (by rw [es]; rfl), (by rw [es]; exact m4), (by rw [es]; exact TO)⟩
  · rintro m' led' h tk ⟨o, o1, o2, t1, t2, rfl, m1, m2, m3, m4, TO⟩ F N
    show wpAny _ _ _ _ _ _
    have ep : ps.take (vals ps).length = ps := by simp [vals]
    rw [ep] at m3 m4 TO
    repeat (first
   | walk_at "mS")
    all_goals exact kq _ _ _ _ _ _ _ _ _ F.keep (N _ (.head _)).2.2 (N _ (.tail _ (.head _))).2.2 (N _ (.tail _ (.tail _ (.head _)))).2.2 (N _ (.tail _ (.tail _ (.tail _ (.head _))))).2.2 (N _ (.tail _ (.tail _ (.tail _ (.tail _ (.head _)))))).2.2 ap (N _ (.head _)).1 (tot_of (led := []) (fun q hq => N q (.tail _ (by rwa [List.append_nil] at hq))) TO)
end
end Mine
/-! Cmp -/
namespace Mine
open SeqAt
theorem all_tt (n : Nat) : ((List.range n).all fun _ => true) = true := List.all_eq_true.mpr fun _ _ => rfl
/-- a tree of tuples over whole numbers -/
inductive PT where
  | i (z : Int)
  | t (l : List PT)
inductive Rd (h : Heap) : Nat → Value → PT → Prop
  | i {n : Nat} {z : Int} {t : Tok} : Rd h n (.int z t) (.i z)
  | t {n : Nat} {a : Addr} {vs : List Value} {ds : List PT} : h.get? a = some (tupOf vs) → vs.length = ds.length → (∀ (j : Nat) (v : Value) (d : PT), vs[j]? = some v → ds[j]? = some d → Rd h n v d) → Rd h (n + 1) (.ref a) (.t ds)
section
variable {prog : Program} {w : World} {A : Around} {E : Value → Shared → Prop} {h g : Heap} {gs : Array GenState} {dr : Drawn} {tk : Nat} {os : OsState} {L a : Addr} {m : Str → Option Value}
  {cn : Str} {cs : Scope} {ccd : Value} {cl : List (Str × Addr)} {p : Program} {loose : List Str} {mg mb : Str → Option Value} {Q : Value → Shared → Prop} {pos : Pos}

variable {xa dx ls lk : Addr} {zs : List Int} {l b : Addr} {n : Nat} {v v' : Value} {d : PT}
theorem Rd.up {h' : Heap} (H : Rd h n v d) (u : Up h h') : Rd h' n v d := by
  induction H with
  | i => exact .i
  | t e hl _ ih => exact .t (u _ _ e) hl ih
theorem rd_eq (H : Rd h n v d) : ∀ {v' : Value} {A : Around}, Rd h n v' d → A.units + n < cLine → EqAt A ⟨h, gs, dr, tk, os⟩ v v' true := by
  induction H with
  | @i n z t =>
    rintro v' A H' hu
    cases H' with
    | @i _ _ t2 => have := EqAt.int_int (A := A) (s := ⟨h, gs, dr, tk, os⟩) z t z t2; simpa using this
  | @t n a vs ds e hl hr ih =>
    rintro v' A H' hu
    cases H' with
    | @t _ b vs' _ e' hl' hr' =>
      by_cases q : a = b
      · subst q; exact EqAt.same _
      · refine EqAt.of_refs q ?_
        have z := RcAt.tuples (A := A) (s := ⟨h, gs, dr, tk, os⟩) (items := vs.toArray) (items2 := vs'.toArray) (e := fun _ => true) ⟨_, e, rfl, 0, rfl⟩ ⟨_, e', rfl, 0, rfl⟩ (by omega) (fun j h1 h2 => by
          have h1' : j < vs.length := by simpa using h1
          have h2' : j < vs'.length := by simpa using h2
          have h3 : j < ds.length := by omega
          exact ih j _ _ (by simp [List.getElem?_eq_getElem h1']) (List.getElem?_eq_getElem h3) (hr' j _ _ (by simp [List.getElem?_eq_getElem h2']) (List.getElem?_eq_getElem h3)) (by show A.units + 1 + n < _; omega))
        have e2 : vs.length = vs'.length := by omega
        simpa [e2, all_tt] using z
theorem rd_ne {a b : Addr} (H : Rd h (n + 1) (.ref a) d) (H' : Rd h (n + 1) (.ref b) d) (hu : A.units + (n + 1) < cLine) (kq : Q (.bool false) ⟨h, gs, dr, tk, os⟩) :
    wpAny (model prog w) A (compareOp .NotEq (.ref a) (.ref b)) Q E ⟨h, gs, dr, tk, os⟩ := by
  cases H with
  | @t _ _ vs ds e hl hr =>
    cases H' with
    | @t _ _ vs' _ e' hl' hr' =>
      have z := RcNeAt.tuples (A := A) (s := ⟨h, gs, dr, tk, os⟩) (items := vs.toArray) (items2 := vs'.toArray) (e := fun _ => true) ⟨_, e, rfl, 0, rfl⟩ ⟨_, e', rfl, 0, rfl⟩ (by omega) (fun j h1 h2 => by
        have h1' : j < vs.length := by simpa using h1
        have h2' : j < vs'.length := by simpa using h2
        have h3 : j < ds.length := by omega
        exact rd_eq (hr j _ _ (by simp [List.getElem?_eq_getElem h1']) (List.getElem?_eq_getElem h3)) (hr' j _ _ (by simp [List.getElem?_eq_getElem h2']) (List.getElem?_eq_getElem h3)) (by show A.units + 1 + n < _; omega))
      have e2 : vs.length = vs'.length := by omega
      refine z prog w E Q ?_
      simpa [e2, all_tt] using kq
theorem ls_ne_len {a b : Addr} {vs vs' : List Value} (H : h.IsList a vs.toArray) (H' : h.IsList b vs'.toArray) (hn : vs.length ≠ vs'.length) (hu : A.units < cLine) (kq : Q (.bool true) ⟨h, gs, dr, tk, os⟩) :
    wpAny (model prog w) A (compareOp .NotEq (.ref a) (.ref b)) Q E ⟨h, gs, dr, tk, os⟩ :=
  RcNeAt.lists_lengths (A := A) (s := ⟨h, gs, dr, tk, os⟩) H H' (by simpa using hn) hu prog w E Q kq
theorem ls_eq_len {a b : Addr} {vs vs' : List Value} (H : h.IsList a vs.toArray) (H' : h.IsList b vs'.toArray) (hn : vs.length ≠ vs'.length) (hu : A.units < cLine) (kq : Q (.bool false) ⟨h, gs, dr, tk, os⟩) :
    wpAny (model prog w) A (compareOp .Eq (.ref a) (.ref b)) Q E ⟨h, gs, dr, tk, os⟩ :=
  RcAt.lists_lengths (A := A) (s := ⟨h, gs, dr, tk, os⟩) H H' (by simpa using hn) hu prog w E Q kq
theorem il_each {a b : Addr} {qs rs : List (Int × Tok)} (e : qs.map (·.1) = rs.map (·.1)) {j : Nat} (h1 : j < (qs.map iV).toArray.size) (h2 : j < (rs.map iV).toArray.size) : EqAt A ⟨h, gs, dr, tk, os⟩ (qs.map iV).toArray[j] (rs.map iV).toArray[j] true := by
  have h1' : j < qs.length := by simpa using h1
  have h2' : j < rs.length := by simpa using h2
  have e' : (qs[j]).1 = (rs[j]).1 := by
    have := congrArg (fun l => l[j]?) e
    simpa [List.getElem?_eq_getElem h1', List.getElem?_eq_getElem h2'] using this
  have z := EqAt.int_int (A := A) (s := ⟨h, gs, dr, tk, os⟩) (qs[j]).1 (qs[j]).2 (rs[j]).1 (rs[j]).2
  rw [e'] at z
  simpa [iV, e'] using z
theorem il_ne {a b : Addr} (H : IL h a zs) (H' : IL h b zs) (hu : A.units < cLine) (kq : Q (.bool false) ⟨h, gs, dr, tk, os⟩) :
    wpAny (model prog w) A (compareOp .NotEq (.ref a) (.ref b)) Q E ⟨h, gs, dr, tk, os⟩ := by
  obtain ⟨qs, e, H⟩ := H
  obtain ⟨rs, e', H'⟩ := H'
  have el : qs.length = rs.length := by have := congrArg List.length (e.trans e'.symm); simpa using this
  refine RcNeAt.lists (A := A) (s := ⟨h, gs, dr, tk, os⟩) (e := fun _ => true) H H' (by simpa using el) hu (fun j h1 h2 => il_each (a := a) (b := b) (e.trans e'.symm) h1 h2) prog w E Q ?_
  simpa [all_tt] using kq
theorem il_eq {a b : Addr} (H : IL h a zs) (H' : IL h b zs) (hu : A.units < cLine) (kq : Q (.bool true) ⟨h, gs, dr, tk, os⟩) :
    wpAny (model prog w) A (compareOp .Eq (.ref a) (.ref b)) Q E ⟨h, gs, dr, tk, os⟩ := by
  obtain ⟨qs, e, H⟩ := H
  obtain ⟨rs, e', H'⟩ := H'
  have el : qs.length = rs.length := by have := congrArg List.length (e.trans e'.symm); simpa using this
  refine RcAt.lists (A := A) (s := ⟨h, gs, dr, tk, os⟩) (e := fun _ => true) H H' (by simpa using el) hu (fun j h1 h2 => il_each (a := a) (b := b) (e.trans e'.symm) h1 h2) prog w E Q ?_
  simpa [all_tt] using kq
theorem as_attr {o : Expr} {attr : Str} {v : Value} {cs : Scope} {env : Env} {QU : Unit → Shared → Prop} {s : Shared} (k : wpAny (model prog w) A (eval o env) (fun ov s₂ => wpAny (model prog w) A (setAttr ov attr v) (fun _ s₃ => QU () s₃) E s₂) E s) :
    wpAny (model prog w) A (assign (.Attribute o attr pos) env v) QU E s := by
  rw [assign_Attribute]
  exact wpAny_bind (wpAny_holding (wpAny_mono k (fun ov s₂ z => wpAny_bind (wpAny_standAt (wpAny_bind (wpAny_holding (wpAny_mono z (fun _ s₃ y => wpAny_release y) fun _ _ x => x))))) fun _ _ x => x))
end
end Mine
/-! Fn5 -/
namespace Mine
/-- a box that vpack has made -/
noncomputable def PkF (wd hh dd : Int) (l : Addr) (s o : Int) (rt : Addr) (t1 t2 t3 t4 t5 t6 t7 : Tok) : List (Str × Value) :=
  [K_ "kind" (.int 3 t1), K_ "width" (.int wd t2), K_ "height" (.int hh t3), K_ "depth" (.int dd t4), K_ "items" (.ref l), K_ "shift" (.int 0 t5), K_ "sign" (.int s t6), K_ "order" (.int o t7), K_ "ratio" (.ref rt)]
noncomputable def PkAt (P : Params) (h : Heap) (a l : Addr) (wd hh dd s o u d : Int) : Prop :=
  ∃ rt t1 t2 t3 t4 t5 t6 t7 t8 t9, Inst P h a 342 (PkF wd hh dd l s o rt t1 t2 t3 t4 t5 t6 t7) ∧ h.get? rt = some (tupOf [.int u t8, .int d t9])
theorem news_app {g h : Heap} {L : Addr} {l1 l2 : List (Addr × Obj)} (N1 : News g L h l1) (N2 : News g L h l2) : News g L h (l1 ++ l2) := fun q hq => by
  rcases List.mem_append.mp hq with z | z
  · exact N1 q z
  · exact N2 q z
noncomputable def bnd (x : Int) : Prop := -(2 ^ 29) < x ∧ x < 2 ^ 29
noncomputable def sumOk (st sk : List Int) : Prop := st.length = 4 ∧ sk.length = 4 ∧ (∀ k, bnd (st.getD k 0)) ∧ (∀ k, bnd (sk.getD k 0))
section
variable {prog : Program} {w : World} {A : Around} {E : Value → Shared → Prop} {h g : Heap} {gs : Array GenState} {dr : Drawn} {tk : Nat} {os : OsState} {L a : Addr} {m : Str → Option Value}
  {cn : Str} {cs : Scope} {ccd : Value} {cl : List (Str × Addr)} {p : Program} {loose : List Str} {mg mb : Str → Option Value} {Q : Value → Shared → Prop} {pos : Pos}

variable {i j x b wd hh dd : Int} {ti tj tx tb tl th td : Tok} {n : Nd} {xa dx ls lk xb db : Addr} {nat : Int} {st sk zs : List Int} {l : Addr} {ps : List (Addr × Nd)}
theorem set_box_c {o0 : Obj} {t1 t2 t3 t4 t5 t6 t7 : Tok} {s0 r0 : Int} {rt0 : Addr} {vs : List Value} (R : Rm 4 A) (G : Gd w p loose mg mb h) (gb : Heap) (Gb : Gd w p loose mg mb gb) (hx0 : h.get? xb = some (instObj 342 db)) (hd0 : h.get? db = some o0)
    (hO : IsD w.params o0 (PkF wd hh dd l s0 r0 rt0 t1 t2 t3 t4 t5 t6 t7)) (hf : gb.get? db = none) (hne : xb ≠ db) (T : TotAt w.params h xa dx ls lk nat st sk) (d1 : xa ≠ db ∧ dx ≠ db ∧ ls ≠ db ∧ lk ≠ db) (hl : h.IsList l vs.toArray) (hld : l ≠ db) (hv : vs.length ≠ 0) (hi : bnd i) (hs : sumOk st sk)
    (kq : ∀ h' tk' o' rt rp t1 t2 t3 t4 t5 t6 t7 t8 t9 ta tb r1 r2 r3 r4 r5 r6, Ext [db] h h' → h'.get? db = some o' → IsD w.params o' (PkF wd hh dd l r1 r2 rt t1 t2 t3 t4 t5 t6 t7) → h'.get? rt = some (tupOf [.int r3 t8, .int r4 t9]) → h'.get? rp = some (tupOf [.int r5 ta, .int r6 tb]) →
      h.get? rt = none → h.get? rp = none → SG.mk r1 r2 r3 r4 r5 r6 = setF st sk i → Q (.ref rp) ⟨h', gs, dr, tk', os⟩) :
    wpAny (model prog w) A (call (.ref 597) [.ref xb, .ref xa, .int i ti]) Q E ⟨h, gs, dr, tk, os⟩ := by
  refine call_fnW (n := 3) (binds := [(Str.ofString "box", .ref xb), (Str.ofString "totals", .ref xa), (Str.ofString "excess", .int i ti)]) R G gb Gb [(db, o0)] (fun q hq => by rw [List.mem_singleton.mp hq]; exact hd0) (fun q hq => by rw [List.mem_singleton.mp hq]; exact hf) (by k_is) (by k_is) (BindsTo.of_eq (by rfl)) (by rfl) (fun A g L h₁ tk R F N G sg => ?_)
  have nm : ∀ {b : Addr}, b ≠ db → b ∉ [(db, o0)].map (·.1) := fun e hm => e (List.mem_singleton.mp hm)
  have fre : ∀ b : Addr, g.get? b = none → b ≠ db → h.get? b = none := fun b e hb => by
    cases q : h.get? b with
    | none => rfl
    | some o => rw [sg _ _ q (nm hb)] at e; cases e
  have hx := sg _ _ hx0 (nm hne)
  have hl := hl.at fun o e => sg _ _ e (nm hld)
  have T : TotAt w.params g xa dx ls lk nat st sk := let ⟨o, o1, o2, T⟩ := T; ⟨o, o1, o2, T.toTotO, sg _ _ T.hx (nm d1.1), sg _ _ T.hd (nm d1.2.1), sg _ _ T.h1 (nm d1.2.2.1), sg _ _ T.h2 (nm d1.2.2.2)⟩
  repeat (first
   | ((with_reducible show wpAny _ _ (call (Value.ref 555) _) _ _ _); (refine set_glue_c (R.le (by decide)) (G.fr F) (T.up F.keep) hs.1 hs.2.1 hi hs.2.2.1 hs.2.2.2 ?_; intro h tk gt t1 t2 rt t3 t4 rp t5 t6 r1 r2 r3 r4 r5 r6 e0 e1 e2 u er nt nr np))
   | ((with_reducible show wpAny _ _ (eval (Expr.Call (Expr.Name (Str.ofString "set_glue") _) _ _ _) _) _ _ _); refine e_call2 (kp_set_glue _) (n_set_glue F G ⟨rfl, ?_⟩ (by rfl) (by rfl)))
   | walk_at "mS")
  have N3 := new_at F (new_at F (new_at F (News.up N u) np e2) nr e1) nt e0
  have rs1 : ∀ q ∈ [(gt, tupOf [Value.int r1 t1, Value.int r2 t2, Value.ref rt, Value.ref rp]), (rt, tupOf [Value.int r3 t3, Value.int r4 t4]), (rp, tupOf [Value.int r5 t5, Value.int r6 t6])], q.1 ≠ db := fun q hq e => by
    have z := (N _ (.head _)).1
    simp only [List.mem_cons, List.not_mem_nil, or_false] at hq
    rcases hq with rfl | rfl | rfl <;> (rw [← e] at z; simp_all)
  replace N := News.sub (led' := [(db, o0), (gt, tupOf [Value.int r1 t1, Value.int r2 t2, Value.ref rt, Value.ref rp]), (rt, tupOf [Value.int r3 t3, Value.int r4 t4]), (rp, tupOf [Value.int r5 t5, Value.int r6 t6])]) N3 (fun q hq => by
    simp only [List.mem_cons, List.not_mem_nil, or_false] at hq ⊢
    rcases hq with h | h | h | h <;> simp [h])
  clear N3 nt e0 e1 e2
  replace F := Fr.up F u
  repeat (first
   | ((with_reducible show wpAny _ _ (assign (Expr.Tuple _ _ _) _ (Value.ref _)) _ _ _); (refine as_tup R.hd (N _ (.tail _ (.head _))).1 (by rfl) (by rfl) (fun h u => ?_); replace F := Fr.up F u; replace N := News.up N u; clear u))
   | ((with_reducible show wpAny _ _ (assign (Expr.Attribute _ _ _) _ _) _ _ _); (refine as_attr (cs := default) ?_))
   | ((with_reducible show wpAny _ _ (getAttr _ (Str.ofString "items") _) _ _ _); (refine g_own (clsOk_ofA (ca_Box _) (fa_Box_items _)) (G.x.keeps F.keep) (Inst.of (F.keep _ _ hx) hO (N _ (.head _)).1) (by rfl) ?_))
   | ((with_reducible show wpAny _ _ (compareOp CmpOp.NotEq (Value.ref _) (Value.ref _)) _ _ _); (refine ls_ne_len (hl.at fun o e => F.keep _ _ e) ⟨_, (N _ (.head _)).1, rfl, _, rfl⟩ hv R.ult ?_))
   | ((with_reducible show wpAny _ _ (setAttr _ (Str.ofString "sign") _) _ _ _); first | (refine s_attr (pre := []) (setOk_of (ca_Box _) (fa_Box_sign _)) F N G (F.keep _ _ hx) hO (by first | assumption | k_all) (by first | assumption | k_all) (Nat.le_of_ble_eq_true rfl) ?_; clear F N hO; intro h o F N hO; (try simp only [List.nil_append, List.cons_append] at N)) | (refine s_attr (pre := [_]) (setOk_of (ca_Box _) (fa_Box_sign _)) F N G (F.keep _ _ hx) hO (by first | assumption | k_all) (by first | assumption | k_all) (Nat.le_of_ble_eq_true rfl) ?_; clear F N hO; intro h o F N hO; (try simp only [List.nil_append, List.cons_append] at N)) | (refine s_attr (pre := [_, _]) (setOk_of (ca_Box _) (fa_Box_sign _)) F N G (F.keep _ _ hx) hO (by first | assumption | k_all) (by first | assumption | k_all) (Nat.le_of_ble_eq_true rfl) ?_; clear F N hO; intro h o F N hO; (try simp only [List.nil_append, List.cons_append] at N)))
   | ((with_reducible show wpAny _ _ (setAttr _ (Str.ofString "order") _) _ _ _); first | (refine s_attr (pre := []) (setOk_of (ca_Box _) (fa_Box_order _)) F N G (F.keep _ _ hx) hO (by first | assumption | k_all) (by first | assumption | k_all) (Nat.le_of_ble_eq_true rfl) ?_; clear F N hO; intro h o F N hO; (try simp only [List.nil_append, List.cons_append] at N)) | (refine s_attr (pre := [_]) (setOk_of (ca_Box _) (fa_Box_order _)) F N G (F.keep _ _ hx) hO (by first | assumption | k_all) (by first | assumption | k_all) (Nat.le_of_ble_eq_true rfl) ?_; clear F N hO; intro h o F N hO; (try simp only [List.nil_append, List.cons_append] at N)) | (refine s_attr (pre := [_, _]) (setOk_of (ca_Box _) (fa_Box_order _)) F N G (F.keep _ _ hx) hO (by first | assumption | k_all) (by first | assumption | k_all) (Nat.le_of_ble_eq_true rfl) ?_; clear F N hO; intro h o F N hO; (try simp only [List.nil_append, List.cons_append] at N)))
   | ((with_reducible show wpAny _ _ (setAttr _ (Str.ofString "ratio") _) _ _ _); first | (refine s_attr (pre := []) (setOk_of (ca_Box _) (fa_Box_ratio _)) F N G (F.keep _ _ hx) hO (by first | assumption | k_all) (by first | assumption | k_all) (Nat.le_of_ble_eq_true rfl) ?_; clear F N hO; intro h o F N hO; (try simp only [List.nil_append, List.cons_append] at N)) | (refine s_attr (pre := [_]) (setOk_of (ca_Box _) (fa_Box_ratio _)) F N G (F.keep _ _ hx) hO (by first | assumption | k_all) (by first | assumption | k_all) (Nat.le_of_ble_eq_true rfl) ?_; clear F N hO; intro h o F N hO; (try simp only [List.nil_append, List.cons_append] at N)) | (refine s_attr (pre := [_, _]) (setOk_of (ca_Box _) (fa_Box_ratio _)) F N G (F.keep _ _ hx) hO (by first | assumption | k_all) (by first | assumption | k_all) (Nat.le_of_ble_eq_true rfl) ?_; clear F N hO; intro h o F N hO; (try simp only [List.nil_append, List.cons_append] at N)))
   | ((with_reducible show wpAny _ _ (eval (Expr.Name _ _) _) _ _ _); ((with_reducible refine n_NATURAL F G ?_ ?hka ?hkb); (case hka => rfl); (case hkb => rfl)))
   | walk_at "mS")
  all_goals refine kq _ _ _ _ _ _ _ _ _ _ _ _ _ _ _ _ _ _ _ _ _ _ (fun b ob e hm => F.keep _ _ (sg _ _ e (nm fun q => hm (q ▸ .head _)))) (N _ (.tail _ (.head _))).1 hO (N _ (.tail _ (.tail _ (.tail _ (.head _))))).1 (N _ (.tail _ (.tail _ (.tail _ (.tail _ (.head _)))))).1 (fre _ (N _ (.tail _ (.tail _ (.tail _ (.head _))))).2.2 (rs1 _ (.tail _ (.head _)))) (fre _ (N _ (.tail _ (.tail _ (.tail _ (.tail _ (.head _)))))).2.2 (rs1 _ (.tail _ (.tail _ (.head _))))) er
theorem tot_led {led : List (Addr × Obj)} {h' : Heap} {t : Addr} {ob : Obj} (F : Fr g L h m) (N : News g L h led) (u : Up h h') (nt : h.get? t = none) (nx : h.get? xa = none) (nd : h.get? dx = none) (n1 : h.get? ls = none) (n2 : h.get? lk = none) (et : h'.get? t = some ob) (T : TotAt w.params h' xa dx ls lk nat st sk) :
    ∃ o o1 o2, News g L h' (TN xa dx ls lk o o1 o2 ++ (t, ob) :: led) ∧ TotO w.params o o1 o2 ls lk nat st sk := by
  obtain ⟨o, o1, o2, T⟩ := T
  exact ⟨o, o1, o2, new_at F (new_at F (new_at F (new_at F (new_at F (News.up N u) nt et) n2 T.h2) n1 T.h1) nd T.hd) nx T.hx, T.toTotO⟩
noncomputable def vpNat (ps : List (Addr × Nd)) (most : Int) : Int := if (natF ps).D > most then (natF ps).nat + ((natF ps).D - most) else (natF ps).nat
noncomputable def vpD (ps : List (Addr × Nd)) (most : Int) : Int := if (natF ps).D > most then most else (natF ps).D
noncomputable def vpH (ps : List (Addr × Nd)) (mode amount most : Int) : Int := if mode = 0 then amount else vpNat ps most + amount
noncomputable def vpE (ps : List (Addr × Nd)) (mode amount most : Int) : Int := vpH ps mode amount most - vpNat ps most
noncomputable def vpS (ps : List (Addr × Nd)) (mode amount most : Int) : SG := setF (natF ps).st (natF ps).sk (vpE ps mode amount most)
theorem vpNat_pos {ps : List (Addr × Nd)} {most : Int} (hc : (natF ps).D > most) : vpNat ps most = (natF ps).nat + ((natF ps).D - most) := if_pos hc
theorem vpNat_neg {ps : List (Addr × Nd)} {most : Int} (hc : ¬ (natF ps).D > most) : vpNat ps most = (natF ps).nat := if_neg hc
theorem vpD_pos {ps : List (Addr × Nd)} {most : Int} (hc : (natF ps).D > most) : vpD ps most = most := if_pos hc
theorem vpD_neg {ps : List (Addr × Nd)} {most : Int} (hc : ¬ (natF ps).D > most) : vpD ps most = (natF ps).D := if_neg hc
structure VpOk (ps : List (Addr × Nd)) (mode amount most : Int) : Prop where
  ne : ps ≠ []
  ok : ∀ q ∈ ps, q.2.ok
  hm : mode = 0 ∨ mode = 1
  ha : bnd amount
  hs : sumOk (natF ps).st (natF ps).sk
  hW : bnd (natF ps).W
  hD : bnd (vpD ps most)
  hH : bnd (vpH ps mode amount most)
  hE : bnd (vpE ps mode amount most)
  hM : -1073741823 ≤ most ∧ most ≤ 1073741823
theorem ne_of_old {a b : Addr} {o : Obj} (e : h.get? a = some o) (e' : h.get? b = none) : a ≠ b := fun q => by rw [q, e'] at e; cases e
theorem box_led {led : List (Addr × Obj)} {h' : Heap} {o o' ob : Obj} (N : News g L h ((xb, ob) :: (db, o) :: led)) (e : Ext [db] h h') (eb : h'.get? db = some o') (hne : xb ≠ db) : News g L h' [(xb, ob), (db, o')] := fun q hq => by
  simp only [List.mem_cons, List.not_mem_nil, or_false] at hq
  rcases hq with rfl | rfl
  · exact ⟨e _ _ (N _ (.head _)).1 (by simpa using hne), (N _ (.head _)).2⟩
  · exact ⟨eb, (N _ (.tail _ (.head _))).2⟩
theorem vpack_c {vs : List Value} {mode amount most : Int} {tm ta tmo : Tok} (R : Rm 8 A) (G : Gd w p loose mg mb g) (hl : g.IsList l (vals ps).toArray) (HN : NS w.params g ps) (V : VpOk ps mode amount most)
    (hv : vs = [.ref l, .int mode tm, .int amount ta, .int most tmo] ∨ (vs = [.ref l] ∧ mode = 1 ∧ tm = 925 ∧ amount = 0 ∧ ta = 1035 ∧ most = 1073741823 ∧ tmo = 280))
    (kq : ∀ h' tk' t xb rp ta tb s o u d r b, Up g h' → h'.get? t = some (tupOf [.ref xb, .ref rp]) → (∀ b' : Heap, (∀ a o, g.get? a = none → h'.get? a = some o → b'.get? a = some o) → PkAt w.params b' xb l (natF ps).W (vpH ps mode amount most) (vpD ps most) s o u d) → h'.get? rp = some (tupOf [.int r ta, .int b tb]) → g.get? t = none → g.get? xb = none → g.get? rp = none → SG.mk s o u d r b = vpS ps mode amount most → Q (.ref t) ⟨h', gs, dr, tk', os⟩) :
    wpAny (model prog w) A (call (.ref 605) vs) Q E ⟨g, gs, dr, tk, os⟩ := by
  refine call_fn (n := 7) (binds := [(Str.ofString "items", .ref l), (Str.ofString "mode", .int mode tm), (Str.ofString "amount", .int amount ta), (Str.ofString "most_depth", .int most tmo)]) R G (by k_is) (by k_is) (by rcases hv with rfl | ⟨rfl, rfl, rfl, rfl, rfl, rfl, rfl⟩ <;> exact binds_K G.x rfl (by k_is) rfl rfl rfl) (by rfl) (fun A L h tk R F N => ?_)
  clear hv
  obtain ⟨ol, hlo, _⟩ := id hl
  obtain ⟨hne, ok, hm, ha', hs, hW, hD, hH, hE, hM⟩ := V
  have ha : -1073741823 ≤ amount ∧ amount ≤ 1073741823 := by have := ha'; unfold bnd at this; omega
  repeat (first
   | ((with_reducible show wpAny _ _ (call (Value.ref 541) _) _ _ _); (refine natural_column_c (R.le (by decide)) (G.fr F) (hl.at fun o e => F.keep _ _ e) (HN.up F.keep) ok ?_; intro h tk t xa dx ls lk t1 t2 u nt nx nd n1 n2 ap et T; obtain ⟨o, o1, o2, N', TO⟩ := tot_led F N u nt nx nd n1 n2 et T; clear N; replace N := N'; clear N'; replace F := Fr.up F u; clear u T))
   | ((with_reducible show wpAny _ _ (assign (Expr.Tuple _ _ _) _ (Value.ref _)) _ _ _); (refine as_tup R.hd (N _ (.tail _ (.tail _ (.tail _ (.tail _ (.head _)))))).1 (by rfl) (by rfl) (fun h u => ?_); replace F := Fr.up F u; replace N := News.up N u; clear u; replace N := News.sub (led' := TN xa dx ls lk o o1 o2 ++ []) N (fun q hq => List.mem_append_left _ (by rwa [List.append_nil] at hq))))
   | ((with_reducible show wpAny _ _ (eval (Expr.Call (Expr.Attribute _ (Str.ofString "widen") _) _ _ _) _) _ _ _); (refine e_meth1 (mk_widen _) ?_))
   | ((with_reducible show wpAny _ _ (getMethod _ (Str.ofString "widen") _) _ _ _); (obtain ⟨tn, It⟩ := tot_inst N TO; refine g_meth (pg_of (ca_Totals _)) (me_widen _) (mf_widen _) (G.x.keeps F.keep) It (by rfl) ⟨rfl, ?_⟩; clear It tn))
   | ((with_reducible show wpAny _ _ (call (Value.ref 273) _) _ _ _); (refine tot_widen_c (R.le (by decide)) (G.fr F) g G (tot_of N TO) ap (N _ (.tail _ (.head _))).2.2 ?_; intro h tk e T; obtain ⟨F', o, o1, o2, N', TO'⟩ := tot_back F N (fun q hq => nomatch hq) e T; clear F N TO T; replace F := F'; replace N := N'; have TO := TO'; clear F' N' TO'))
   | ((with_reducible show wpAny _ _ (getAttr _ (Str.ofString "natural") _) _ _ _); (obtain ⟨tn, It⟩ := tot_inst N TO; refine g_own (clsOk_ofA (ca_Totals _) (fa_Totals_natural _)) (G.x.keeps F.keep) It (by rfl) ?_; clear It))
   | ((with_reducible show wpAny _ _ (eval (Expr.Name _ _) _) _ _ _); ((with_reducible refine n_VBOX F G ?_ ?hka ?hkb); (case hka => rfl); (case hkb => rfl)))
   | ((with_reducible show wpAny _ _ (eval (Expr.Call (Expr.Name (Str.ofString "check_dimen") _) _ _ _) _) _ _ _); refine e_call1 (kp_check_dimen _) (n_check_dimen F G ⟨rfl, ?_⟩ (by rfl) (by rfl)))
   | ((with_reducible show wpAny _ _ (call (Value.ref 110) _) _ _ _); (refine check_dimen_c (R.le (by decide)) (G.fr F) (by omega) ?_; intro h tk u; replace F := Fr.up F u; replace N := News.up N u; clear u))
   | ((with_reducible show wpAny _ _ (eval (Expr.Call (Expr.Name (Str.ofString "natural_column") _) _ _ _) _) _ _ _); refine e_call1 (kp_natural_column _) (n_natural_column F G ⟨rfl, ?_⟩ (by rfl) (by rfl)))
   | walk_at "mS")
  all_goals (first | (have eN := vpNat_pos hc; have eD := vpD_pos hc) | (have eN := vpNat_neg hc; have eD := vpD_neg hc))
  all_goals rw [← eN] at TO
  all_goals have hD2 := hD
  all_goals rw [eD] at hD2
  all_goals have hE0 := hE
  all_goals unfold bnd at hD2 hW hH hE
  all_goals repeat (first
   | ((with_reducible show wpAny _ _ (getAttr _ (Str.ofString "natural") _) _ _ _); ((first | obtain ⟨tn, It⟩ := tot_inst N TO | obtain ⟨tn, It⟩ := tot_inst (led := []) (News.sub N (fun q hq => .tail _ (.tail _ hq))) TO); refine g_own (clsOk_ofA (ca_Totals _) (fa_Totals_natural _)) (G.x.keeps F.keep) It (by rfl) ?_; clear It))
   | ((with_reducible show wpAny _ _ (call (Value.ref 590) _) _ _ _); (refine goal_size_c (R.le (by decide)) (G.fr F) hm ha ?_; intro h tk t r u hr; obtain rfl : r = vpH ps mode amount most := hr; replace F := Fr.up F u; replace N := News.up N u; clear u))
   | ((with_reducible show wpAny _ _ (eval (Expr.Call (Expr.Name (Str.ofString "Box") _) _ _ _) _) _ _ _); (refine e_call5 (kp_Box _) (n_Box F G ⟨rfl, ?_⟩ (by rfl) (by rfl))))
   | ((with_reducible show wpAny _ _ (call (Value.ref 342) _) _ _ _); (refine mk_Box_c (R.le (by decide)) (G.fr F) (by omega) (by omega) (by omega) (by omega) ?_; intro h tk xb db ob rt t1 t2 t3 t4 I nr er r1 r2; have hdd := (⟨ne_of_old (N _ (.head _)).1 I.nd, ne_of_old (N _ (.tail _ (.head _))).1 I.nd, ne_of_old (N _ (.tail _ (.tail _ (.head _)))).1 I.nd, ne_of_old (N _ (.tail _ (.tail _ (.tail _ (.head _))))).1 I.nd⟩ : xa ≠ db ∧ dx ≠ db ∧ ls ≠ db ∧ lk ≠ db); have hld := ne_of_old (F.keep _ _ hlo) I.nd; have NB := new_at F (new_at F (News.up N I.up) I.nd I.dat) I.nx I.at_; clear N; have N := NB; clear NB; replace F := Fr.up F I.up; have hOb := I.isd; have hnx := I.ne; clear I nr er r1 r2))
   | ((with_reducible show wpAny _ _ (call (Value.ref 597) _) _ _ _); (refine set_box_c (R.le (by decide)) (G.fr F) g G (N _ (.head _)).1 (N _ (.tail _ (.head _))).1 hOb (N _ (.tail _ (.head _))).2.2 hnx (tot_of (led := []) (News.sub N fun q hq => .tail _ (.tail _ hq)) TO) hdd (hl.at fun o e => F.keep _ _ e) hld (by simpa [vals] using hne) hE0 hs ?_; intro h tk ob' rt2 rp u1 u2 u3 u4 u5 u6 u7 u8 u9 ua ub r1 r2 r3 r4 r5 r6 e eb hO' er ep fr fp es; have NB := new_at F (new_at F (box_led N e eb hnx) fp ep) fr er; replace F := Fr.ext F e (fun b hb => List.mem_singleton.mp hb ▸ (N _ (.tail _ (.head _))).2); clear N; have N := NB; clear NB))
   | ((with_reducible show wpAny _ _ (eval (Expr.Name _ _) _) _ _ _); ((with_reducible refine n_VBOX F G ?_ ?hka ?hkb); (case hka => rfl); (case hkb => rfl)))
   | ((with_reducible show wpAny _ _ (eval (Expr.Call (Expr.Name (Str.ofString "goal_size") _) _ _ _) _) _ _ _); refine e_call3 (kp_goal_size _) (n_goal_size F G ⟨rfl, ?_⟩ (by rfl) (by rfl)))
   | ((with_reducible show wpAny _ _ (call (Value.ref 590) _) _ _ _); (refine goal_size_c (R.le (by decide)) (G.fr F) hm ha ?_; intro h tk t r u hr; subst hr; replace F := Fr.up F u; replace N := News.up N u; clear u))
   | ((with_reducible show wpAny _ _ (eval (Expr.Call (Expr.Name (Str.ofString "set_box") _) _ _ _) _) _ _ _); refine e_call3 (kp_set_box _) (n_set_box F G ⟨rfl, ?_⟩ (by rfl) (by rfl)))
   | walk_at "mS")
  all_goals exact kq _ _ _ _ _ _ _ _ _ _ _ _ _ F.keep (N _ (.head _)).1 (fun b' nb => by rw [eD]; exact ⟨_, _, _, _, _, _, _, _, _, _, Inst.of (nb _ _ (N _ (.tail _ (.tail _ (.tail _ (.head _))))).2.2 (N _ (.tail _ (.tail _ (.tail _ (.head _))))).1) hO' (nb _ _ (N _ (.tail _ (.tail _ (.tail _ (.tail _ (.head _)))))).2.2 (N _ (.tail _ (.tail _ (.tail _ (.tail _ (.head _)))))).1), nb _ _ (N _ (.tail _ (.head _))).2.2 (N _ (.tail _ (.head _))).1⟩) (N _ (.tail _ (.tail _ (.head _)))).1 (N _ (.head _)).2.2 (N _ (.tail _ (.tail _ (.tail _ (.head _))))).2.2 (N _ (.tail _ (.tail _ (.head _)))).2.2 es
end
end Mine
/-! Fn6 -/
namespace Mine
noncomputable def flexF (s o st so sk ko : Int) : Int := if s = 1 ∧ so = o then st else if s = 2 ∧ ko = o then -sk else 0
noncomputable def Nd.psz : Nd → Int
  | .kern w => w | n => n.hgt + n.dep
structure PL where
  fx : Int
  fl : Int
  fo : List Int
noncomputable def plStep (s o u d : Int) (p : PL) (n : Nd) : PL :=
  match n with
  | .skip gw st so sk ko _ _ => ⟨p.fx + gw, p.fl + flexF s o st so sk ko, p.fo ++ [p.fx + gw + roundF (u * (p.fl + flexF s o st so sk ko)) d]⟩
  | n => ⟨p.fx + n.psz, p.fl, p.fo ++ [p.fx + n.psz + roundF (u * p.fl) d]⟩
noncomputable def plF (s o u d : Int) (ps : List (Addr × Nd)) : PL := ps.foldl (fun p q => plStep s o u d p q.2) ⟨0, 0, [0]⟩
theorem plF_take {s o u d : Int} {ps : List (Addr × Nd)} {i : Nat} {q : Addr × Nd} (e : ps[i]? = some q) : plF s o u d (ps.take (i + 1)) = plStep s o u d (plF s o u d (ps.take i)) q.2 := by
  unfold plF
  rw [List.take_add_one, e, List.foldl_append]
  rfl
theorem plStep_len {s o u d : Int} {p : PL} {n : Nd} : (plStep s o u d p n).fo.length = p.fo.length + 1 := by cases n <;> simp [plStep]
theorem plF_len {s o u d : Int} (ps : List (Addr × Nd)) : (plF s o u d ps).fo.length = ps.length + 1 := by
  have : ∀ p : PL, (ps.foldl (fun p q => plStep s o u d p q.2) p).fo.length = p.fo.length + ps.length := by
    induction ps with
    | nil => intro p; rfl
    | cons q ps ih => intro p; rw [List.foldl_cons, ih, plStep_len, List.length_cons]; omega
  rw [plF, this]; simp; omega
section
variable {prog : Program} {w : World} {A : Around} {E : Value → Shared → Prop} {h g : Heap} {gs : Array GenState} {dr : Drawn} {tk : Nat} {os : OsState} {L a : Addr} {m : Str → Option Value}
  {cn : Str} {cs : Scope} {ccd : Value} {cl : List (Str × Addr)} {p : Program} {loose : List Str} {mg mb : Str → Option Value} {Q : Value → Shared → Prop} {pos : Pos}

variable {i j x b wd hh dd s o u d : Int} {ti tj tx tb tl th td : Tok} {n : Nd} {l li bx ga : Addr} {ps : List (Addr × Nd)} {gw st so sk ko : Int} {rt : Addr} {t1 t2 t3 t4 t5 t6 t7 t8 t9 : Tok}
theorem e_bmeth1 {pl : Sem Bool} {ob e₁ : Expr} {name : Str} {apos : Pos} {id : String} {env : Env} {s : Shared}
    (kq : wpAny (model prog w) A (eval ob env) (fun ov s₁ => wpAny (model prog w) A (getMethod ov name pl) (fun fx s₂ => fx = (.builtin id, [ov]) ∧ wpAny (model prog w) A (eval e₁ env) (fun v₁ s₃ => wpAny (model prog w) A (call (.builtin id) [ov, v₁]) Q E s₃) E s₂) E s₁) E s)
    (he : eval (.Call (.Attribute ob name apos) [e₁] [] pos) env = (do
      let ov ← eval ob env
      standAt apos.atName
      let (f, first) ← holding [ov] (getMethod ov name pl)
      callWith pos f first (backTo pos (starEach [e₁] env)) []) := by rfl)
    (st0 : starEach [e₁] env = (false, eval e₁ env) :: starEach [] env := by rfl) (hp : (backTo pos (starEach [] env)).any (·.1) = false := by rfl) :
    wpAny (model prog w) A (eval (.Call (.Attribute ob name apos) [e₁] [] pos) env) Q E s :=
  MethodCall_ (pl := pl) (ev_mono kq fun ov s₁ z => wpAny_mono z (fun fx s₂ y => by
    obtain ⟨rfl, y⟩ := y
    exact callWith_method1 (args_cons (ev_mono y fun _ _ r => args_nil r) st0) st0 hp) fun _ _ x => x) he
theorem flex_c (R : Rm 1 A) (G : Gd w p loose mg mb h) (I : Inst w.params h bx 342 (PkF wd hh dd l s o rt t1 t2 t3 t4 t5 t6 t7)) (Ig : GlueAt w.params h ga gw st so sk ko)
    (kq : ∀ h' tk' t r, Up h h' → r = flexF s o st so sk ko → Q (.int r t) ⟨h', gs, dr, tk', os⟩) : wpAny (model prog w) A (call (.ref 562) [.ref bx, .ref ga]) Q E ⟨h, gs, dr, tk, os⟩ := by
  refine call_fn (n := 0) (binds := [(Str.ofString "box", .ref bx), (Str.ofString "glue", .ref ga)]) R G (by k_is) (by k_is) (by first | exact BindsTo.of_eq (by rfl) | exact binds_K G.x rfl (by k_is) rfl rfl rfl) (by rfl) (fun A L h tk R F N => ?_)
  obtain ⟨u1, u2, u3, u4, u5, Ig⟩ := Ig
  repeat (first
   | ((with_reducible show wpAny _ _ (getAttr _ (Str.ofString "sign") _) _ _ _); refine g_own (clsOk_ofA (ca_Box _) (fa_Box_sign _)) (G.x.keeps F.keep) (Inst.up I F.keep) (by rfl) ?_)
   | ((with_reducible show wpAny _ _ (getAttr _ (Str.ofString "order") _) _ _ _); refine g_own (clsOk_ofA (ca_Box _) (fa_Box_order _)) (G.x.keeps F.keep) (Inst.up I F.keep) (by rfl) ?_)
   | ((with_reducible show wpAny _ _ (getAttr _ (Str.ofString "stretch") _) _ _ _); refine g_own (clsOk_ofA (ca_Glue _) (fa_Glue_stretch _)) (G.x.keeps F.keep) (Inst.up Ig F.keep) (by rfl) ?_)
   | ((with_reducible show wpAny _ _ (getAttr _ (Str.ofString "stretch_order") _) _ _ _); refine g_own (clsOk_ofA (ca_Glue _) (fa_Glue_stretch_order _)) (G.x.keeps F.keep) (Inst.up Ig F.keep) (by rfl) ?_)
   | ((with_reducible show wpAny _ _ (getAttr _ (Str.ofString "shrink") _) _ _ _); refine g_own (clsOk_ofA (ca_Glue _) (fa_Glue_shrink _)) (G.x.keeps F.keep) (Inst.up Ig F.keep) (by rfl) ?_)
   | ((with_reducible show wpAny _ _ (getAttr _ (Str.ofString "shrink_order") _) _ _ _); refine g_own (clsOk_ofA (ca_Glue _) (fa_Glue_shrink_order _)) (G.x.keeps F.keep) (Inst.up Ig F.keep) (by rfl) ?_)
   | ((with_reducible show wpAny _ _ (eval (Expr.Name _ _) _) _ _ _); first | ((with_reducible refine n_STRETCHED F G ?_ ?hka ?hkb); (case hka => rfl); (case hkb => rfl)) | ((with_reducible refine n_SHRUNK F G ?_ ?hka ?hkb); (case hka => rfl); (case hkb => rfl)))
   | walk_at "mS")
  all_goals refine kq _ _ _ _ F.keep ?_
  all_goals simp [flexF, *]
theorem set_part_c (R : Rm 2 A) (G : Gd w p loose mg mb h) (I : Inst w.params h bx 342 (PkF wd hh dd l s o rt t1 t2 t3 t4 t5 t6 t7)) (hr : h.get? rt = some (tupOf [.int u t8, .int d t9])) (hd : 0 < d) (hd2 : d < 2 ^ 29) (hu : bnd u)
    (kq : ∀ h' tk' t, Up h h' → Q (.int (roundF (u * x) d) t) ⟨h', gs, dr, tk', os⟩) : wpAny (model prog w) A (call (.ref 569) [.ref bx, .int x tx]) Q E ⟨h, gs, dr, tk, os⟩ := by
  refine call_fn (n := 1) (binds := [(Str.ofString "box", .ref bx), (Str.ofString "flexed", .int x tx)]) R G (by k_is) (by k_is) (by first | exact BindsTo.of_eq (by rfl) | exact binds_K G.x rfl (by k_is) rfl rfl rfl) (by rfl) (fun A L h tk R F N => ?_)
  unfold bnd at hu
  repeat (first
   | ((with_reducible show wpAny _ _ (subscriptTail _ _ (Value.ref _) (Value.int _ _)) _ _ _); (refine i_tupA (F.keep _ _ hr) (by decide) (by simp) (by simp) (by rfl) ?_))
   | ((with_reducible show wpAny _ _ (getAttr _ (Str.ofString "ratio") _) _ _ _); refine g_own (clsOk_ofA (ca_Box _) (fa_Box_ratio _)) (G.x.keeps F.keep) (Inst.up I F.keep) (by rfl) ?_)
   | ((with_reducible show wpAny _ _ (eval (Expr.Call (Expr.Name (Str.ofString "rounded") _) _ _ _) _) _ _ _); refine e_call2 (kp_rounded _) (n_rounded F G ⟨rfl, ?_⟩ (by rfl) (by rfl)))
   | ((with_reducible show wpAny _ _ (call (Value.ref 117) _) _ _ _); (refine rounded_c (R.le (by decide)) (G.fr F) (by omega) (by omega) ?_; intro h tk t u; replace F := Fr.up F u; replace N := News.up N u; clear u))
   | walk_at "mS")
  all_goals exact kq _ _ _ F.keep
theorem psz_sized (H : NodeAt w.params h a n) (e5 : n.kind ≠ 5) : n.psz = n.hgt + n.dep := by
  cases n with
  | kern => simp [Nd.kind] at e5
  | _ => rfl
theorem part_size_c (R : Rm 3 A) (G : Gd w p loose mg mb h) (I : Inst w.params h bx 342 (PkF wd hh dd l s o rt t1 t2 t3 t4 t5 t6 t7)) (H : NodeAt w.params h a n) (h6 : n.kind ≠ 6)
    (kq : ∀ h' tk' t, Up h h' → Q (.int n.psz t) ⟨h', gs, dr, tk', os⟩) : wpAny (model prog w) A (call (.ref 576) [.ref bx, .ref a]) Q E ⟨h, gs, dr, tk, os⟩ := by
  refine call_fn (n := 2) (binds := [(Str.ofString "box", .ref bx), (Str.ofString "node", .ref a)]) R G (by k_is) (by k_is) (by first | exact BindsTo.of_eq (by rfl) | exact binds_K G.x rfl (by k_is) rfl rfl rfl) (by rfl) (fun A L h tk R F N => ?_)
  by_cases e9 : n.kind = 5
  · obtain ⟨wd, rfl⟩ := is_kern H e9
    obtain ⟨t, tg, Ik⟩ := H
    repeat (first
   | ((with_reducible show wpAny _ _ (getAttr _ (Str.ofString "kind") _) _ _ _); (first | refine g_own (clsOk_ofA (ca_Box _) (fa_Box_kind _)) (G.x.keeps F.keep) (Inst.up I F.keep) (by rfl) ?_ | refine g_cls (pg_of (ca_Kern _)) (hd_of (ca_Kern _)) (fk_Kern _) (ng_int _ _ _) cn_kind (G.x.keeps F.keep) (Inst.up Ik F.keep) (by rfl) ?_))
   | ((with_reducible show wpAny _ _ (getAttr _ (Str.ofString "kind") _) _ _ _); refine g_own (clsOk_ofA (ca_Box _) (fa_Box_kind _)) (G.x.keeps F.keep) (Inst.up I F.keep) (by rfl) ?_)
   | ((with_reducible show wpAny _ _ (getAttr _ (Str.ofString "kind") _) _ _ _); refine g_cls (pg_of (ca_Kern _)) (hd_of (ca_Kern _)) (fk_Kern _) (ng_int _ _ _) cn_kind (G.x.keeps F.keep) (Inst.up Ik F.keep) (by rfl) ?_)
   | ((with_reducible show wpAny _ _ (getAttr _ (Str.ofString "width") _) _ _ _); refine g_own (clsOk_ofA (ca_Kern _) (fa_Kern_width _)) (G.x.keeps F.keep) (Inst.up Ik F.keep) (by rfl) ?_)
   | ((with_reducible show wpAny _ _ (eval (Expr.Name _ _) _) _ _ _); first | ((with_reducible refine n_HBOX F G ?_ ?hka ?hkb); (case hka => rfl); (case hkb => rfl)) | ((with_reducible refine n_KERN F G ?_ ?hka ?hkb); (case hka => rfl); (case hkb => rfl)))
   | walk_at "mS")
    all_goals exact kq _ _ _ F.keep
  · have hz := sized_of H e9 h6
    rw [psz_sized H e9] at kq
    repeat (first
   | ((with_reducible show wpAny _ _ (getAttr _ (Str.ofString "kind") _) _ _ _); (first | refine g_own (clsOk_ofA (ca_Box _) (fa_Box_kind _)) (G.x.keeps F.keep) (Inst.up I F.keep) (by rfl) ?_ | (refine nd_kind (G.x.keeps F.keep) (NodeAt.up H F.keep) ?_; intro t)))
   | ((with_reducible show wpAny _ _ (call (Value.ref 493) _) _ _ _); (refine height_of_c (R.le (by decide)) (G.fr F) (NodeAt.up H F.keep) hz ?_; intro h tk t u; replace F := Fr.up F u; replace N := News.up N u; clear u))
   | ((with_reducible show wpAny _ _ (call (Value.ref 498) _) _ _ _); (refine depth_of_c (R.le (by decide)) (G.fr F) (NodeAt.up H F.keep) hz ?_; intro h tk t u; replace F := Fr.up F u; replace N := News.up N u; clear u))
   | ((with_reducible show wpAny _ _ (eval (Expr.Name _ _) _) _ _ _); first | ((with_reducible refine n_HBOX F G ?_ ?hka ?hkb); (case hka => rfl); (case hkb => rfl)) | ((with_reducible refine n_KERN F G ?_ ?hka ?hkb); (case hka => rfl); (case hkb => rfl)))
   | ((with_reducible show wpAny _ _ (eval (Expr.Call (Expr.Name (Str.ofString "width_of") _) _ _ _) _) _ _ _); refine e_call1 (kp_width_of _) (n_width_of F G ⟨rfl, ?_⟩ (by rfl) (by rfl)))
   | ((with_reducible show wpAny _ _ (call (Value.ref 488) _) _ _ _); (refine width_of_c (R.le (by decide)) (G.fr F) (NodeAt.up (by assumption) F.keep) (by rfl) ?_; intro h tk t u; replace F := Fr.up F u; replace N := News.up N u; clear u))
   | ((with_reducible show wpAny _ _ (eval (Expr.Call (Expr.Name (Str.ofString "height_of") _) _ _ _) _) _ _ _); refine e_call1 (kp_height_of _) (n_height_of F G ⟨rfl, ?_⟩ (by rfl) (by rfl)))
   | ((with_reducible show wpAny _ _ (call (Value.ref 493) _) _ _ _); (refine height_of_c (R.le (by decide)) (G.fr F) (NodeAt.up (by assumption) F.keep) (by rfl) ?_; intro h tk t u; replace F := Fr.up F u; replace N := News.up N u; clear u))
   | ((with_reducible show wpAny _ _ (eval (Expr.Call (Expr.Name (Str.ofString "depth_of") _) _ _ _) _) _ _ _); refine e_call1 (kp_depth_of _) (n_depth_of F G ⟨rfl, ?_⟩ (by rfl) (by rfl)))
   | ((with_reducible show wpAny _ _ (call (Value.ref 498) _) _ _ _); (refine depth_of_c (R.le (by decide)) (G.fr F) (NodeAt.up (by assumption) F.keep) (by rfl) ?_; intro h tk t u; replace F := Fr.up F u; replace N := News.up N u; clear u))
   | walk_at "mS")
    all_goals exact kq _ _ _ F.keep
theorem k_append {qs : List (Int × Tok)} {nn : Nat} {rest : List (Addr × Obj)} (F : Fr g L h m) (N : News g L h ((l, lstOf (qs.map iV) nn) :: rest)) (ho : ∀ q ∈ rest, q.1 ≠ l)
    (kq : ∀ h', Fr g L h' m → News g L h' ((l, lstOf ((qs ++ [(x, tx)]).map iV) (nn + 1)) :: rest) → Q .none ⟨h', gs, dr, tk, os⟩) (hz : qs.length ≤ 1000) : wpAny (model prog w) A (call (.builtin "list.append") [.ref l, .int x tx]) Q E ⟨h, gs, dr, tk, os⟩ := by
  refine append_head (s := ⟨h, gs, dr, tk, os⟩) (its := (qs.map iV).toArray) F N ho (fun h' F' N' => kq h' F' ?_) (by rw [List.size_toArray, List.length_map]; exact Nat.le_trans hz (by decide +kernel))
  have e : (qs.map iV).toArray.push (.int x tx) = ((qs ++ [(x, tx)]).map iV).toArray := by simp [iV]
  rw [e] at N'
  exact N'
theorem plStep_other {q : PL} (e : n.kind ≠ 6) : plStep s o u d q n = ⟨q.fx + n.psz, q.fl, q.fo ++ [q.fx + n.psz + roundF (u * q.fl) d]⟩ := by
  cases n with
  | skip => simp [Nd.kind] at e
  | _ => rfl
theorem glue_up {P : Params} {h' : Heap} (I : GlueAt P h ga gw st so sk ko) (u : Up h h') : GlueAt P h' ga gw st so sk ko := let ⟨t1, t2, t3, t4, t5, I⟩ := I; ⟨t1, t2, t3, t4, t5, I.up u⟩
theorem places_c (R : Rm 6 A) (G : Gd w p loose mg mb g) (B : PkAt w.params g bx li wd hh dd s o u d) (hd : 0 < d) (hd2 : d < 2 ^ 29) (hu : bnd u) (hl : g.IsList li (vals ps).toArray) (HN : NS w.params g ps) (hz : ps.length ≤ 100)
    (kq : ∀ h' tk' fl, Up g h' → g.get? fl = none → IL h' fl (plF s o u d ps).fo → Q (.ref fl) ⟨h', gs, dr, tk', os⟩) : wpAny (model prog w) A (call (.ref 583) [.ref bx]) Q E ⟨g, gs, dr, tk, os⟩ := by
  refine call_fn (n := 5) (binds := [(Str.ofString "box", .ref bx)]) R G (by k_is) (by k_is) (by first | exact BindsTo.of_eq (by rfl) | exact binds_K G.x rfl (by k_is) rfl rfl rfl) (by rfl) (fun A L h tk R F N => ?_)
  obtain ⟨rt, t1, t2, t3, t4, t5, t6, t7, t8, t9, I, hr⟩ := B
  repeat (first
   | ((with_reducible show wpAny _ _ (getAttr _ (Str.ofString "kind") _) _ _ _); refine g_own (clsOk_ofA (ca_Box _) (fa_Box_kind _)) (G.x.keeps F.keep) (Inst.up I F.keep) (by rfl) ?_)
   | ((with_reducible show wpAny _ _ (getAttr _ (Str.ofString "items") _) _ _ _); refine g_own (clsOk_ofA (ca_Box _) (fa_Box_items _)) (G.x.keeps F.keep) (Inst.up I F.keep) (by rfl) ?_)
   | ((with_reducible show wpAny _ _ (eval (Expr.Name _ _) _) _ _ _); ((with_reducible refine n_VBOX F G ?_ ?hka ?hkb); (case hka => rfl); (case hkb => rfl)))
   | ((with_reducible show wpAny _ _ (eval (Expr.Call (Expr.Name (Str.ofString "check_column") _) _ _ _) _) _ _ _); refine e_call1 (kp_check_column _) (n_check_column F G ⟨rfl, ?_⟩ (by rfl) (by rfl)))
   | ((with_reducible show wpAny _ _ (call (Value.ref 534) _) _ _ _); (refine check_column_c (R.le (by decide)) (G.fr F) (hl.at fun o e => F.keep _ _ e) (HN.up F.keep) ?_; intro h tk u; replace F := Fr.up F u; replace N := News.up N u; clear u))
   | walk_at "mS")
  repeat (first
   | ((with_reducible show wpAny _ _ (assign (Expr.Tuple _ _ _) _ (Value.ref _)) _ _ _); (refine as_tup R.hd (N _ (.head _)).1 (by rfl) (by rfl) (fun h u => ?_); replace F := Fr.up F u; replace N := News.up N u; clear u))
   | walk_at "mS")
  replace N : News g L h [(l, lstOf ([((0 : Int), _)].map iV) 0)] := News.sub N fun q hq => .tail _ hq
  refine x_for g ?_
  repeat (first
   | ((with_reducible show wpAny _ _ (getAttr _ (Str.ofString "items") _) _ _ _); refine g_own (clsOk_ofA (ca_Box _) (fa_Box_items _)) (G.x.keeps F.keep) (Inst.up I F.keep) (by rfl) ?_)
   | walk_at "mS")
  refine for_list (fun i m' led' => ∃ (qs : List (Int × Tok)) (nn : Nat) (t1 t2 : Tok), led' = [(l, lstOf (qs.map iV) nn)] ∧ qs.map (·.1) = (plF s o u d (ps.take i)).fo ∧ m' (Str.ofString "box") = some (.ref bx) ∧ m' (Str.ofString "found") = some (.ref l) ∧ m' (Str.ofString "fixed") = some (.int (plF s o u d (ps.take i)).fx t1) ∧ m' (Str.ofString "flexed") = some (.int (plF s o u d (ps.take i)).fl t2)) R.hd hl F N ⟨_, _, _, _, rfl, rfl, (by rfl : lo _ _ _ = _), (by rfl : lo _ _ _ = _), (by rfl : lo _ _ _ = _), (by rfl : lo _ _ _ = _)⟩ (fun i m' led' z => by obtain ⟨qs, nn, t1, t2, rfl, _⟩ := z; rfl) ?_ ?_
  · clear N F
    rintro i v m₁ led₁ h tk own hv ⟨qs, nn, t1, t2, rfl, hq, m1, m2, m3, m4⟩ hown F N
    obtain ⟨a, n, e, rfl⟩ := vals_get hv
    have H := ns_get HN e
    have es := plF_take (s := s) (o := o) (u := u) (d := d) e
    have hil : i < ps.length := by have := List.getElem?_eq_some_iff.mp e; exact this.1
    generalize hS : plF s o u d (ps.take i) = S at *
    have hfo : S.fo.length = i + 1 := by rw [← hS, plF_len, List.length_take]; omega
    have hqs : qs.length ≤ 1000 := by have := congrArg List.length hq; simp at this; omega
    replace hown : ∀ q ∈ own, q.1 ≠ l := fun q hq e => hown q hq (e ▸ .head _)
    by_cases e6 : n.kind = 6
    · obtain ⟨gw, st, so, sk, ko, sort, lead, rfl⟩ := is_skip H e6
      obtain ⟨ga, tg, v, Is, Ig, Il⟩ := id H
      obtain ⟨u1, u2, u3, u4, u5, Iw⟩ := id Ig
      repeat (first
   | ((with_reducible show wpAny _ _ (getAttr _ (Str.ofString "kind") _) _ _ _); (first | refine g_own (clsOk_ofA (ca_Box _) (fa_Box_kind _)) (G.x.keeps F.keep) (Inst.up I F.keep) (by rfl) ?_ | (refine nd_kind (G.x.keeps F.keep) (NodeAt.up H F.keep) ?_; intro t)))
   | ((with_reducible show wpAny _ _ (eval (Expr.Call (Expr.Attribute _ (Str.ofString "append") _) _ _ _) _) _ _ _); (refine e_bmeth1 (id := "list.append") ?_))
   | ((with_reducible show wpAny _ _ (getMethod _ (Str.ofString "append") _) _ _ _); (refine getMethod_append_N N (.head _) ⟨rfl, ?_⟩))
   | ((with_reducible show wpAny _ _ (call (Value.builtin "list.append") _) _ _ _); (refine k_append F N hown ?_ hqs; clear F N; intro h F N))
   | ((with_reducible show wpAny _ _ (call (Value.ref 569) _) _ _ _); (refine set_part_c (R.le (by decide)) (G.fr F) (I.up F.keep) (F.keep _ _ hr) hd hd2 hu ?_; intro h tk t u; replace F := Fr.up F u; replace N := News.up N u; clear u))
   | ((with_reducible show wpAny _ _ (call (Value.ref 576) _) _ _ _); (refine part_size_c (R.le (by decide)) (G.fr F) (I.up F.keep) (NodeAt.up H F.keep) e6 ?_; intro h tk t u; replace F := Fr.up F u; replace N := News.up N u; clear u))
   | ((with_reducible show wpAny _ _ (call (Value.ref 562) _) _ _ _); (refine flex_c (R.le (by decide)) (G.fr F) (I.up F.keep) (glue_up Ig F.keep) ?_; intro h tk t r u hr; subst hr; replace F := Fr.up F u; replace N := News.up N u; clear u))
   | ((with_reducible show wpAny _ _ (getAttr _ (Str.ofString "sign") _) _ _ _); refine g_own (clsOk_ofA (ca_Box _) (fa_Box_sign _)) (G.x.keeps F.keep) (Inst.up I F.keep) (by rfl) ?_)
   | ((with_reducible show wpAny _ _ (getAttr _ (Str.ofString "glue") _) _ _ _); refine g_own (clsOk_ofA (ca_Skip _) (fa_Skip_glue _)) (G.x.keeps F.keep) (Inst.up Is F.keep) (by rfl) ?_)
   | ((with_reducible show wpAny _ _ (getAttr _ (Str.ofString "width") _) _ _ _); refine g_own (clsOk_ofA (ca_Glue _) (fa_Glue_width _)) (G.x.keeps F.keep) (Inst.up Iw F.keep) (by rfl) ?_)
   | ((with_reducible show wpAny _ _ (eval (Expr.Name _ _) _) _ _ _); ((with_reducible refine n_GLUE F G ?_ ?hka ?hkb); (case hka => rfl); (case hkb => rfl)))
   | ((with_reducible show wpAny _ _ (eval (Expr.Call (Expr.Name (Str.ofString "flex") _) _ _ _) _) _ _ _); refine e_call2 (kp_flex _) (n_flex F G ⟨rfl, ?_⟩ (by rfl) (by rfl)))
   | ((with_reducible show wpAny _ _ (eval (Expr.Call (Expr.Name (Str.ofString "set_part") _) _ _ _) _) _ _ _); refine e_call2 (kp_set_part _) (n_set_part F G ⟨rfl, ?_⟩ (by rfl) (by rfl)))
   | walk_at "mS")
      all_goals exact ⟨_, _, _, _, rfl, F, N, _, _, _, _, rfl, (by rw [es, List.map_append, hq]; rfl), m1, m2, (by rw [es]; rfl), (by rw [es]; rfl)⟩
    · repeat (first
   | ((with_reducible show wpAny _ _ (getAttr _ (Str.ofString "kind") _) _ _ _); (first | refine g_own (clsOk_ofA (ca_Box _) (fa_Box_kind _)) (G.x.keeps F.keep) (Inst.up I F.keep) (by rfl) ?_ | (refine nd_kind (G.x.keeps F.keep) (NodeAt.up H F.keep) ?_; intro t)))
   | ((with_reducible show wpAny _ _ (eval (Expr.Call (Expr.Attribute _ (Str.ofString "append") _) _ _ _) _) _ _ _); (refine e_bmeth1 (id := "list.append") ?_))
   | ((with_reducible show wpAny _ _ (getMethod _ (Str.ofString "append") _) _ _ _); (refine getMethod_append_N N (.head _) ⟨rfl, ?_⟩))
   | ((with_reducible show wpAny _ _ (call (Value.builtin "list.append") _) _ _ _); (refine k_append F N hown ?_ hqs; clear F N; intro h F N))
   | ((with_reducible show wpAny _ _ (call (Value.ref 569) _) _ _ _); (refine set_part_c (R.le (by decide)) (G.fr F) (I.up F.keep) (F.keep _ _ hr) hd hd2 hu ?_; intro h tk t u; replace F := Fr.up F u; replace N := News.up N u; clear u))
   | ((with_reducible show wpAny _ _ (call (Value.ref 576) _) _ _ _); (refine part_size_c (R.le (by decide)) (G.fr F) (I.up F.keep) (NodeAt.up H F.keep) e6 ?_; intro h tk t u; replace F := Fr.up F u; replace N := News.up N u; clear u))
   | ((with_reducible show wpAny _ _ (call (Value.ref 562) _) _ _ _); (refine flex_c (R.le (by decide)) (G.fr F) (I.up F.keep) (glue_up Ig F.keep) ?_; intro h tk t r u hr; subst hr; replace F := Fr.up F u; replace N := News.up N u; clear u))
   | ((with_reducible show wpAny _ _ (getAttr _ (Str.ofString "sign") _) _ _ _); refine g_own (clsOk_ofA (ca_Box _) (fa_Box_sign _)) (G.x.keeps F.keep) (Inst.up I F.keep) (by rfl) ?_)
   | ((with_reducible show wpAny _ _ (eval (Expr.Name _ _) _) _ _ _); ((with_reducible refine n_GLUE F G ?_ ?hka ?hkb); (case hka => rfl); (case hkb => rfl)))
   | ((with_reducible show wpAny _ _ (eval (Expr.Call (Expr.Name (Str.ofString "part_size") _) _ _ _) _) _ _ _); refine e_call2 (kp_part_size _) (n_part_size F G ⟨rfl, ?_⟩ (by rfl) (by rfl)))
   | ((with_reducible show wpAny _ _ (eval (Expr.Call (Expr.Name (Str.ofString "set_part") _) _ _ _) _) _ _ _); refine e_call2 (kp_set_part _) (n_set_part F G ⟨rfl, ?_⟩ (by rfl) (by rfl)))
   | walk_at "mS")
      all_goals rw [plStep_other (n := n) e6] at es
      all_goals exact ⟨_, _, _, _, rfl, F, N, _, _, _, _, rfl, (by rw [es, List.map_append, hq]; rfl), m1, m2, (by rw [es]; rfl), (by rw [es]; exact m4)⟩
  · rintro m' led' h tk ⟨qs, nn, t1, t2, rfl, hq, m1, m2, m3, m4⟩ F N
    show wpAny _ _ _ _ _ _
    have ep : ps.take (vals ps).length = ps := by simp [vals]
    rw [ep] at hq
    repeat (first
   | walk_at "mS")
    all_goals exact kq _ _ _ F.keep (N _ (.head _)).2.2 ⟨qs, hq, _, (N _ (.head _)).1, rfl, _, rfl⟩
end
end Mine
/-! Comp -/
namespace Mine
section
variable {prog : Program} {w : World} {A : Around} {E : Value → Shared → Prop} {h g : Heap} {gs : Array GenState} {dr : Drawn} {tk : Nat} {os : OsState} {L a : Addr} {m : Str → Option Value}
  {cn : Str} {cs : Scope} {ccd : Value} {cl : List (Str × Addr)} {p : Program} {loose : List Str} {mg mb : Str → Option Value} {Q : Value → Shared → Prop} {pos : Pos}
/-- a def with cells; what stands in the ledger led may be written -/
theorem call_fnC {n : Nat} {f : Addr} {oc : Value} {od an : Option Addr} {osl : Array (Option Value)} {name qual : Str} {params : Arguments} {body : List Stmt} {scope : Scope} {dV kV doc pm cdv ct : Value} {vals : List Value} {binds : List (Str × Value)}
    (R : Rm (n + 1) A) (G : Gd w p loose mg mb h) (gb : Heap) (Gb : Gd w p loose mg mb gb) (led : List (Addr × Obj)) (hl : ∀ q ∈ led, h.get? q.1 = some q.2) (hf : ∀ q ∈ led, gb.get? q.1 = none)
    (ho : (Mine.hd.heap_1_39 w.params).lookup f = some ⟨oc, od, .func (fnOf name qual params body scope dV kV doc pm an cdv ct), osl⟩) (hcd : codeIn (Mine.hd.heap_1_39 w.params) cdv qual = true)
    (hb : BindsTo ⟨h, gs, dr, tk, os⟩ (fnOf name qual params body scope dV kV doc pm an cdv ct) ⟨vals, []⟩ binds)
    (hkind : ∀ n, ∀ x ∈ binds, scope.names.lookup x.1 = some .local ∨ (scope.names.lookup x.1 = some .cell ∧ ((cellsFrom n scope.names []).lookup x.1).isSome = true))
    (hnd : ((cellsFrom 0 scope.names []).map (·.1)).Nodup)
    (k : ∀ A' g L h₁ tk₁ cells, Mine.Rm n A' → Fr g L h₁ (bindL (envOfC qual scope L f cdv).kindOf binds fun _ => none) → News g L h₁ (cells ++ led) → CellsAre (bindC (envOfC qual scope L f cdv).kindOf binds fun _ => none) (cellsFrom (L + 1) scope.names []) cells →
      Gd w p loose mg mb g → (∀ b o, h.get? b = some o → b ∉ led.map (·.1) → g.get? b = some o) → (∀ q ∈ led, q.1 < L) →
      wpAny (model prog w) A' (execs body (envX qual scope L f cdv (cellsFrom (L + 1) scope.names []))) (RetQ Q) (fun _ _ => False) ⟨h₁, gs, dr, tk₁, os⟩)
    (hco : scope.isCoroutine = false := by rfl) (hgen : scope.isGenerator = false := by rfl) (hk : scope.kind = .function := by rfl) :
    wpAny (model prog w) A (call (.ref f) vals) Q E ⟨h, gs, dr, tk, os⟩ := by
  have ns : ∀ {b : Addr} {mm : Str → Option Value}, gb.Ns b mm → b ∉ led.map (·.1) := fun ⟨o, es, ep, e, r⟩ hm => by
    obtain ⟨q, hq, rfl⟩ := List.mem_map.mp hm
    rw [hf q hq] at e; cases e
  have hK : ∀ q ∈ led, (Mine.hd.heap_1_39 w.params).lookup q.1 = none := fun q hq => by
    cases e : (Mine.hd.heap_1_39 w.params).lookup q.1 with
    | none => rfl
    | some o => have := Gb.x _ _ e; rw [hf q hq] at this; cases this
  refine wpAny_call (codeAny_call_function R.lt (G.x _ _ ho) rfl hco hgen rfl (codeRec_of G.x hcd) (hb _ _ _ _ ?_))
  refine wpAny_newFunctionEnv_cells hk (hkind _) fun env' he s' x => ?_
  subst he
  refine ⟨G.t.nolimit.keeps x.toInCall.keep, codeAny_func ?_⟩
  obtain ⟨h₁, tk', rfl, _⟩ := x.done
  have hk₁ := x.toInCall.keep
  obtain ⟨cells, NC, Y⟩ := Cl.news (h₀ := h) (Nat.le_refl _) fun n c hm => ⟨x.cell n c (lookup_of_mem_nodup (cellsFrom_names scope.names 0 (h.objs.size + 1) [] [] rfl ▸ hnd) hm), x.above n c hm⟩
  have st : ∀ b o, h.get? b = some o → b ∉ led.map (·.1) → (hideAll h (led.map (·.1))).get? b = some o := fun b o e nb => hideAll_get _ e nb
  have GX : (Mine.hd.heap_1_39 w.params).In (hideAll h (led.map (·.1))) := fun b o e => st b o (G.x b o e) fun hm => by
    obtain ⟨q, hq, rfl⟩ := List.mem_map.mp hm
    rw [hK q hq] at e; cases e
  have nsAt : ∀ {N : Addr} {mm : Str → Option Value}, N ∉ led.map (·.1) → h.Ns N mm → (hideAll h (led.map (·.1))).Ns N mm := fun hn ⟨o, es, ep, e, r⟩ => ⟨o, es, ep, st _ _ e hn, r⟩
  have GT : TopRead p loose mg mb (hideAll h (led.map (·.1))) := ⟨nsAt (ns Gb.t.g) G.t.g, nsAt (ns Gb.t.b) G.t.b, (let ⟨mc, a, b⟩ := G.t.nolimit; let ⟨mc', a', b'⟩ := Gb.t.nolimit; ⟨mc, nsAt (ns a') a, b⟩), G.t.builtins, G.t.free⟩
  refine wpAny_mono (k _ (hideAll h (led.map (·.1))) h.objs.size h₁ tk' cells (Rm.deeper R _) ⟨x.toInCall.ns, fun b o e => hk₁ b o (of_hideAll _ e), Nat.le_of_eq (hideAll_size _ _)⟩ (fun p hp => ?_) Y ⟨GX, GT⟩ st (fun p hp => Heap.lt_size (hl p hp))) (fun fl s' z => ?_) fun _ _ y => y.elim
  · rcases List.mem_append.mp hp with hp | hp
    · refine ⟨(NC p hp).1, (NC p hp).2.1, ?_⟩
      cases q : (hideAll h (led.map (·.1))).get? p.1 with
      | none => rfl
      | some o => have := of_hideAll _ q; rw [(NC p hp).2.2] at this; cases this
    · exact ⟨hk₁ _ _ (hl p hp), Nat.ne_of_lt (Heap.lt_size (hl p hp)), hideAll_none _ (List.mem_map_of_mem hp)⟩
  · cases fl <;> exact z
end
end Mine
/-! Comp2 -/
namespace Mine
open LCg
section
variable {prog : Program} {w : World} {A : Around} {E : Value → Shared → Prop} {s : Shared} {h g : Heap} {gs : Array GenState} {dr : Drawn} {tk : Nat} {os : OsState} {L a C c : Addr} {m m₂ : Str → Option Value}
  {cn : Str} {cs scope : Scope} {ccd : Value} {cl : List (Str × Addr)} {led : List (Addr × Obj)} {env : Env} {p : Program} {loose : List Str} {mg mb : Str → Option Value} {Q : Value → Shared → Prop} {pos : Pos} {x : Str} {v : Value} {o : Obj}
/-! names inside a comprehension -/
theorem c_loc (hn : h.Ns C m₂) (hv : m₂ x = some v) (kq : Q v ⟨h, gs, dr, tk, os⟩) (hk : (compEnvC scope cl C env).scope.kind = .function := by rfl) (hx : (compEnvC scope cl C env).kindOf x = some .local := by rfl) (hd : (x == ("__debug__" : Str)) = false := by decide) :
    wpAny (model prog w) A (eval (.Name x pos) (compEnvC scope cl C env)) Q E ⟨h, gs, dr, tk, os⟩ := wpAny_Name (wpAny_loadName_local hk hx hn hv kq) hd
theorem c_cell (N : News g L h led) (hc : cl.lookup x = some c) (hm : (c, o) ∈ led) (hd : o.data = .cell (some v)) (kq : Q v ⟨h, gs, dr, tk, os⟩) (hk : (compEnvC scope cl C env).scope.kind = .function := by rfl) (hx : (compEnvC scope cl C env).kindOf x = some .cell := by rfl) (hb : (x == ("__debug__" : Str)) = false := by decide) :
    wpAny (model prog w) A (eval (.Name x pos) (compEnvC scope cl C env)) Q E ⟨h, gs, dr, tk, os⟩ := wpAny_Name (wpAny_loadName_cell hk hx hc ⟨o, (N _ hm).1, hd⟩ kq) hb
theorem c_glob (F : Fr g L h m) (G : Gd w p loose mg mb g) (e : nsIn (Mine.hd.heap_1_39 w.params) mainGlobals x = some (some v)) (kq : Q v ⟨h, gs, dr, tk, os⟩)
    (hk : (compEnvC scope cl C (envX cn cs L a ccd cl)).scope.kind = .function := by rfl) (hx : (compEnvC scope cl C (envX cn cs L a ccd cl)).kindOf x = some .globalImplicit := by rfl) (hd : (x == ("__debug__" : Str)) = false := by decide) :
    wpAny (model prog w) A (eval (.Name x pos) (compEnvC scope cl C (envX cn cs L a ccd cl))) Q E ⟨h, gs, dr, tk, os⟩ :=
  Name_function_global hk hx (loadGlobal_global (env := compEnvC scope cl C (envX cn cs L a ccd cl)) (G.t.g.keeps F.keep) (mg_of G.x G.t.g e) kq) hd

/-- what one element leaves -/
noncomputable def EltE (g : Heap) (L : Addr) (m : Str → Option Value) (gs : Array GenState) (dr : Drawn) (os : OsState) (I C D : Addr) (oI oC oD : Obj) (J : List Value → List (Addr × Obj) → Prop) (ys : List Value) (y : Value) (s' : Shared) : Prop :=
  ∃ h' tk' led', s' = ⟨h', gs, dr, tk', os⟩ ∧ Fr g L h' m ∧ News g L h' ((I, oI) :: (C, oC) :: (D, oD) :: led') ∧ Off3 I C D led' ∧ J (ys ++ [y]) led'
theorem compRest_of {elt : Expr} {S : List (Addr × Obj) → Prop} {P : Nat → Value → Prop} {Fin : List Value → List (Addr × Obj) → Prop} {n : Nat} (J : Nat → List Value → List (Addr × Obj) → Prop) (h0 : Heap)
    (hS : ∀ i ys led, J i ys led → S led)
    (turn : ∀ i v ys led I oI C oC D m₂ h tk (E' : Value → Shared → Prop), i < n → P i v → J i ys led → NsObj oC m₂ → m₂ x = some v → Fr g L h m → News g L h ((I, oI) :: (C, oC) :: (D, lst ys) :: led) → Off3 I C D led → I ≠ C → I ≠ D → C ≠ D →
      wpAny (model prog w) A (eval elt (compEnvC scope cl C env)) (EltE g L m gs dr os I C D oI oC (lst ys) (J (i + 1)) ys) E' ⟨h, gs, dr, tk, os⟩)
    (fin : ∀ ys led, J n ys led → Fin ys led) :
    ∀ k i ys led, i + k = n → J i ys led → CompRest prog w A g L m env elt x scope cl ⟨h0, gs, dr, tk, os⟩ S P Fin k i ys led
  | 0, i, ys, led, e, j => fin ys led ((show i = n by omega) ▸ j)
  | k + 1, i, ys, led, e, j => by
    intro v I oI C oC D m₂ h tk' E' hP hC hv F N off ne
    refine wpAny_mono (turn i v ys led I oI C oC D m₂ h tk' E' (by omega) hP j hC hv F N off ne.1 ne.2.1 ne.2.2) (fun y s' z => ?_) fun _ _ z => z
    obtain ⟨h', tk'', led', rfl, F', N', off', j'⟩ := z
    exact ⟨h', tk'', led', rfl, F', N', off', hS _ _ _ j', compRest_of J h0 hS turn fin k (i + 1) _ _ (by omega) j'⟩
/-- a comprehension over a list, without a test -/
theorem e_comp {elt iter : Expr} {px : Pos} {ax : Addr} {its : List Value} (J : Nat → List Value → List (Addr × Obj) → Prop) (hh : A.handled = none) (F₀ : Fr g L h m)
    (hsrc : wpAny (model prog w) A (eval iter env) (fun xv s₁ => ∃ h₁ tk₁ led, s₁ = ⟨h₁, gs, dr, tk₁, os⟩ ∧ xv = .ref ax ∧ Fr g L h₁ m ∧ News g L h₁ led ∧ J 0 [] led) E ⟨h, gs, dr, tk, os⟩)
    (hS : ∀ i ys led, J i ys led → SrcAt g ax its.toArray led) (hz : its.length ≤ 1000)
    (turn : ∀ i v ys led I oI C oC D m₂ h tk (E' : Value → Shared → Prop), its[i]? = some v → J i ys led → NsObj oC m₂ → m₂ x = some v → Fr g L h m → News g L h ((I, oI) :: (C, oC) :: (D, lst ys) :: led) → Off3 I C D led → I ≠ C → I ≠ D → C ≠ D →
      wpAny (model prog w) A (eval elt (compEnvC scope cl C env)) (EltE g L m gs dr os I C D oI oC (lst ys) (J (i + 1)) ys) E' ⟨h, gs, dr, tk, os⟩)
    (fin : ∀ D h tk ys led, J its.length ys led → Fr g L h m → News g L h ((D, lst ys) :: led) → Q (.ref D) ⟨h, gs, dr, tk, os⟩)
    (hclos : closureFor scope env = pure cl) (hcell : ∀ y ∈ scope.names, y.2 ≠ .cell) (hkind : scope.kind = .function)
    (hnames : ∀ y ∈ scope.names, y.2 = .local → scope.names.lookup y.1 = some .local) (hx : scope.names.lookup x = some .local)
    (hs : ∀ x, foldedSetIterable iter env x = pure x := by intro _; rfl) :
    wpAny (model prog w) A (eval (.ListComp elt [⟨.Name x px, iter, [], 0⟩] scope pos) env) Q E ⟨h, gs, dr, tk, os⟩ := by
  refine ListComp_U (s := ⟨h, gs, dr, tk, os⟩) F₀ hclos hcell hkind hnames hx (wpAny_mono hsrc (fun xv s₁ z => ?_) fun _ _ z => z) hs
  obtain ⟨h₁, tk₁, led, rfl, rfl, F, N, j⟩ := z
  refine .inl ⟨ax, its.toArray, led, rfl, hh, F, N, hS _ _ _ j, by rw [List.size_toArray]; exact Nat.le_trans hz (by decide +kernel), fun s₂ e => ?_⟩
  obtain ⟨h2, rfl⟩ := e
  exact compRest_of (n := its.toArray.size) J h2 hS (fun i v ys led I oI C oC D m₂ h tk E' _ hP => turn i v ys led I oI C oC D m₂ h tk E' (by simpa using hP)) (fun ys led j D h tk F N _ => fin D h tk ys led (by simpa using j) F N) _ 0 [] led (by simp) j
end
end Mine
/-! Comp3 -/
namespace Mine
open LCg LCt
section
variable {prog : Program} {w : World} {A : Around} {E : Value → Shared → Prop} {s : Shared} {h g : Heap} {gs : Array GenState} {dr : Drawn} {tk : Nat} {os : OsState} {L a C c : Addr} {m m₂ : Str → Option Value}
  {cn : Str} {cs scope : Scope} {ccd : Value} {cl : List (Str × Addr)} {led : List (Addr × Obj)} {env : Env} {p : Program} {loose : List Str} {mg mb : Str → Option Value} {Q : Value → Shared → Prop} {pos : Pos} {x : Str} {v : Value} {o : Obj}
theorem tup_st {ax I : Addr} {vs : List Value} : ∀ i (h h' : Heap) (o : Obj) (nw : List (Addr × Obj)), (h.IsTupleIter I ax i ∧ h.IsTuple ax vs.toArray) → h.get? I = some o → h'.get? I = some o → (∀ b o, g.get? b = some o → h'.get? b = some o) →
    News g L h' nw → (ax, tupOf vs) ∈ nw → (h'.IsTupleIter I ax i ∧ h'.IsTuple ax vs.toArray) :=
  fun i h h' o nw st e e' k N S => ⟨by obtain ⟨o', q, r⟩ := st.1; rw [e] at q; cases q; exact ⟨o, e', r⟩, ⟨_, (N _ S).1, rfl, 0, rfl⟩⟩
/-- a comprehension over a tuple of the ledger's, without a test -/
theorem e_compTup {elt iter : Expr} {px : Pos} {vs : List Value} (J : Addr → Nat → List Value → List (Addr × Obj) → Prop) (hh : A.handled = none) (F₀ : Fr g L h m)
    (hsrc : wpAny (model prog w) A (eval iter env) (fun xv s₁ => ∃ h₁ tk₁ led ax, s₁ = ⟨h₁, gs, dr, tk₁, os⟩ ∧ xv = .ref ax ∧ Fr g L h₁ m ∧ News g L h₁ led ∧ J ax 0 [] led) E ⟨h, gs, dr, tk, os⟩)
    (hS : ∀ ax i ys led, J ax i ys led → (ax, tupOf vs) ∈ led) (hz : vs.length ≤ 1000)
    (turn : ∀ ax i v ys led I oI C oC D m₂ h tk (E' : Value → Shared → Prop), vs[i]? = some v → J ax i ys led → NsObj oC m₂ → m₂ x = some v → Fr g L h m → News g L h ((I, oI) :: (C, oC) :: (D, lst ys) :: led) → Off3 I C D led → I ≠ C → I ≠ D → C ≠ D →
      wpAny (model prog w) A (eval elt (compEnvC scope cl C env)) (EltE g L m gs dr os I C D oI oC (lst ys) (J ax (i + 1)) ys) E' ⟨h, gs, dr, tk, os⟩)
    (fin : ∀ ax D h tk ys led, J ax vs.length ys led → Fr g L h m → News g L h ((D, lst ys) :: led) → Q (.ref D) ⟨h, gs, dr, tk, os⟩)
    (hclos : closureFor scope env = pure cl) (hcell : ∀ y ∈ scope.names, y.2 ≠ .cell) (hkind : scope.kind = .function)
    (hnames : ∀ y ∈ scope.names, y.2 = .local → scope.names.lookup y.1 = some .local) (hx : scope.names.lookup x = some .local)
    (hs : ∀ x, foldedSetIterable iter env x = pure x := by intro _; rfl) :
    wpAny (model prog w) A (eval (.ListComp elt [⟨.Name x px, iter, [], 0⟩] scope pos) env) Q E ⟨h, gs, dr, tk, os⟩ := by
  rw [eval_ListComp]
  refine wpAny_comprehension_free (use := none) rfl hs hclos hkind hnames (wpAny_mono hsrc (fun xv s₁ z => ?_) fun _ _ e => e)
  obtain ⟨h₁, tk₁, led, ax, rfl, rfl, F, N, j⟩ := z
  have hm := (N _ (hS _ _ _ _ j)).1
  have ht : h₁.IsTuple ax vs.toArray := ⟨_, hm, rfl, 0, rfl⟩
  have hlt : ax < h₁.objs.size := Heap.lt_size hm
  refine wpAny_pyIter_tuple (s := ⟨h₁, gs, dr, tk₁, os⟩) ht ?_
  refine block_U (S := fun led => (ax, tupOf vs) ∈ led) (Fin := fun ys led => J ax vs.length ys led) (Walks.tuple hh h₁.objs.size ax (Nat.ne_of_lt hlt) vs.toArray) (by rw [List.size_toArray]; exact Nat.le_trans hz (by decide +kernel)) (fun i h st => by obtain ⟨o, e, _⟩ := st.1; exact ⟨o, e⟩) tup_st hcell hkind hx
    ⟨⟨_, Heap.get?_push_size _ rfl, rfl, rfl⟩, ⟨_, Heap.get?_push_of_some _ hm, rfl, 0, rfl⟩⟩ (fun b hb => ?_)
    (F.keeps fun _ _ e => Heap.get?_push_of_some _ e) (N.grown fun _ _ e => Heap.get?_push_of_some _ e) (Nat.ne_of_lt F.ns.lt) (next_is_new F) (fun p hp => Nat.ne_of_lt (Heap.lt_size (N p hp).1)) (hS _ _ _ _ j)
    (compRest_of (n := vs.toArray.size) (J ax) _ (fun i ys led => hS ax i ys led) (fun i v ys led I oI C oC D m₂ h tk E' _ hP => turn ax i v ys led I oI C oC D m₂ h tk E' (by simpa using hP)) (fun ys led j => by simpa using j) _ 0 [] led (by simp) j) ?_
  · show b < (h₁.push _).objs.size
    rw [Heap.size_push]
    rcases List.mem_cons.mp hb with rfl | hb
    · exact Nat.lt_succ_self _
    · rw [List.mem_singleton.mp hb]; exact Nat.lt_succ_of_lt hlt
  · intro D C h tk m' ys news' F' N' o1 hn hC₀ hD₀ hCL hDL hCD offC jf
    refine ⟨m', hn, fun h'' hs'' => fin ax D h'' tk ys news' jf (F'.change hs'' hCL hC₀) (fun p hp => ?_)⟩
    refine ⟨hs''.extBut _ _ ?_ (N' p hp).1, (N' p hp).2⟩
    rcases List.mem_cons.mp hp with rfl | hp
    · exact Ne.symm hCD
    · exact offC p hp
/-- a comprehension over a list that the source makes -/
theorem e_compL {elt iter : Expr} {px : Pos} (J : Addr → List Value → Nat → List Value → List (Addr × Obj) → Prop) (hh : A.handled = none) (F₀ : Fr g L h m)
    (hsrc : wpAny (model prog w) A (eval iter env) (fun xv s₁ => ∃ h₁ tk₁ led ax its, s₁ = ⟨h₁, gs, dr, tk₁, os⟩ ∧ xv = .ref ax ∧ its.length ≤ 1000 ∧ Fr g L h₁ m ∧ News g L h₁ led ∧ J ax its 0 [] led) E ⟨h, gs, dr, tk, os⟩)
    (hS : ∀ ax its i ys led, J ax its i ys led → SrcAt g ax its.toArray led)
    (turn : ∀ ax its i v ys led I oI C oC D m₂ h tk (E' : Value → Shared → Prop), its[i]? = some v → J ax its i ys led → NsObj oC m₂ → m₂ x = some v → Fr g L h m → News g L h ((I, oI) :: (C, oC) :: (D, lst ys) :: led) → Off3 I C D led → I ≠ C → I ≠ D → C ≠ D →
      wpAny (model prog w) A (eval elt (compEnvC scope cl C env)) (EltE g L m gs dr os I C D oI oC (lst ys) (J ax its (i + 1)) ys) E' ⟨h, gs, dr, tk, os⟩)
    (fin : ∀ ax its D h tk ys led, J ax its its.length ys led → Fr g L h m → News g L h ((D, lst ys) :: led) → Q (.ref D) ⟨h, gs, dr, tk, os⟩)
    (hclos : closureFor scope env = pure cl) (hcell : ∀ y ∈ scope.names, y.2 ≠ .cell) (hkind : scope.kind = .function)
    (hnames : ∀ y ∈ scope.names, y.2 = .local → scope.names.lookup y.1 = some .local) (hx : scope.names.lookup x = some .local)
    (hs : ∀ x, foldedSetIterable iter env x = pure x := by intro _; rfl) :
    wpAny (model prog w) A (eval (.ListComp elt [⟨.Name x px, iter, [], 0⟩] scope pos) env) Q E ⟨h, gs, dr, tk, os⟩ := by
  refine ListComp_U (s := ⟨h, gs, dr, tk, os⟩) F₀ hclos hcell hkind hnames hx (wpAny_mono hsrc (fun xv s₁ z => ?_) fun _ _ z => z) hs
  obtain ⟨h₁, tk₁, led, ax, its, rfl, rfl, hz, F, N, j⟩ := z
  refine .inl ⟨ax, its.toArray, led, rfl, hh, F, N, hS _ _ _ _ _ j, by rw [List.size_toArray]; exact Nat.le_trans hz (by decide +kernel), fun s₂ e => ?_⟩
  obtain ⟨h2, rfl⟩ := e
  exact compRest_of (n := its.toArray.size) (J ax its) h2 (hS ax its) (fun i v ys led I oI C oC D m₂ h tk E' _ hP => turn ax its i v ys led I oI C oC D m₂ h tk E' (by simpa using hP)) (fun ys led j D h tk F N _ => fin ax its D h tk ys led (by simpa using j) F N) _ 0 [] led (by simp) j
/-- an element that a test has left out -/
noncomputable def EltN (g : Heap) (L : Addr) (m : Str → Option Value) (gs : Array GenState) (dr : Drawn) (os : OsState) (I C D : Addr) (oI oC oD : Obj) (J : List Value → List (Addr × Obj) → Prop) (ys : List Value) (s' : Shared) : Prop :=
  ∃ h' tk' led', s' = ⟨h', gs, dr, tk', os⟩ ∧ Fr g L h' m ∧ News g L h' ((I, oI) :: (C, oC) :: (D, oD) :: led') ∧ Off3 I C D led' ∧ J ys led'
noncomputable def EltT (prog : Program) (w : World) (A : Around) (g : Heap) (L : Addr) (m : Str → Option Value) (gs : Array GenState) (dr : Drawn) (os : OsState) (elt : Expr) (cenv : Env) (I C D : Addr) (oI oC : Obj) (J : List Value → List (Addr × Obj) → Prop) (ys : List Value) (E' : Value → Shared → Prop) : Bool → Shared → Prop := fun ok s' =>
  Br ok (wpAny (model prog w) A (eval elt cenv) (EltE g L m gs dr os I C D oI oC (lst ys) J ys) E' s') (EltN g L m gs dr os I C D oI oC (lst ys) J ys s')
theorem compRestT_of {ct elt : Expr} {S : List (Addr × Obj) → Prop} {P : Nat → Value → Prop} {Fin : List Value → List (Addr × Obj) → Prop} {n : Nat} (J : Nat → List Value → List (Addr × Obj) → Prop) (h0 : Heap)
    (hS : ∀ i ys led, J i ys led → S led)
    (turn : ∀ i v ys led I oI C oC D m₂ h tk (E' : Value → Shared → Prop), i < n → P i v → J i ys led → NsObj oC m₂ → m₂ x = some v → Fr g L h m → News g L h ((I, oI) :: (C, oC) :: (D, lst ys) :: led) → Off3 I C D led → I ≠ C → I ≠ D → C ≠ D →
      wpAny (model prog w) A (isTrue ct (compEnvC scope cl C env) (eval ct (compEnvC scope cl C env))) (EltT prog w A g L m gs dr os elt (compEnvC scope cl C env) I C D oI oC (J (i + 1)) ys E') E' ⟨h, gs, dr, tk, os⟩)
    (fin : ∀ ys led, J n ys led → Fin ys led) :
    ∀ k i ys led, i + k = n → J i ys led → CompRestT prog w A g L m env ct elt x scope cl ⟨h0, gs, dr, tk, os⟩ S P Fin k i ys led
  | 0, i, ys, led, e, j => fin ys led ((show i = n by omega) ▸ j)
  | k + 1, i, ys, led, e, j => by
    intro v I oI C oC D m₂ h tk' E' hP hC hv F N off ne
    refine wpAny_mono (turn i v ys led I oI C oC D m₂ h tk' E' (by omega) hP j hC hv F N off ne.1 ne.2.1 ne.2.2) (fun ok s' z => ?_) fun _ _ z => z
    cases ok with
    | true =>
      simp only [if_true]
      refine wpAny_mono (z.1 rfl) (fun y s' z => ?_) fun _ _ z => z
      obtain ⟨h', tk'', led', rfl, F', N', off', j'⟩ := z
      exact ⟨h', tk'', led', rfl, F', N', off', hS _ _ _ j', compRestT_of J h0 hS turn fin k (i + 1) _ _ (by omega) j'⟩
    | false =>
      simp only [Bool.false_eq_true, if_false]
      obtain ⟨h', tk'', led', rfl, F', N', off', j'⟩ := z.2 rfl
      exact ⟨h', tk'', led', rfl, F', N', off', hS _ _ _ j', compRestT_of J h0 hS turn fin k (i + 1) _ _ (by omega) j'⟩
/-- a comprehension over a tuple of the ledger's, with a test -/
theorem e_compTupT {ct elt iter : Expr} {px : Pos} {vs : List Value} (J : Addr → Nat → List Value → List (Addr × Obj) → Prop) (hh : A.handled = none) (F₀ : Fr g L h m)
    (hsrc : wpAny (model prog w) A (eval iter env) (fun xv s₁ => ∃ h₁ tk₁ led ax, s₁ = ⟨h₁, gs, dr, tk₁, os⟩ ∧ xv = .ref ax ∧ Fr g L h₁ m ∧ News g L h₁ led ∧ J ax 0 [] led) E ⟨h, gs, dr, tk, os⟩)
    (hS : ∀ ax i ys led, J ax i ys led → (ax, tupOf vs) ∈ led) (hz : vs.length ≤ 1000)
    (turn : ∀ ax i v ys led I oI C oC D m₂ h tk (E' : Value → Shared → Prop), vs[i]? = some v → J ax i ys led → NsObj oC m₂ → m₂ x = some v → Fr g L h m → News g L h ((I, oI) :: (C, oC) :: (D, lst ys) :: led) → Off3 I C D led → I ≠ C → I ≠ D → C ≠ D →
      wpAny (model prog w) A (isTrue ct (compEnvC scope cl C env) (eval ct (compEnvC scope cl C env))) (EltT prog w A g L m gs dr os elt (compEnvC scope cl C env) I C D oI oC (J ax (i + 1)) ys E') E' ⟨h, gs, dr, tk, os⟩)
    (fin : ∀ ax D h tk ys led, J ax vs.length ys led → Fr g L h m → News g L h ((D, lst ys) :: led) → Q (.ref D) ⟨h, gs, dr, tk, os⟩)
    (hclos : closureFor scope env = pure cl) (hcell : ∀ y ∈ scope.names, y.2 ≠ .cell) (hkind : scope.kind = .function)
    (hnames : ∀ y ∈ scope.names, y.2 = .local → scope.names.lookup y.1 = some .local) (hx : scope.names.lookup x = some .local)
    (hs : ∀ x, foldedSetIterable iter env x = pure x := by intro _; rfl) :
    wpAny (model prog w) A (eval (.ListComp elt [⟨.Name x px, iter, [ct], 0⟩] scope pos) env) Q E ⟨h, gs, dr, tk, os⟩ := by
  rw [eval_ListComp]
  refine wpAny_comprehension_free (use := none) rfl hs hclos hkind hnames (wpAny_mono hsrc (fun xv s₁ z => ?_) fun _ _ e => e)
  obtain ⟨h₁, tk₁, led, ax, rfl, rfl, F, N, j⟩ := z
  have hm := (N _ (hS _ _ _ _ j)).1
  have ht : h₁.IsTuple ax vs.toArray := ⟨_, hm, rfl, 0, rfl⟩
  have hlt : ax < h₁.objs.size := Heap.lt_size hm
  refine wpAny_pyIter_tuple (s := ⟨h₁, gs, dr, tk₁, os⟩) ht ?_
  refine block_T (S := fun led => (ax, tupOf vs) ∈ led) (Fin := fun ys led => J ax vs.length ys led) (Walks.tuple hh h₁.objs.size ax (Nat.ne_of_lt hlt) vs.toArray) (by rw [List.size_toArray]; exact Nat.le_trans hz (by decide +kernel)) (fun i h st => by obtain ⟨o, e, _⟩ := st.1; exact ⟨o, e⟩) tup_st hcell hkind hx
    ⟨⟨_, Heap.get?_push_size _ rfl, rfl, rfl⟩, ⟨_, Heap.get?_push_of_some _ hm, rfl, 0, rfl⟩⟩ (fun b hb => ?_)
    (F.keeps fun _ _ e => Heap.get?_push_of_some _ e) (N.grown fun _ _ e => Heap.get?_push_of_some _ e) (Nat.ne_of_lt F.ns.lt) (next_is_new F) (fun p hp => Nat.ne_of_lt (Heap.lt_size (N p hp).1)) (hS _ _ _ _ j)
    (compRestT_of (n := vs.toArray.size) (J ax) _ (fun i ys led => hS ax i ys led) (fun i v ys led I oI C oC D m₂ h tk E' _ hP => turn ax i v ys led I oI C oC D m₂ h tk E' (by simpa using hP)) (fun ys led j => by simpa using j) _ 0 [] led (by simp) j) ?_
  · show b < (h₁.push _).objs.size
    rw [Heap.size_push]
    rcases List.mem_cons.mp hb with rfl | hb
    · exact Nat.lt_succ_self _
    · rw [List.mem_singleton.mp hb]; exact Nat.lt_succ_of_lt hlt
  · intro D C h tk m' ys news' F' N' o1 hn hC₀ hD₀ hCL hDL hCD offC jf
    refine ⟨m', hn, fun h'' hs'' => fin ax D h'' tk ys news' jf (F'.change hs'' hCL hC₀) (fun p hp => ?_)⟩
    refine ⟨hs''.extBut _ _ ?_ (N' p hp).1, (N' p hp).2⟩
    rcases List.mem_cons.mp hp with rfl | hp
    · exact Ne.symm hCD
    · exact offC p hp
/-- a comprehension over a list, with a test -/
theorem e_compT {ct elt iter : Expr} {px : Pos} {its : List Value} (J : Addr → Nat → List Value → List (Addr × Obj) → Prop) (hh : A.handled = none) (F₀ : Fr g L h m)
    (hsrc : wpAny (model prog w) A (eval iter env) (fun xv s₁ => ∃ h₁ tk₁ led ax, s₁ = ⟨h₁, gs, dr, tk₁, os⟩ ∧ xv = .ref ax ∧ Fr g L h₁ m ∧ News g L h₁ led ∧ J ax 0 [] led) E ⟨h, gs, dr, tk, os⟩)
    (hS : ∀ ax i ys led, J ax i ys led → SrcAt g ax its.toArray led) (hz : its.length ≤ 1000)
    (turn : ∀ ax i v ys led I oI C oC D m₂ h tk (E' : Value → Shared → Prop), its[i]? = some v → J ax i ys led → NsObj oC m₂ → m₂ x = some v → Fr g L h m → News g L h ((I, oI) :: (C, oC) :: (D, lst ys) :: led) → Off3 I C D led → I ≠ C → I ≠ D → C ≠ D →
      wpAny (model prog w) A (isTrue ct (compEnvC scope cl C env) (eval ct (compEnvC scope cl C env))) (EltT prog w A g L m gs dr os elt (compEnvC scope cl C env) I C D oI oC (J ax (i + 1)) ys E') E' ⟨h, gs, dr, tk, os⟩)
    (fin : ∀ ax D h tk ys led, J ax its.length ys led → Fr g L h m → News g L h ((D, lst ys) :: led) → Q (.ref D) ⟨h, gs, dr, tk, os⟩)
    (hclos : closureFor scope env = pure cl) (hcell : ∀ y ∈ scope.names, y.2 ≠ .cell) (hkind : scope.kind = .function)
    (hnames : ∀ y ∈ scope.names, y.2 = .local → scope.names.lookup y.1 = some .local) (hx : scope.names.lookup x = some .local)
    (hs : ∀ x, foldedSetIterable iter env x = pure x := by intro _; rfl) :
    wpAny (model prog w) A (eval (.ListComp elt [⟨.Name x px, iter, [ct], 0⟩] scope pos) env) Q E ⟨h, gs, dr, tk, os⟩ := by
  refine ListComp_T (s := ⟨h, gs, dr, tk, os⟩) F₀ hclos hcell hkind hnames hx (wpAny_mono hsrc (fun xv s₁ z => ?_) fun _ _ z => z) hs
  obtain ⟨h₁, tk₁, led, ax, rfl, rfl, F, N, j⟩ := z
  refine .inl ⟨ax, its.toArray, led, rfl, hh, F, N, hS _ _ _ _ j, by rw [List.size_toArray]; exact Nat.le_trans hz (by decide +kernel), fun s₂ e => ?_⟩
  obtain ⟨h2, rfl⟩ := e
  exact compRestT_of (n := its.toArray.size) (J ax) h2 (hS ax) (fun i v ys led I oI C oC D m₂ h tk E' _ hP => turn ax i v ys led I oI C oC D m₂ h tk E' (by simpa using hP)) (fun ys led j D h tk F N _ => fin ax D h tk ys led (by simpa using j) F N) _ 0 [] led (by simp) j
end
end Mine
/-! Fn7 -/
namespace Mine
section
variable {prog : Program} {w : World} {A : Around} {E : Value → Shared → Prop} {h g : Heap} {gs : Array GenState} {dr : Drawn} {tk : Nat} {os : OsState} {L a : Addr} {m : Str → Option Value}
  {cn : Str} {cs : Scope} {ccd : Value} {cl : List (Str × Addr)} {p : Program} {loose : List Str} {mg mb : Str → Option Value} {Q : Value → Shared → Prop} {pos : Pos}

variable {i j x b wd hh dd s o u d gw st so sk ko : Int} {ti tj tx tb tl th td : Tok} {n : Nd} {l bx ga : Addr} {ps : List (Addr × Nd)}
theorem Rd.mono {k : Nat} {v : Value} {D : PT} (H : Rd h k v D) : Rd h (k + 1) v D := by
  induction H with
  | i => exact .i
  | t e hl _ ih => exact .t e hl ih
theorem rd_nil {k : Nat} {t : Addr} (e : h.get? t = some (tupOf [])) : Rd h (k + 1) (.ref t) (.t []) := .t e rfl fun j v d hv => by simp at hv
noncomputable def RdL (h : Heap) (k : Nat) : List Value → List PT → Prop
  | [], [] => True
  | v :: vs, d :: ds => Rd h k v d ∧ RdL h k vs ds
  | _, _ => False
theorem RdL.get {k : Nat} : ∀ {vs : List Value} {ds : List PT}, RdL h k vs ds → vs.length = ds.length ∧ ∀ (j : Nat) (v : Value) (d : PT), vs[j]? = some v → ds[j]? = some d → Rd h k v d
  | [], [], _ => ⟨rfl, fun j v d hv => by simp at hv⟩
  | v :: vs, d :: ds, H => ⟨by simp [(RdL.get H.2).1], fun j v' d' hv hd => by
      cases j with
      | zero => simp at hv hd; subst hv; subst hd; exact H.1
      | succ j => exact (RdL.get H.2).2 j v' d' (by simpa using hv) (by simpa using hd)⟩
theorem rd_t {k : Nat} {t : Addr} {vs : List Value} {ds : List PT} (e : h.get? t = some (tupOf vs)) (H : RdL h k vs ds) : Rd h (k + 1) (.ref t) (.t ds) := .t e H.get.1 H.get.2
theorem parts_c (R : Rm 1 A) (G : Gd w p loose mg mb h) (Ig : GlueAt w.params h ga gw st so sk ko)
    (kq : ∀ h' tk' t t1 t2 t3 t4 t5, Up h h' → h.get? t = none → h'.get? t = some (tupOf [.int gw t1, .int st t2, .int so t3, .int sk t4, .int ko t5]) → Q (.ref t) ⟨h', gs, dr, tk', os⟩) :
    wpAny (model prog w) A (call (.ref 188) [.ref ga]) Q E ⟨h, gs, dr, tk, os⟩ := by
  refine call_fn (n := 0) (binds := [(Str.ofString "self", .ref ga)]) R G (by k_is) (by k_is) (by first | exact BindsTo.of_eq (by rfl) | exact binds_K G.x rfl (by k_is) rfl rfl rfl) (by rfl) (fun A L h tk R F N => ?_)
  obtain ⟨u1, u2, u3, u4, u5, I⟩ := Ig
  repeat (first
   | ((with_reducible show wpAny _ _ (getAttr _ (Str.ofString "width") _) _ _ _); refine g_own (clsOk_ofA (ca_Glue _) (fa_Glue_width _)) (G.x.keeps F.keep) (Inst.up I F.keep) (by rfl) ?_)
   | ((with_reducible show wpAny _ _ (getAttr _ (Str.ofString "stretch") _) _ _ _); refine g_own (clsOk_ofA (ca_Glue _) (fa_Glue_stretch _)) (G.x.keeps F.keep) (Inst.up I F.keep) (by rfl) ?_)
   | ((with_reducible show wpAny _ _ (getAttr _ (Str.ofString "stretch_order") _) _ _ _); refine g_own (clsOk_ofA (ca_Glue _) (fa_Glue_stretch_order _)) (G.x.keeps F.keep) (Inst.up I F.keep) (by rfl) ?_)
   | ((with_reducible show wpAny _ _ (getAttr _ (Str.ofString "shrink") _) _ _ _); refine g_own (clsOk_ofA (ca_Glue _) (fa_Glue_shrink _)) (G.x.keeps F.keep) (Inst.up I F.keep) (by rfl) ?_)
   | ((with_reducible show wpAny _ _ (getAttr _ (Str.ofString "shrink_order") _) _ _ _); refine g_own (clsOk_ofA (ca_Glue _) (fa_Glue_shrink_order _)) (G.x.keeps F.keep) (Inst.up I F.keep) (by rfl) ?_)
   | walk_at "mS")
  all_goals exact kq _ _ _ _ _ _ _ _ F.keep (N _ (.head _)).2.2 (N _ (.head _)).1
theorem b_addT {t b : Addr} {vs ws : List Value} {led : List (Addr × Obj)} (F : Fr g L h m) (N : News g L h led) (ht : h.get? t = some (tupOf vs)) (hb : h.get? b = some (tupOf ws)) (hv : vs ≠ []) (hw : ws ≠ [])
    (kq : ∀ h' t', Fr g L h' m → News g L h' ((t', tupOf (vs ++ ws)) :: led) → Q (.ref t') ⟨h', gs, dr, tk, os⟩) (hz : vs.length + ws.length ≤ 1000) :
    wpAny (model prog w) A (binaryOp .Add (.ref t) (.ref b)) Q E ⟨h, gs, dr, tk, os⟩ :=
  add_tuples (s := ⟨h, gs, dr, tk, os⟩) F N ⟨_, ht, rfl, 0, rfl⟩ ⟨_, hb, rfl, 0, rfl⟩ (fun q => absurd q hv) (fun _ q => absurd q hw) (fun _ _ h' F' N' => kq h' _ F' N') (Nat.le_trans hz (by decide +kernel))
end
end Mine
/-! Trees -/
namespace Mine
open LCg
/-- a tree of tuples: each stands in b, or where S says -/
inductive RdN (b : Heap) (S : Addr → Obj → Prop) : Nat → Value → PT → Prop
  | i {n : Nat} {z : Int} {t : Tok} : RdN b S n (.int z t) (.i z)
  | t {n : Nat} {a : Addr} {vs : List Value} {ds : List PT} : (b.get? a = some (tupOf vs) ∨ S a (tupOf vs)) → vs.length = ds.length → (∀ (j : Nat) (v : Value) (d : PT), vs[j]? = some v → ds[j]? = some d → RdN b S n v d) → RdN b S (n + 1) (.ref a) (.t ds)
theorem RdN.mono {b b' : Heap} {S S' : Addr → Obj → Prop} {n : Nat} {v : Value} {d : PT} (H : RdN b S n v d) (u : Up b b') (k : ∀ a o, S a o → S' a o) : RdN b' S' n v d := by
  induction H with
  | i => exact .i
  | t e hl _ ih => exact .t (e.elim (fun e => .inl (u _ _ e)) fun e => .inr (k _ _ e)) hl ih
theorem RdN.succ {b : Heap} {S : Addr → Obj → Prop} {n : Nat} {v : Value} {d : PT} (H : RdN b S n v d) : RdN b S (n + 1) v d := by
  induction H with
  | i => exact .i
  | t e hl _ ih => exact .t e hl ih
theorem RdN.le {b : Heap} {S : Addr → Obj → Prop} {n k : Nat} {v : Value} {d : PT} (H : RdN b S n v d) (h : n ≤ k) : RdN b S k v d := by
  induction h with
  | refl => exact H
  | step _ ih => exact ih.succ
theorem RdN.rd {b h : Heap} {S : Addr → Obj → Prop} {n : Nat} {v : Value} {d : PT} (H : RdN b S n v d) (u : Up b h) (k : ∀ a o, S a o → h.get? a = some o) : Rd h n v d := by
  induction H with
  | i => exact .i
  | t e hl _ ih => exact .t (e.elim (u _ _) (k _ _)) hl ih
/-- new since h -/
noncomputable def Nw (h h' : Heap) (a : Addr) (o : Obj) : Prop := h.get? a = none ∧ h'.get? a = some o
theorem Nw.up {h h' h'' : Heap} (u : Up h' h'') {a : Addr} {o : Obj} (H : Nw h h' a o) : Nw h h'' a o := ⟨H.1, u _ _ H.2⟩
theorem Nw.pre {h0 h h' : Heap} (u : Up h0 h) {a : Addr} {o : Obj} (H : Nw h h' a o) : Nw h0 h' a o := ⟨none_up u H.1, H.2⟩
noncomputable def RdNs (b : Heap) (S : Addr → Obj → Prop) (k : Nat) : List Value → List PT → Prop
  | [], [] => True
  | v :: vs, d :: ds => RdN b S k v d ∧ RdNs b S k vs ds
  | _, _ => False
theorem RdNs.get {b : Heap} {S : Addr → Obj → Prop} {k : Nat} : ∀ {vs : List Value} {ds : List PT}, RdNs b S k vs ds → vs.length = ds.length ∧ ∀ (j : Nat) (v : Value) (d : PT), vs[j]? = some v → ds[j]? = some d → RdN b S k v d
  | [], [], _ => ⟨rfl, fun j v d hv => by simp at hv⟩
  | v :: vs, d :: ds, H => ⟨by simp [(RdNs.get H.2).1], fun j v' d' hv hd => by
      cases j with
      | zero => simp at hv hd; subst hv; subst hd; exact H.1
      | succ j => exact (RdNs.get H.2).2 j v' d' (by simpa using hv) (by simpa using hd)⟩
theorem RdNs.snoc {b : Heap} {S : Addr → Obj → Prop} {k : Nat} {v : Value} {d : PT} (H : RdN b S k v d) : ∀ {vs : List Value} {ds : List PT}, RdNs b S k vs ds → RdNs b S k (vs ++ [v]) (ds ++ [d])
  | [], [], _ => ⟨H, trivial⟩
  | _ :: _, _ :: _, T => ⟨T.1, RdNs.snoc H T.2⟩
theorem RdNs.mono {b b' : Heap} {S S' : Addr → Obj → Prop} {k : Nat} (u : Up b b') (q : ∀ a o, S a o → S' a o) : ∀ {vs : List Value} {ds : List PT}, RdNs b S k vs ds → RdNs b' S' k vs ds
  | [], [], _ => trivial
  | _ :: _, _ :: _, T => ⟨T.1.mono u q, RdNs.mono u q T.2⟩
theorem rdn_t {b : Heap} {S : Addr → Obj → Prop} {k : Nat} {t : Addr} {vs : List Value} {ds : List PT} (e : b.get? t = some (tupOf vs) ∨ S t (tupOf vs)) (H : RdNs b S k vs ds) : RdN b S (k + 1) (.ref t) (.t ds) := .t e H.get.1 H.get.2
/-- all that is new, as a ledger -/
noncomputable def fresh (h h' : Heap) : List (Addr × Obj) := (List.range h'.objs.size).filterMap fun a => match h.get? a, h'.get? a with | none, some o => some (a, o) | _, _ => none
theorem mem_fresh {h h' : Heap} {a : Addr} {o : Obj} : (a, o) ∈ fresh h h' ↔ Nw h h' a o := by
  unfold fresh Nw
  rw [List.mem_filterMap]
  constructor
  · rintro ⟨b, hb, e⟩
    cases q : h.get? b with
    | some o => rw [q] at e; cases e
    | none =>
      cases q' : h'.get? b with
      | none => rw [q, q'] at e; cases e
      | some o' => rw [q, q'] at e; cases e; exact ⟨q, q'⟩
  · rintro ⟨e1, e2⟩
    exact ⟨a, List.mem_range.mpr (Heap.lt_size e2), by rw [e1, e2]⟩
section
variable {prog : Program} {w : World} {A : Around} {E : Value → Shared → Prop} {h g : Heap} {gs : Array GenState} {dr : Drawn} {tk : Nat} {os : OsState} {L a : Addr} {m : Str → Option Value}
  {cn : Str} {cs : Scope} {ccd : Value} {cl : List (Str × Addr)} {p : Program} {loose : List Str} {mg mb : Str → Option Value} {Q : Value → Shared → Prop} {pos : Pos}

theorem news_fresh {led : List (Addr × Obj)} {h' : Heap} (F : Fr g L h m) (N : News g L h led) (u : Up h h') : News g L h' (fresh h h' ++ led) := fun q hq => by
  rcases List.mem_append.mp hq with hq | hq
  · have z := mem_fresh.mp hq
    exact new_at F (fun _ hq => nomatch hq : News g L h' []) z.1 z.2 _ (.head _)
  · exact News.up N u q hq
theorem off_fresh {led : List (Addr × Obj)} {I C D : Addr} {oI oC oD : Obj} {h' : Heap} (N : News g L h ((I, oI) :: (C, oC) :: (D, oD) :: led)) (off : Off3 I C D led) : Off3 I C D (fresh h h' ++ led) := Off3.of fun q hq => by
  rcases List.mem_append.mp hq with hq | hq
  · have z := (mem_fresh.mp hq).1
    refine ⟨?_, ?_, ?_⟩
    · intro e; rw [e, (N _ (.head _)).1] at z; cases z
    · intro e; rw [e, (N _ (.tail _ (.head _))).1] at z; cases z
    · intro e; rw [e, (N _ (.tail _ (.tail _ (.head _)))).1] at z; cases z
  · exact off.mem q hq
end
end Mine
/-! Fn8 -/
namespace Mine
open LCg
theorem up_refl (h : Heap) : Up h h := fun _ _ e => e
/-- described_list of l gives D -/
noncomputable def DlG (prog : Program) (w : World) (b : Heap) (l : Addr) (D : PT) (K n : Nat) (zm : Int) : Prop :=
  ∀ {A : Around} {h : Heap} {gs : Array GenState} {dr : Drawn} {tk : Nat} {os : OsState} {p : Program} {loose : List Str} {mg mb : Str → Option Value} {E Q : Value → Shared → Prop} {z : Int} {tz : Tok},
    Rm n A → Gd w p loose mg mb h → Up b h → z ≤ zm → (∀ h' tk' t, Up h h' → RdN b (Nw h h') K (.ref t) D → Q (.ref t) ⟨h', gs, dr, tk', os⟩) →
    wpAny (model prog w) A (call (.ref 483) [.ref l, .int z tz]) Q E ⟨h, gs, dr, tk, os⟩
/-- described of a gives D -/
noncomputable def DsG (prog : Program) (w : World) (b : Heap) (a : Addr) (D : PT) (K n : Nat) (zm : Int) : Prop :=
  ∀ {A : Around} {h : Heap} {gs : Array GenState} {dr : Drawn} {tk : Nat} {os : OsState} {p : Program} {loose : List Str} {mg mb : Str → Option Value} {E Q : Value → Shared → Prop} {z : Int} {tz : Tok},
    Rm n A → Gd w p loose mg mb h → Up b h → z ≤ zm → (∀ h' tk' t, Up h h' → RdN b (Nw h h') K (.ref t) D → Q (.ref t) ⟨h', gs, dr, tk', os⟩) →
    wpAny (model prog w) A (call (.ref 477) [.ref a, .int z tz]) Q E ⟨h, gs, dr, tk, os⟩
section
variable {prog : Program} {w : World} {A : Around} {E : Value → Shared → Prop} {h g : Heap} {gs : Array GenState} {dr : Drawn} {tk : Nat} {os : OsState} {L a : Addr} {m : Str → Option Value}
  {cn : Str} {cs : Scope} {ccd : Value} {cl : List (Str × Addr)} {p : Program} {loose : List Str} {mg mb : Str → Option Value} {Q : Value → Shared → Prop} {pos : Pos}

variable {b : Heap} {l : Addr} {D : PT} {K n : Nat} {zm z : Int} {tz : Tok}
theorem news_fresh1 {led : List (Addr × Obj)} {h' : Heap} {t : Addr} {o : Obj} (F : Fr g L h m) (N : News g L h ((t, o) :: led)) (u : Up h h') : News g L h' ((t, o) :: fresh h h') := fun q hq => by
  rcases List.mem_cons.mp hq with rfl | hq
  · exact News.up N u _ (.head _)
  · exact news_fresh F N u q (List.mem_append_left _ hq)
theorem fresh_rd {h' : Heap} {v : Value} (H : RdN b (Nw h h') K v D) : RdN b (fun a o => (a, o) ∈ fresh h h') K v D := H.mono (fun _ _ e => e) fun _ _ q => mem_fresh.mpr q
/-- described_list, each element known -/
theorem dl_c {ps : List (Addr × PT)} (hl : b.IsList l (ps.map fun q => Value.ref q.1).toArray) (hz : ps.length ≤ 100) (HE : ∀ q ∈ ps, DsG prog w b q.1 q.2 K n zm) : DlG prog w b l (.t (ps.map (·.2))) (K + 1) (n + 1) zm := by
  intro A h0 gs dr tk os p loose mg mb E Q z tz R G ub hzm kq
  refine call_fnC (n := n) (binds := [(Str.ofString "items", .ref l), (Str.ofString "depth", .int z tz)]) R G h0 G [] (fun _ hq => nomatch hq) (fun _ hq => nomatch hq) (by k_is) (by k_is) (by first | exact BindsTo.of_eq (by rfl) | exact binds_K G.x rfl (by k_is) rfl rfl rfl) (fun n => kinds_of (by kinds_ok)) (by decide +kernel) (fun A g L h tk cells R F N CA Gg ug _ => ?_)
  have CA' : CellsAre _ [(Str.ofString "depth", L + 1)] cells := CA
  obtain ⟨oc, rfl, hoc⟩ := CellsAre.one CA'
  have hoc : oc.data = .cell (some (.int z tz)) := hoc
  have u0 : Up h0 g := fun b o e => ug b o e (fun hm => nomatch hm)
  refine x_ret ?_
  refine e_tcall1 (n_tuple F Gg ⟨rfl, ?_⟩ (by rfl) (by rfl))
  have hlg : g.IsList l (ps.map fun q => Value.ref q.1).toArray := hl.at fun o e => u0 _ _ (ub _ _ e)
  refine e_comp (cl := [(Str.ofString "depth", L + 1)]) (its := ps.map fun q => Value.ref q.1) (J := fun i ys led => (L + 1, oc) ∈ led ∧ RdNs b (fun a o => (a, o) ∈ led) K ys ((ps.take i).map (·.2))) R.hd F ?_ (fun i ys led j => .inl hlg) (by simp; omega) ?_ ?_ (by rfl) (by decide) (by rfl) (by decide) (by rfl)
  · refine e_loc F (by rfl) ?_
    exact ⟨_, _, _, rfl, rfl, F, N, .head _, trivial⟩
  · intro i v ys led I oI C oC D m₂ h tk E' hv j hC hx F N off n1 n2 n3
    obtain ⟨q, hq, rfl⟩ : ∃ q, ps[i]? = some q ∧ v = .ref q.1 := by
      rw [List.getElem?_map] at hv
      cases e : ps[i]? with
      | none => rw [e] at hv; cases hv
      | some q => rw [e] at hv; cases hv; exact ⟨q, rfl, rfl⟩
    refine e_call2 (kp_described _) (c_glob F Gg (gl_described _) ⟨rfl, ?_⟩)
    refine c_loc (hC.ns (N _ (.tail _ (.head _))).1) hx ?_
    refine c_cell (c := L + 1) N (by rfl) (.tail _ (.tail _ (.tail _ j.1))) hoc ?_
    refine cal F Gg ?_
    refine HE q (List.mem_of_getElem? hq) R (Gg.up F.keep) (fun _ _ e => F.keep _ _ (u0 _ _ (ub _ _ e))) hzm ?_
    intro h' tk' t u H
    have N' := news_fresh F N u
    refine ⟨h', tk', fresh h h' ++ led, rfl, Fr.up F u, News.sub N' fun q hq => ?_, off_fresh N off, List.mem_append_right _ j.1, ?_⟩
    · simp only [List.mem_cons, List.mem_append] at hq ⊢
      rcases hq with h | h | h | h | h <;> simp [h]
    · rw [List.take_add_one, hq, Option.toList_some, List.map_append, List.map_singleton]
      exact RdNs.snoc ((fresh_rd H).mono (fun _ _ e => e) fun _ _ e => List.mem_append_left _ e) (RdNs.mono (fun _ _ e => e) (fun _ _ e => List.mem_append_right _ e) j.2)
  · intro D h tk ys led j F N
    have hD := (N _ (.head _)).1
    refine call_tuple_list (s := ⟨h, gs, dr, tk, os⟩) (items := ys.toArray) ⟨_, hD, rfl, _, rfl⟩ (fun h' u => ?_) ?_
    · have e : (ps.take (ps.map fun q => Value.ref q.1).length).map (·.2) = ps.map (·.2) := by rw [List.length_map, List.take_length]
      rw [e] at j
      have up : ∀ b o, h'.get? b = some o → (h'.push (tupOf ys)).get? b = some o := fun _ _ e => Heap.get?_push_of_some _ e
      refine kq _ _ _ (fun b o e => up _ _ (u _ _ (F.keep _ _ (u0 _ _ e)))) (rdn_t (.inr ⟨none_up (fun b o e => u _ _ (F.keep _ _ (u0 _ _ e))) ?_, Heap.get?_push_size _ rfl⟩) (RdNs.mono (fun _ _ e => e) (fun a o q => ⟨none_up u0 (N _ (.tail _ q)).2.2, up _ _ (u _ _ (N _ (.tail _ q)).1)⟩) j.2))
      cases q : h'.get? h'.objs.size with
      | none => rfl
      | some o => exact absurd (Heap.lt_size q) (Nat.lt_irrefl _)
    · rw [List.size_toArray]
      have := j.2.get.1
      simp at this
      exact Nat.le_trans (show ys.length ≤ 1000 by omega) (by decide +kernel)
end
end Mine
/-! Fn9 -/
namespace Mine
open LCg
noncomputable def boxD (k wd hh dd s sg o u d : Int) (D : PT) : PT := .t [.i k, .i wd, .i hh, .i dd, .i s, .i sg, .i o, .t [.i u, .i d], D]
noncomputable def leafD (k wd hh dd s : Int) : PT := boxD k wd hh dd s 0 0 0 1 (.t [])
noncomputable def oD : Option Int → PT
  | none => .t [] | some z => .t [.i z]
noncomputable def Nd.desc : Nd → PT
  | .box k w h d s => leafD k w h d s
  | .skip gw st so sk ko sort lead => .t [.i 6, .t [.i gw, .i st, .i so, .i sk, .i ko], .i sort, match lead with | none => .t [] | some lw => leafD 2 lw 4 4 0]
  | .rule w h d => .t [.i 4, oD w, oD h, oD d]
  | .kern w => .t [.i 5, .i w, .i 1]
  | .pen v => .t [.i 7, .i v]
  | .mark => .t [.i 9, .t [.t [.i 11, .i 97]]]
noncomputable def LeafAt (P : Params) (h : Heap) (a : Addr) (k wd hh dd sh : Int) : Prop :=
  ∃ l rt t1 t2 t3 t4 t5 t6 t7 t8 t9, Inst P h a 342 [K_ "kind" (.int k t1), K_ "width" (.int wd t2), K_ "height" (.int hh t3), K_ "depth" (.int dd t4), K_ "items" (.ref l), K_ "shift" (.int sh t5), K_ "sign" (.int 0 t6), K_ "order" (.int 0 t7), K_ "ratio" (.ref rt)] ∧ h.IsList l #[] ∧ h.get? rt = some (tupOf [.int 0 t8, .int 1 t9])
theorem LeafAt.box {P : Params} {h : Heap} {a : Addr} {k wd hh dd sh : Int} (H : LeafAt P h a k wd hh dd sh) : BoxAt P h a k wd hh dd sh :=
  let ⟨_, _, t1, t2, t3, t4, t5, _, _, _, _, I, _⟩ := H; ⟨t1, t2, t3, t4, t5, _, _, _, _, I⟩
theorem LeafAt.up {P : Params} {h h' : Heap} {a : Addr} {k wd hh dd sh : Int} (H : LeafAt P h a k wd hh dd sh) (u : Up h h') : LeafAt P h' a k wd hh dd sh :=
  let ⟨l, rt, t1, t2, t3, t4, t5, t6, t7, t8, t9, I, hl, hr⟩ := H; ⟨l, rt, t1, t2, t3, t4, t5, t6, t7, t8, t9, I.up u, hl.at fun o e => u _ _ e, u _ _ hr⟩
/-- a node that described can tell -/
noncomputable def DN (P : Params) (h : Heap) (a : Addr) : Nd → Prop
  | .box k wd hh dd sh => (k = 2 ∨ k = 3) ∧ LeafAt P h a k wd hh dd sh
  | .skip gw st so sk ko sort lead => ∃ ga t v, Inst P h a 406 [K_ "glue" (.ref ga), K_ "sort" (.int sort t), K_ "leader" v] ∧ GlueAt P h ga gw st so sk ko ∧ (match lead with | none => v = .none | some lw => ∃ la, v = .ref la ∧ LeafAt P h la 2 lw 4 4 0)
  | .rule x y z => NodeAt P h a (.rule x y z)
  | .kern x => NodeAt P h a (.kern x)
  | .pen x => NodeAt P h a (.pen x)
  | .mark => NodeAt P h a .mark
theorem nwn {g h : Heap} {L t : Addr} {o : Obj} {led : List (Addr × Obj)} (N : News g L h led) (hm : (t, o) ∈ led) : Nw g h t o := ⟨(N _ hm).2.2, (N _ hm).1⟩
theorem DN.node {P : Params} {h : Heap} {a : Addr} {n : Nd} (H : DN P h a n) : NodeAt P h a n := by
  cases n with
  | box => exact ⟨H.1, H.2.box⟩
  | skip gw st so sk ko sort lead =>
    obtain ⟨ga, t, v, I, Ig, Il⟩ := H
    refine ⟨ga, t, v, I, Ig, ?_⟩
    cases lead with
    | none => exact Il
    | some lw => obtain ⟨la, e, Ib⟩ := Il; exact ⟨la, e, Ib.box⟩
  | _ => exact H
theorem DN.up {P : Params} {h h' : Heap} {a : Addr} {n : Nd} (H : DN P h a n) (u : Up h h') : DN P h' a n := by
  cases n with
  | box => exact ⟨H.1, H.2.up u⟩
  | skip gw st so sk ko sort lead =>
    obtain ⟨ga, t, v, I, Ig, Il⟩ := H
    refine ⟨ga, t, v, I.up u, glue_up Ig u, ?_⟩
    cases lead with
    | none => exact Il
    | some lw => obtain ⟨la, e, Ib⟩ := Il; exact ⟨la, e, Ib.up u⟩
  | rule x y z => exact NodeAt.up (n := .rule x y z) H u
  | kern x => exact NodeAt.up (n := .kern x) H u
  | pen x => exact NodeAt.up (n := .pen x) H u
  | mark => exact NodeAt.up (n := .mark) H u
section
variable {prog : Program} {w : World} {A : Around} {E : Value → Shared → Prop} {h g : Heap} {gs : Array GenState} {dr : Drawn} {tk : Nat} {os : OsState} {L a : Addr} {m : Str → Option Value}
  {cn : Str} {cs : Scope} {ccd : Value} {cl : List (Str × Addr)} {p : Program} {loose : List Str} {mg mb : Str → Option Value} {Q : Value → Shared → Prop} {pos : Pos}

variable {b : Heap} {l : Addr} {D : PT} {K n : Nat} {zm z : Int} {tz : Tok} {k wd hh dd s sg o u d gw st so sk ko sort v : Int} {rt : Addr} {t1 t2 t3 t4 t5 t6 t7 t8 t9 : Tok}
theorem k_tup_list {vs : List Value} {led : List (Addr × Obj)} (F : Fr g L h m) (N : News g L h ((l, lst vs) :: led)) (kq : ∀ h' t, Fr g L h' m → News g L h' ((t, tupOf vs) :: (l, lst vs) :: led) → Q (.ref t) ⟨h', gs, dr, tk, os⟩) (hz : vs.length ≤ 1000) :
    wpAny (model prog w) A (call (.type "tuple") [.ref l]) Q E ⟨h, gs, dr, tk, os⟩ := by
  refine call_tuple_list (s := ⟨h, gs, dr, tk, os⟩) (items := vs.toArray) ⟨_, (N _ (.head _)).1, rfl, _, rfl⟩ (fun h' u => ?_) (by rw [List.size_toArray]; exact Nat.le_trans hz (by decide +kernel))
  have up : Up h' (h'.push (tupOf vs)) := fun _ _ e => Heap.get?_push_of_some _ e
  refine kq _ _ (Fr.up (Fr.up F u) up) (new_at (Fr.up F u) (News.up (News.up N u) up) ?_ (Heap.get?_push_size _ rfl))
  cases q : h'.get? h'.objs.size with
  | none => rfl
  | some o => exact absurd (Heap.lt_size q) (Nat.lt_irrefl _)
theorem desc_box {vs : List Value} (R : Rm (n + 2) A) (G : Gd w p loose mg mb g) (ub : Up b g) (I : Inst w.params b a 342 [K_ "kind" (.int k t1), K_ "width" (.int wd t2), K_ "height" (.int hh t3), K_ "depth" (.int dd t4), K_ "items" (.ref l), K_ "shift" (.int s t5), K_ "sign" (.int sg t6), K_ "order" (.int o t7), K_ "ratio" (.ref rt)])
    (hr : b.get? rt = some (tupOf [.int u t8, .int d t9])) (hk : k = 2 ∨ k = 3) (HL : DlG prog w b l D (K + 1) (n + 1) zm) (hz : z + 1 ≤ zm) (hzm : zm ≤ 60) (hv : vs = [.ref a, .int z tz] ∨ (vs = [.ref a] ∧ z = 0 ∧ tz = 876))
    (kq : ∀ h' tk' t, Up g h' → RdN b (Nw g h') (K + 2) (.ref t) (boxD k wd hh dd s sg o u d D) → Q (.ref t) ⟨h', gs, dr, tk', os⟩) : wpAny (model prog w) A (call (.ref 477) vs) Q E ⟨g, gs, dr, tk, os⟩ := by
  refine call_fn (n := n + 1) (binds := [(Str.ofString "node", .ref a), (Str.ofString "depth", .int z tz)]) R G (by k_is) (by k_is) (by rcases hv with rfl | ⟨rfl, rfl, rfl⟩ <;> exact binds_K G.x rfl (by k_is) rfl rfl rfl) (by rfl) (fun A L h tk R F N => ?_)
  clear hv
  replace I := I.up ub
  repeat (first
   | ((with_reducible show wpAny _ _ (call (Value.ref 459) _) _ _ _); (refine check_depth_c (R.le (by omega)) (G.fr F) (by omega) ?_; intro h tk u; replace F := Fr.up F u; replace N := News.up N u; clear u))
   | ((with_reducible show wpAny _ _ (binaryOp _ (Value.ref _) (Value.ref _)) _ _ _); ((first | refine b_addT F N (N _ (.head _)).1 (N _ (.tail _ (.head _))).1 (by simp) (by simp) ?_ (by simp) | refine b_addT F N (N _ (.tail _ (.head _))).1 (N _ (.head _)).1 (by simp) (by simp) ?_ (by simp)); clear F N; intro h tt F N))
   | ((with_reducible show wpAny _ _ (call (Value.ref 483) _) _ _ _); (refine HL R (G.fr F) (fun b o e => F.keep _ _ (ub b o e)) (by omega) ?_; intro h tk tl u H; replace H := fresh_rd H; replace N := news_fresh1 F N u; replace F := Fr.up F u; clear u))
   | ((with_reducible show wpAny _ _ (getAttr _ (Str.ofString "kind") _) _ _ _); refine g_own (clsOk_ofA (ca_Box _) (fa_Box_kind _)) (G.x.keeps F.keep) (Inst.up I F.keep) (by rfl) ?_)
   | ((with_reducible show wpAny _ _ (getAttr _ (Str.ofString "width") _) _ _ _); refine g_own (clsOk_ofA (ca_Box _) (fa_Box_width _)) (G.x.keeps F.keep) (Inst.up I F.keep) (by rfl) ?_)
   | ((with_reducible show wpAny _ _ (getAttr _ (Str.ofString "height") _) _ _ _); refine g_own (clsOk_ofA (ca_Box _) (fa_Box_height _)) (G.x.keeps F.keep) (Inst.up I F.keep) (by rfl) ?_)
   | ((with_reducible show wpAny _ _ (getAttr _ (Str.ofString "depth") _) _ _ _); refine g_own (clsOk_ofA (ca_Box _) (fa_Box_depth _)) (G.x.keeps F.keep) (Inst.up I F.keep) (by rfl) ?_)
   | ((with_reducible show wpAny _ _ (getAttr _ (Str.ofString "shift") _) _ _ _); refine g_own (clsOk_ofA (ca_Box _) (fa_Box_shift _)) (G.x.keeps F.keep) (Inst.up I F.keep) (by rfl) ?_)
   | ((with_reducible show wpAny _ _ (getAttr _ (Str.ofString "sign") _) _ _ _); refine g_own (clsOk_ofA (ca_Box _) (fa_Box_sign _)) (G.x.keeps F.keep) (Inst.up I F.keep) (by rfl) ?_)
   | ((with_reducible show wpAny _ _ (getAttr _ (Str.ofString "order") _) _ _ _); refine g_own (clsOk_ofA (ca_Box _) (fa_Box_order _)) (G.x.keeps F.keep) (Inst.up I F.keep) (by rfl) ?_)
   | ((with_reducible show wpAny _ _ (getAttr _ (Str.ofString "ratio") _) _ _ _); refine g_own (clsOk_ofA (ca_Box _) (fa_Box_ratio _)) (G.x.keeps F.keep) (Inst.up I F.keep) (by rfl) ?_)
   | ((with_reducible show wpAny _ _ (getAttr _ (Str.ofString "items") _) _ _ _); refine g_own (clsOk_ofA (ca_Box _) (fa_Box_items _)) (G.x.keeps F.keep) (Inst.up I F.keep) (by rfl) ?_)
   | ((with_reducible show wpAny _ _ (eval (Expr.Name _ _) _) _ _ _); first | ((with_reducible refine n_CHAR F G ?_ ?hka ?hkb); (case hka => rfl); (case hkb => rfl)) | ((with_reducible refine n_LIGATURE F G ?_ ?hka ?hkb); (case hka => rfl); (case hkb => rfl)) | ((with_reducible refine n_HBOX F G ?_ ?hka ?hkb); (case hka => rfl); (case hkb => rfl)) | ((with_reducible refine n_VBOX F G ?_ ?hka ?hkb); (case hka => rfl); (case hkb => rfl)))
   | ((with_reducible show wpAny _ _ (eval (Expr.Call (Expr.Name (Str.ofString "check_depth") _) _ _ _) _) _ _ _); refine e_call1 (kp_check_depth _) (n_check_depth F G ⟨rfl, ?_⟩ (by rfl) (by rfl)))
   | ((with_reducible show wpAny _ _ (call (Value.ref 459) _) _ _ _); (refine check_depth_c (R.le (by decide)) (G.fr F) (by omega) ?_; intro h tk u; replace F := Fr.up F u; replace N := News.up N u; clear u))
   | ((with_reducible show wpAny _ _ (eval (Expr.Call (Expr.Name (Str.ofString "described_list") _) _ _ _) _) _ _ _); refine e_call2 (kp_described_list _) (n_described_list F G ⟨rfl, ?_⟩ (by rfl) (by rfl)))
   | walk_at "mS")
  all_goals refine kq _ _ _ F.keep ?_
  all_goals exact (rdn_t (.inr (nwn N (.head _))) ⟨.i, .i, .i, .i, .i, .i, .i, rdn_t (.inl hr) ⟨.i, .i, trivial⟩, H.mono (fun _ _ e => e) (fun _ _ q => nwn N (.tail _ (.tail _ (.tail _ q)))), trivial⟩)
theorem dl_nil (hl : b.IsList l #[]) : DlG prog w b l (.t []) 1 1 zm := dl_c (K := 0) (n := 0) (ps := []) hl (by decide) (fun _ hq => nomatch hq)
theorem leaf_ds (hk : k = 2 ∨ k = 3) (hz : zm + 1 ≤ 60) (H : LeafAt w.params b a k wd hh dd s) : DsG prog w b a (leafD k wd hh dd s) 2 2 zm := by
  intro A h gs dr tk os p loose mg mb E Q z tz R G ub hzm kq
  obtain ⟨l, rt, t1, t2, t3, t4, t5, t6, t7, t8, t9, I, hl, hr⟩ := H
  exact desc_box (zm := 60) R G ub I hr hk (dl_nil hl) (by omega) (by omega) (.inl rfl) kq
end
end Mine
/-! Fn10 -/
namespace Mine
open LCg
section
variable {prog : Program} {w : World} {A : Around} {E : Value → Shared → Prop} {h g : Heap} {gs : Array GenState} {dr : Drawn} {tk : Nat} {os : OsState} {L a : Addr} {m : Str → Option Value}
  {cn : Str} {cs : Scope} {ccd : Value} {cl : List (Str × Addr)} {p : Program} {loose : List Str} {mg mb : Str → Option Value} {Q : Value → Shared → Prop} {pos : Pos}

variable {b : Heap} {l : Addr} {D : PT} {K n : Nat} {zm z : Int} {tz : Tok} {k wd hh dd s sg o u d gw st so sk ko sort v : Int} {rt : Addr} {t1 t2 t3 t4 t5 t6 t7 t8 t9 : Tok} {lead : Option Int} {ow oh od : Option Int}
theorem elt_one {I C D t' : Addr} {oI oC oD ob : Obj} {led : List (Addr × Obj)} {J : List Value → List (Addr × Obj) → Prop} {ys : List Value} {y : Value} (F : Fr g L h m) (N : News g L h ((t', ob) :: (I, oI) :: (C, oC) :: (D, oD) :: led))
    (lt : ∀ q ∈ (I, oI) :: (C, oC) :: (D, oD) :: led, q.1 < t') (off : Off3 I C D led) (j : J (ys ++ [y]) ((t', ob) :: led)) : EltE g L m gs dr os I C D oI oC oD J ys y ⟨h, gs, dr, tk, os⟩ := by
  refine ⟨h, tk, (t', ob) :: led, rfl, F, News.sub N fun q hq => ?_, Off3.of fun q hq => ?_, j⟩
  · simp only [List.mem_cons] at hq ⊢
    rcases hq with h | h | h | h | h <;> simp [h]
  · rcases List.mem_cons.mp hq with rfl | hq
    · exact ⟨Nat.ne_of_gt (lt _ (.head _)), Nat.ne_of_gt (lt _ (.tail _ (.head _))), Nat.ne_of_gt (lt _ (.tail _ (.tail _ (.head _))))⟩
    · exact off.mem q hq
theorem oint_in {v : Value} {o : Option Int} (H : OInt v o) : handedIn v = true := by
  rcases oint_not H with ⟨_, rfl⟩ | ⟨i, t, _, rfl⟩ <;> rfl
theorem RdNs.le {b : Heap} {S : Addr → Obj → Prop} {k n : Nat} (h : k ≤ n) : ∀ {vs : List Value} {ds : List PT}, RdNs b S k vs ds → RdNs b S n vs ds
  | [], [], _ => trivial
  | _ :: _, _ :: _, T => ⟨T.1.le h, RdNs.le h T.2⟩
theorem desc_kern (hz : zm ≤ 60) (H : NodeAt w.params b a (.kern wd)) : DsG prog w b a (Nd.kern wd).desc 3 3 zm := by
  intro A g gs dr tk os p loose mg mb E Q z tz R G ub hzm kq
  obtain ⟨t, t2, I⟩ := H
  replace I := I.up ub
  refine call_fn (n := 2) (binds := [(Str.ofString "node", .ref a), (Str.ofString "depth", .int z tz)]) R G (by k_is) (by k_is) (by first | exact BindsTo.of_eq (by rfl) | exact binds_K G.x rfl (by k_is) rfl rfl rfl) (by rfl) (fun A L h tk R F N => ?_)
  repeat (first
   | ((with_reducible show wpAny _ _ (getAttr _ (Str.ofString "kind") _) _ _ _); refine g_cls (pg_of (ca_Kern _)) (hd_of (ca_Kern _)) (fk_Kern _) (ng_int _ _ _) cn_kind (G.x.keeps F.keep) (Inst.up I F.keep) (by rfl) ?_)
   | ((with_reducible show wpAny _ _ (getAttr _ (Str.ofString "width") _) _ _ _); refine g_own (clsOk_ofA (ca_Kern _) (fa_Kern_width _)) (G.x.keeps F.keep) (Inst.up I F.keep) (by rfl) ?_)
   | ((with_reducible show wpAny _ _ (getAttr _ (Str.ofString "sort") _) _ _ _); refine g_own (clsOk_ofA (ca_Kern _) (fa_Kern_sort _)) (G.x.keeps F.keep) (Inst.up I F.keep) (by rfl) ?_)
   | ((with_reducible show wpAny _ _ (eval (Expr.Name _ _) _) _ _ _); first | ((with_reducible refine n_CHAR F G ?_ ?hka ?hkb); (case hka => rfl); (case hkb => rfl)) | ((with_reducible refine n_LIGATURE F G ?_ ?hka ?hkb); (case hka => rfl); (case hkb => rfl)) | ((with_reducible refine n_HBOX F G ?_ ?hka ?hkb); (case hka => rfl); (case hkb => rfl)) | ((with_reducible refine n_VBOX F G ?_ ?hka ?hkb); (case hka => rfl); (case hkb => rfl)) | ((with_reducible refine n_RULE F G ?_ ?hka ?hkb); (case hka => rfl); (case hkb => rfl)) | ((with_reducible refine n_KERN F G ?_ ?hka ?hkb); (case hka => rfl); (case hkb => rfl)))
   | ((with_reducible show wpAny _ _ (eval (Expr.Call (Expr.Name (Str.ofString "check_depth") _) _ _ _) _) _ _ _); refine e_call1 (kp_check_depth _) (n_check_depth F G ⟨rfl, ?_⟩ (by rfl) (by rfl)))
   | ((with_reducible show wpAny _ _ (call (Value.ref 459) _) _ _ _); (refine check_depth_c (R.le (by decide)) (G.fr F) (by omega) ?_; intro h tk u; replace F := Fr.up F u; replace N := News.up N u; clear u))
   | walk_at "mS")
  all_goals refine kq _ _ _ F.keep ?_
  all_goals exact (rdn_t (.inr (nwn N (.head _))) ⟨.i, .i, .i, trivial⟩)
theorem desc_pen (hz : zm ≤ 60) (H : NodeAt w.params b a (.pen v)) : DsG prog w b a (Nd.pen v).desc 3 3 zm := by
  intro A g gs dr tk os p loose mg mb E Q z tz R G ub hzm kq
  obtain ⟨t, I⟩ := H
  replace I := I.up ub
  refine call_fn (n := 2) (binds := [(Str.ofString "node", .ref a), (Str.ofString "depth", .int z tz)]) R G (by k_is) (by k_is) (by first | exact BindsTo.of_eq (by rfl) | exact binds_K G.x rfl (by k_is) rfl rfl rfl) (by rfl) (fun A L h tk R F N => ?_)
  repeat (first
   | ((with_reducible show wpAny _ _ (getAttr _ (Str.ofString "kind") _) _ _ _); refine g_cls (pg_of (ca_Penalty _)) (hd_of (ca_Penalty _)) (fk_Penalty _) (ng_int _ _ _) cn_kind (G.x.keeps F.keep) (Inst.up I F.keep) (by rfl) ?_)
   | ((with_reducible show wpAny _ _ (getAttr _ (Str.ofString "value") _) _ _ _); refine g_own (clsOk_ofA (ca_Penalty _) (fa_Penalty_value _)) (G.x.keeps F.keep) (Inst.up I F.keep) (by rfl) ?_)
   | ((with_reducible show wpAny _ _ (eval (Expr.Name _ _) _) _ _ _); first | ((with_reducible refine n_CHAR F G ?_ ?hka ?hkb); (case hka => rfl); (case hkb => rfl)) | ((with_reducible refine n_LIGATURE F G ?_ ?hka ?hkb); (case hka => rfl); (case hkb => rfl)) | ((with_reducible refine n_HBOX F G ?_ ?hka ?hkb); (case hka => rfl); (case hkb => rfl)) | ((with_reducible refine n_VBOX F G ?_ ?hka ?hkb); (case hka => rfl); (case hkb => rfl)) | ((with_reducible refine n_RULE F G ?_ ?hka ?hkb); (case hka => rfl); (case hkb => rfl)) | ((with_reducible refine n_KERN F G ?_ ?hka ?hkb); (case hka => rfl); (case hkb => rfl)) | ((with_reducible refine n_GLUE F G ?_ ?hka ?hkb); (case hka => rfl); (case hkb => rfl)) | ((with_reducible refine n_PENALTY F G ?_ ?hka ?hkb); (case hka => rfl); (case hkb => rfl)))
   | ((with_reducible show wpAny _ _ (eval (Expr.Call (Expr.Name (Str.ofString "check_depth") _) _ _ _) _) _ _ _); refine e_call1 (kp_check_depth _) (n_check_depth F G ⟨rfl, ?_⟩ (by rfl) (by rfl)))
   | ((with_reducible show wpAny _ _ (call (Value.ref 459) _) _ _ _); (refine check_depth_c (R.le (by decide)) (G.fr F) (by omega) ?_; intro h tk u; replace F := Fr.up F u; replace N := News.up N u; clear u))
   | walk_at "mS")
  all_goals refine kq _ _ _ F.keep ?_
  all_goals exact (rdn_t (.inr (nwn N (.head _))) ⟨.i, .i, trivial⟩)
theorem desc_mark (hz : zm ≤ 60) (H : NodeAt w.params b a .mark) : DsG prog w b a Nd.mark.desc 3 3 zm := by
  intro A g gs dr tk os p loose mg mb E Q z tz R G ub hzm kq
  obtain ⟨tt, tu, a1, a2, I, e1, e2⟩ := H
  replace I := I.up ub
  refine call_fn (n := 2) (binds := [(Str.ofString "node", .ref a), (Str.ofString "depth", .int z tz)]) R G (by k_is) (by k_is) (by first | exact BindsTo.of_eq (by rfl) | exact binds_K G.x rfl (by k_is) rfl rfl rfl) (by rfl) (fun A L h tk R F N => ?_)
  repeat (first
   | ((with_reducible show wpAny _ _ (getAttr _ (Str.ofString "kind") _) _ _ _); refine g_cls (pg_of (ca_Mark _)) (hd_of (ca_Mark _)) (fk_Mark _) (ng_int _ _ _) cn_kind (G.x.keeps F.keep) (Inst.up I F.keep) (by rfl) ?_)
   | ((with_reducible show wpAny _ _ (getAttr _ (Str.ofString "tokens") _) _ _ _); refine g_own (clsOk_ofA (ca_Mark _) (fa_Mark_tokens _)) (G.x.keeps F.keep) (Inst.up I F.keep) (by rfl) ?_)
   | ((with_reducible show wpAny _ _ (eval (Expr.Name _ _) _) _ _ _); first | ((with_reducible refine n_CHAR F G ?_ ?hka ?hkb); (case hka => rfl); (case hkb => rfl)) | ((with_reducible refine n_LIGATURE F G ?_ ?hka ?hkb); (case hka => rfl); (case hkb => rfl)) | ((with_reducible refine n_HBOX F G ?_ ?hka ?hkb); (case hka => rfl); (case hkb => rfl)) | ((with_reducible refine n_VBOX F G ?_ ?hka ?hkb); (case hka => rfl); (case hkb => rfl)) | ((with_reducible refine n_RULE F G ?_ ?hka ?hkb); (case hka => rfl); (case hkb => rfl)) | ((with_reducible refine n_KERN F G ?_ ?hka ?hkb); (case hka => rfl); (case hkb => rfl)) | ((with_reducible refine n_GLUE F G ?_ ?hka ?hkb); (case hka => rfl); (case hkb => rfl)) | ((with_reducible refine n_PENALTY F G ?_ ?hka ?hkb); (case hka => rfl); (case hkb => rfl)) | ((with_reducible refine n_MARK F G ?_ ?hka ?hkb); (case hka => rfl); (case hkb => rfl)))
   | ((with_reducible show wpAny _ _ (eval (Expr.Call (Expr.Name (Str.ofString "check_depth") _) _ _ _) _) _ _ _); refine e_call1 (kp_check_depth _) (n_check_depth F G ⟨rfl, ?_⟩ (by rfl) (by rfl)))
   | ((with_reducible show wpAny _ _ (call (Value.ref 459) _) _ _ _); (refine check_depth_c (R.le (by decide)) (G.fr F) (by omega) ?_; intro h tk u; replace F := Fr.up F u; replace N := News.up N u; clear u))
   | walk_at "mS")
  all_goals refine kq _ _ _ F.keep ?_
  all_goals exact (rdn_t (.inr (nwn N (.head _))) ⟨.i, rdn_t (.inl e1) ⟨rdn_t (k := 0) (.inl e2) ⟨.i, .i, trivial⟩, trivial⟩, trivial⟩)
theorem desc_skip (hz : zm + 2 ≤ 60) (H : DN w.params b a (.skip gw st so sk ko sort lead)) : DsG prog w b a (Nd.skip gw st so sk ko sort lead).desc 3 3 zm := by
  intro A g gs dr tk os p loose mg mb E Q z tz R G ub hzm kq
  obtain ⟨ga, t, v, I, Ig, Il⟩ := H
  replace I := I.up ub
  have Ig' := glue_up Ig ub
  obtain ⟨u1, u2, u3, u4, u5, Iw⟩ := id Ig'
  refine call_fn (n := 2) (binds := [(Str.ofString "node", .ref a), (Str.ofString "depth", .int z tz)]) R G (by k_is) (by k_is) (by first | exact BindsTo.of_eq (by rfl) | exact binds_K G.x rfl (by k_is) rfl rfl rfl) (by rfl) (fun A L h tk R F N => ?_)
  rcases lead with _ | lw
  · have Il : v = .none := Il
    subst Il
    repeat (first
   | ((with_reducible show wpAny _ _ (eval (Expr.Call (Expr.Attribute _ (Str.ofString "parts") _) _ _ _) _) _ _ _); (refine e_meth0 (mk_parts _) ?_))
   | ((with_reducible show wpAny _ _ (getMethod _ (Str.ofString "parts") _) _ _ _); (refine g_meth (pg_of (ca_Glue _)) (me_parts _) (mf_parts _) (G.x.keeps F.keep) (Inst.up Iw F.keep) (by rfl) ⟨rfl, ?_⟩))
   | ((with_reducible show wpAny _ _ (call (Value.ref 188) _) _ _ _); (refine parts_c (R.le (by decide)) (G.fr F) (glue_up Ig' F.keep) ?_; intro h tk tp t1 t2 t3 t4 t5 u nt et; replace N := new_in F N u nt et; replace F := Fr.up F u; clear u))
   | ((with_reducible show wpAny _ _ (getAttr _ (Str.ofString "kind") _) _ _ _); refine g_cls (pg_of (ca_Skip _)) (hd_of (ca_Skip _)) (fk_Skip _) (ng_int _ _ _) cn_kind (G.x.keeps F.keep) (Inst.up I F.keep) (by rfl) ?_)
   | ((with_reducible show wpAny _ _ (getAttr _ (Str.ofString "glue") _) _ _ _); refine g_own (clsOk_ofA (ca_Skip _) (fa_Skip_glue _)) (G.x.keeps F.keep) (Inst.up I F.keep) (by rfl) ?_)
   | ((with_reducible show wpAny _ _ (getAttr _ (Str.ofString "sort") _) _ _ _); refine g_own (clsOk_ofA (ca_Skip _) (fa_Skip_sort _)) (G.x.keeps F.keep) (Inst.up I F.keep) (by rfl) ?_)
   | ((with_reducible show wpAny _ _ (getAttr _ (Str.ofString "leader") _) _ _ _); refine g_own (clsOk_ofA (ca_Skip _) (fa_Skip_leader _)) (G.x.keeps F.keep) (Inst.up I F.keep) (by rfl) ?_)
   | ((with_reducible show wpAny _ _ (eval (Expr.Name _ _) _) _ _ _); first | ((with_reducible refine n_CHAR F G ?_ ?hka ?hkb); (case hka => rfl); (case hkb => rfl)) | ((with_reducible refine n_LIGATURE F G ?_ ?hka ?hkb); (case hka => rfl); (case hkb => rfl)) | ((with_reducible refine n_HBOX F G ?_ ?hka ?hkb); (case hka => rfl); (case hkb => rfl)) | ((with_reducible refine n_VBOX F G ?_ ?hka ?hkb); (case hka => rfl); (case hkb => rfl)) | ((with_reducible refine n_RULE F G ?_ ?hka ?hkb); (case hka => rfl); (case hkb => rfl)) | ((with_reducible refine n_KERN F G ?_ ?hka ?hkb); (case hka => rfl); (case hkb => rfl)) | ((with_reducible refine n_GLUE F G ?_ ?hka ?hkb); (case hka => rfl); (case hkb => rfl)))
   | ((with_reducible show wpAny _ _ (eval (Expr.Call (Expr.Name (Str.ofString "check_depth") _) _ _ _) _) _ _ _); refine e_call1 (kp_check_depth _) (n_check_depth F G ⟨rfl, ?_⟩ (by rfl) (by rfl)))
   | ((with_reducible show wpAny _ _ (call (Value.ref 459) _) _ _ _); (refine check_depth_c (R.le (by decide)) (G.fr F) (by omega) ?_; intro h tk u; replace F := Fr.up F u; replace N := News.up N u; clear u))
   | ((with_reducible show wpAny _ _ (eval (Expr.Call (Expr.Name (Str.ofString "described") _) _ _ _) _) _ _ _); refine e_call2 (kp_described _) (n_described F G ⟨rfl, ?_⟩ (by rfl) (by rfl)))
   | walk_at "mS")
    all_goals refine kq _ _ _ F.keep ?_
    all_goals exact (rdn_t (.inr (nwn N (.head _))) ⟨.i, rdn_t (.inr (nwn N (.tail _ (.tail _ (.head _))))) ⟨.i, .i, .i, .i, .i, trivial⟩, .i, rdn_t (.inr (nwn N (.tail _ (.head _)))) trivial, trivial⟩)
  · obtain ⟨la, rfl, Ib⟩ := Il
    have HL : DsG prog w b la (leafD 2 lw 4 4 0) 2 2 59 := leaf_ds (.inl rfl) (by decide) Ib
    repeat (first
   | ((with_reducible show wpAny _ _ (eval (Expr.Call (Expr.Attribute _ (Str.ofString "parts") _) _ _ _) _) _ _ _); (refine e_meth0 (mk_parts _) ?_))
   | ((with_reducible show wpAny _ _ (getMethod _ (Str.ofString "parts") _) _ _ _); (refine g_meth (pg_of (ca_Glue _)) (me_parts _) (mf_parts _) (G.x.keeps F.keep) (Inst.up Iw F.keep) (by rfl) ⟨rfl, ?_⟩))
   | ((with_reducible show wpAny _ _ (call (Value.ref 188) _) _ _ _); (refine parts_c (R.le (by decide)) (G.fr F) (glue_up Ig' F.keep) ?_; intro h tk tp t1 t2 t3 t4 t5 u nt et; replace N := new_in F N u nt et; replace F := Fr.up F u; clear u))
   | ((with_reducible show wpAny _ _ (call (Value.ref 477) _) _ _ _); (refine HL (R.le (by decide)) (G.fr F) (fun b o e => F.keep _ _ (ub b o e)) (by omega) ?_; intro h tk tl u H; replace H := fresh_rd H; replace N := news_fresh1 F N u; replace F := Fr.up F u; clear u))
   | ((with_reducible show wpAny _ _ (getAttr _ (Str.ofString "kind") _) _ _ _); refine g_cls (pg_of (ca_Skip _)) (hd_of (ca_Skip _)) (fk_Skip _) (ng_int _ _ _) cn_kind (G.x.keeps F.keep) (Inst.up I F.keep) (by rfl) ?_)
   | ((with_reducible show wpAny _ _ (getAttr _ (Str.ofString "glue") _) _ _ _); refine g_own (clsOk_ofA (ca_Skip _) (fa_Skip_glue _)) (G.x.keeps F.keep) (Inst.up I F.keep) (by rfl) ?_)
   | ((with_reducible show wpAny _ _ (getAttr _ (Str.ofString "sort") _) _ _ _); refine g_own (clsOk_ofA (ca_Skip _) (fa_Skip_sort _)) (G.x.keeps F.keep) (Inst.up I F.keep) (by rfl) ?_)
   | ((with_reducible show wpAny _ _ (getAttr _ (Str.ofString "leader") _) _ _ _); refine g_own (clsOk_ofA (ca_Skip _) (fa_Skip_leader _)) (G.x.keeps F.keep) (Inst.up I F.keep) (by rfl) ?_)
   | ((with_reducible show wpAny _ _ (eval (Expr.Name _ _) _) _ _ _); first | ((with_reducible refine n_CHAR F G ?_ ?hka ?hkb); (case hka => rfl); (case hkb => rfl)) | ((with_reducible refine n_LIGATURE F G ?_ ?hka ?hkb); (case hka => rfl); (case hkb => rfl)) | ((with_reducible refine n_HBOX F G ?_ ?hka ?hkb); (case hka => rfl); (case hkb => rfl)) | ((with_reducible refine n_VBOX F G ?_ ?hka ?hkb); (case hka => rfl); (case hkb => rfl)) | ((with_reducible refine n_RULE F G ?_ ?hka ?hkb); (case hka => rfl); (case hkb => rfl)) | ((with_reducible refine n_KERN F G ?_ ?hka ?hkb); (case hka => rfl); (case hkb => rfl)) | ((with_reducible refine n_GLUE F G ?_ ?hka ?hkb); (case hka => rfl); (case hkb => rfl)))
   | ((with_reducible show wpAny _ _ (eval (Expr.Call (Expr.Name (Str.ofString "check_depth") _) _ _ _) _) _ _ _); refine e_call1 (kp_check_depth _) (n_check_depth F G ⟨rfl, ?_⟩ (by rfl) (by rfl)))
   | ((with_reducible show wpAny _ _ (call (Value.ref 459) _) _ _ _); (refine check_depth_c (R.le (by decide)) (G.fr F) (by omega) ?_; intro h tk u; replace F := Fr.up F u; replace N := News.up N u; clear u))
   | ((with_reducible show wpAny _ _ (eval (Expr.Call (Expr.Name (Str.ofString "described") _) _ _ _) _) _ _ _); refine e_call2 (kp_described _) (n_described F G ⟨rfl, ?_⟩ (by rfl) (by rfl)))
   | walk_at "mS")
    all_goals refine kq _ _ _ F.keep ?_
    all_goals exact (rdn_t (.inr (nwn N (.head _))) ⟨.i, rdn_t (.inr (nwn N (.tail _ (.head _)))) ⟨.i, .i, .i, .i, .i, trivial⟩, .i, H.mono (fun _ _ e => e) (fun _ _ q => nwn N (.tail _ (.tail _ q))), trivial⟩)
theorem desc_rule (hz : zm ≤ 60) (H : NodeAt w.params b a (.rule ow oh od)) : DsG prog w b a (Nd.rule ow oh od).desc 3 3 zm := by
  intro A g gs dr tk os p loose mg mb E Q z tz R G ub hzm kq
  obtain ⟨v1, v2, v3, I, o1, o2, o3⟩ := H
  replace I := I.up ub
  refine call_fn (n := 2) (binds := [(Str.ofString "node", .ref a), (Str.ofString "depth", .int z tz)]) R G (by k_is) (by k_is) (by first | exact BindsTo.of_eq (by rfl) | exact binds_K G.x rfl (by k_is) rfl rfl rfl) (by rfl) (fun A L h tk R F N => ?_)
  repeat (first
   | ((with_reducible show wpAny _ _ (getAttr _ (Str.ofString "kind") _) _ _ _); refine g_cls (pg_of (ca_Rule _)) (hd_of (ca_Rule _)) (fk_Rule _) (ng_int _ _ _) cn_kind (G.x.keeps F.keep) (Inst.up I F.keep) (by rfl) ?_)
   | ((with_reducible show wpAny _ _ (eval (Expr.Name _ _) _) _ _ _); first | ((with_reducible refine n_CHAR F G ?_ ?hka ?hkb); (case hka => rfl); (case hkb => rfl)) | ((with_reducible refine n_LIGATURE F G ?_ ?hka ?hkb); (case hka => rfl); (case hkb => rfl)) | ((with_reducible refine n_HBOX F G ?_ ?hka ?hkb); (case hka => rfl); (case hkb => rfl)) | ((with_reducible refine n_VBOX F G ?_ ?hka ?hkb); (case hka => rfl); (case hkb => rfl)) | ((with_reducible refine n_RULE F G ?_ ?hka ?hkb); (case hka => rfl); (case hkb => rfl)))
   | ((with_reducible show wpAny _ _ (eval (Expr.Call (Expr.Name (Str.ofString "check_depth") _) _ _ _) _) _ _ _); refine e_call1 (kp_check_depth _) (n_check_depth F G ⟨rfl, ?_⟩ (by rfl) (by rfl)))
   | ((with_reducible show wpAny _ _ (call (Value.ref 459) _) _ _ _); (refine check_depth_c (R.le (by decide)) (G.fr F) (by omega) ?_; intro h tk u; replace F := Fr.up F u; replace N := News.up N u; clear u))
   | ((with_reducible show wpAny _ _ (eval (Expr.Call (Expr.Name (Str.ofString "tuple") _) _ _ _) _) _ _ _); refine e_tcall1 (n_tuple F G ⟨rfl, ?_⟩ (by rfl) (by rfl)))
   | walk_at "mS")
  rename_i t
  refine e_compTup (cl := []) (vs := [v1, v2, v3]) (J := fun ax i ys led => (t, tupOf [Value.int 4 586]) ∈ led ∧ (ax, tupOf [v1, v2, v3]) ∈ led ∧ RdNs b (fun a o => (a, o) ∈ led) 1 ys (([ow, oh, od].take i).map oD)) R.hd F ?_ (fun _ _ _ _ j => j.2.1) (by simp) ?_ ?_ (by rfl) (by decide) (by rfl) (by decide) (by rfl)
  · repeat (first
   | ((with_reducible show wpAny _ _ (getAttr _ (Str.ofString "width") _) _ _ _); (refine g_own (clsOk_ofA (ca_Rule _) (fa_Rule_width _)) (G.x.keeps F.keep) (Inst.up I F.keep) (by rfl) ?_ (oint_in o1)))
   | ((with_reducible show wpAny _ _ (getAttr _ (Str.ofString "height") _) _ _ _); (refine g_own (clsOk_ofA (ca_Rule _) (fa_Rule_height _)) (G.x.keeps F.keep) (Inst.up I F.keep) (by rfl) ?_ (oint_in o2)))
   | ((with_reducible show wpAny _ _ (getAttr _ (Str.ofString "depth") _) _ _ _); (refine g_own (clsOk_ofA (ca_Rule _) (fa_Rule_depth _)) (G.x.keeps F.keep) (Inst.up I F.keep) (by rfl) ?_ (oint_in o3)))
   | walk_at "mS")
    all_goals exact ⟨_, _, _, _, rfl, rfl, F, N, .tail _ (.head _), .head _, trivial⟩
  · intro ax i v ys led I oI C oC D m₂ h tk E' hv j hC hx F N off n1 n2 n3
    have ⟨o, hov, ho⟩ : ∃ o, OInt v o ∧ [ow, oh, od][i]? = some o := by
      rcases i with _ | _ | _ | i
      · cases hv; exact ⟨ow, o1, rfl⟩
      · cases hv; exact ⟨oh, o2, rfl⟩
      · cases hv; exact ⟨od, o3, rfl⟩
      · simp at hv
    have hCn := hC.ns (N _ (.tail _ (.head _))).1
    refine e_ifexp (i_cmp (c_loc hCn hx (e_none (c_is (t_bool ?_)))))
    have hJ : ∀ (q : Addr × Obj) (y : Value), RdN b (fun a o => (a, o) ∈ q :: led) 1 y (oD o) → RdNs b (fun a o => (a, o) ∈ q :: led) 1 (ys ++ [y]) (([ow, oh, od].take (i + 1)).map oD) := fun q y H => by
      rw [List.take_add_one, ho, Option.toList_some, List.map_append, List.map_singleton]
      exact RdNs.snoc H (RdNs.mono (fun _ _ e => e) (fun _ _ e => .tail _ e) j.2.2)
    rcases oint_not hov with ⟨rfl, rfl⟩ | ⟨i', t', rfl, rfl⟩
    · refine br_pos rfl (e_tup (a_nil (m_tup F N fun h' t' F' N' lt => ?_)))
      exact elt_one F' N' lt off ⟨.tail _ j.1, .tail _ j.2.1, hJ _ _ (rdn_t (k := 0) (.inr (.head _)) trivial)⟩
    · refine br_neg rfl (e_tup (a_cons (c_loc hCn hx (a_nil (m_tup F N fun h' t' F' N' lt => ?_)))))
      exact elt_one F' N' lt off ⟨.tail _ j.1, .tail _ j.2.1, hJ _ _ (rdn_t (k := 0) (.inr (.head _)) ⟨.i, trivial⟩)⟩
  · intro ax D h tk ys led j F N
    have hl := j.2.2.get.1
    simp at hl
    refine k_tup_list F N (fun h tt F' N' => ?_) (by omega)
    refine b_addT F' N' (N' _ (.tail _ (.tail _ j.1))).1 (N' _ (.head _)).1 (by simp) (by intro q; rw [q] at hl; cases hl) (fun h t' F N => ?_) (by simp; omega)
    refine kq _ _ _ F.keep ?_
    refine rdn_t (ds := [.i 4, oD ow, oD oh, oD od]) (.inr (nwn N (.head _))) ⟨.i, ?_⟩
    have z := RdNs.mono (fun _ _ e => e) (S' := Nw g h) (fun _ _ q => nwn N (.tail _ (.tail _ (.tail _ q)))) j.2.2
    exact RdNs.le (by decide) z
end
end Mine
/-! Grow -/
namespace Mine
/-- a heap cut down to what stands in it and is wanted -/
noncomputable def pick (h : Heap) (p : Addr → Bool) : Heap := hideAll h ((List.range h.objs.size).filter fun a => !p a)
theorem pick_get {h : Heap} {p : Addr → Bool} {a : Addr} {o : Obj} (e : h.get? a = some o) (q : p a = true) : (pick h p).get? a = some o :=
  hideAll_get _ e fun hm => by have := (List.mem_filter.mp hm).2; rw [q] at this; cases this
theorem pick_in {h : Heap} {p : Addr → Bool} {a : Addr} {o : Obj} (e : (pick h p).get? a = some o) : h.get? a = some o := of_hideAll _ e
theorem pick_p {h : Heap} {p : Addr → Bool} {a : Addr} {o : Obj} (e : (pick h p).get? a = some o) : p a = true := by
  cases q : p a with
  | true => rfl
  | false =>
    have : (pick h p).get? a = none := hideAll_none _ (List.mem_filter.mpr ⟨List.mem_range.mpr (Heap.lt_size (pick_in e)), by rw [q]; rfl⟩)
    rw [this] at e; cases e
/-- b, and what is new at h' since h -/
noncomputable def grow (b h h' : Heap) : Heap := pick h' fun a => (b.get? a).isSome || (h.get? a).isNone
theorem grow_new {b h h' : Heap} {a : Addr} {o : Obj} (H : Nw h h' a o) : (grow b h h').get? a = some o := pick_get H.2 (by rw [H.1]; simp)
theorem grow_of {b h h' : Heap} {a : Addr} {o : Obj} (e : (grow b h h').get? a = some o) : h'.get? a = some o ∧ ((∃ o', b.get? a = some o') ∨ h.get? a = none) := by
  refine ⟨pick_in e, ?_⟩
  have := pick_p e
  cases q : b.get? a with
  | some o' => exact .inl ⟨_, rfl⟩
  | none => rw [q] at this; cases q' : h.get? a with
    | none => exact .inr rfl
    | some _ => rw [q'] at this; cases this
theorem grow_up {b h h' : Heap} {W : List Addr} (u : Up b h) (e : Ext W h h') (hw : ∀ a ∈ W, b.get? a = none) : Up b (grow b h h') := fun a o q =>
  pick_get (e _ _ (u _ _ q) fun hm => by rw [hw a hm] at q; cases q) (by rw [q]; rfl)
/-- b is what stands and is not written: g, and some of what is new -/
structure Lw (g b : Heap) (mu : List (Addr × Obj)) : Prop where
  up : Up g b
  off : ∀ q ∈ mu, b.get? q.1 = none
section
variable {prog : Program} {w : World} {A : Around} {E : Value → Shared → Prop} {h g : Heap} {gs : Array GenState} {dr : Drawn} {tk : Nat} {os : OsState} {L a : Addr} {m : Str → Option Value} {mu mu' : List (Addr × Obj)} {b : Heap}
theorem up_base (F : Fr g L h m) (N : News g L h (mu ++ fresh g b)) (W : Lw g b mu) : Up b h := fun a o e => by
  cases q : g.get? a with
  | some o' => have := W.up _ _ q; rw [e] at this; cases this; exact F.keep _ _ q
  | none => exact (N _ (List.mem_append_right _ (mem_fresh.mpr ⟨q, e⟩))).1
theorem l_ne_base (F : Fr g L h m) (N : News g L h (mu ++ fresh g b)) (W : Lw g b mu) : b.get? L = none := by
  cases e : b.get? L with
  | none => rfl
  | some o =>
    cases q : g.get? L with
    | some o' => exact absurd (Heap.lt_size q) (Nat.not_lt.mpr F.above)
    | none => exact absurd rfl (N _ (List.mem_append_right _ (mem_fresh.mpr ⟨q, e⟩))).2.1
theorem News.left {l1 l2 : List (Addr × Obj)} (N : News g L h (l1 ++ l2)) : News g L h l1 := fun q hq => N q (List.mem_append_left _ hq)
/-- the base grows by what a call has made; the written objects stand in mu' as they are now -/
theorem grow_led {h' : Heap} {Wr : List Addr} (F : Fr g L h m) (N : News g L h (mu ++ fresh g b)) (W : Lw g b mu) (e : Ext Wr h h') (hw : ∀ a ∈ Wr, a ∈ mu.map (·.1)) (hm : mu'.map (·.1) = mu.map (·.1)) (hs : ∀ q ∈ mu', h'.get? q.1 = some q.2) :
    News g L h' (mu' ++ fresh g (grow b h h')) ∧ Lw g (grow b h h') mu' ∧ Up b (grow b h h') ∧ Fr g L h' m ∧ (∀ a o, Nw h h' a o → (grow b h h').get? a = some o) := by
  have ub := up_base F N W
  have off : ∀ a ∈ mu.map (·.1), b.get? a = none := fun a ha => by
    obtain ⟨q, hq, rfl⟩ := List.mem_map.mp ha
    exact W.off q hq
  have old : ∀ a ∈ mu.map (·.1), (∃ o, h.get? a = some o) ∧ a ≠ L ∧ g.get? a = none := fun a ha => by
    obtain ⟨q, hq, rfl⟩ := List.mem_map.mp ha
    have z := N q (List.mem_append_left _ hq)
    exact ⟨⟨_, z.1⟩, z.2⟩
  have ubb : Up b (grow b h h') := grow_up ub e fun a ha => off a (hw a ha)
  have F' : Fr g L h' m := Fr.ext F e fun a ha => (old a (hw a ha)).2
  refine ⟨fun q hq => ?_, ⟨fun a o q => ubb _ _ (W.up _ _ q), fun q hq => ?_⟩, ubb, F', fun a o => grow_new⟩
  · rcases List.mem_append.mp hq with hq | hq
    · have : q.1 ∈ mu.map (·.1) := hm ▸ List.mem_map_of_mem hq
      exact ⟨hs q hq, (old _ this).2⟩
    · have z := mem_fresh.mp (show (q.1, q.2) ∈ _ from hq)
      have y := grow_of z.2
      refine ⟨y.1, fun q' => ?_, z.1⟩
      rcases y.2 with ⟨o', y⟩ | y
      · rw [q', l_ne_base F N W] at y; cases y
      · obtain ⟨o, es, ep, k, r⟩ := F.ns
        rw [q', k] at y; cases y
  · have : q.1 ∈ mu.map (·.1) := hm ▸ List.mem_map_of_mem hq
    cases y : (grow b h h').get? q.1 with
    | none => rfl
    | some o =>
      rcases (grow_of y).2 with ⟨o', y⟩ | y
      · rw [off _ this] at y; cases y
      · obtain ⟨⟨o', k⟩, _⟩ := old _ this
        rw [k] at y; cases y
/-- the same where nothing is written -/
theorem grow_up_led {h' : Heap} (F : Fr g L h m) (N : News g L h (mu ++ fresh g b)) (W : Lw g b mu) (u : Up h h') :
    News g L h' (mu ++ fresh g (grow b h h')) ∧ Lw g (grow b h h') mu ∧ Up b (grow b h h') ∧ Fr g L h' m ∧ (∀ a o, Nw h h' a o → (grow b h h').get? a = some o) :=
  grow_led (Wr := []) F N W (fun a o e _ => u _ _ e) (fun _ ha => nomatch ha) rfl (fun q hq => u _ _ (N q (List.mem_append_left _ hq)).1)
/-- one object of the ledger's goes over to what is not written -/
theorem absorb {q : Addr × Obj} (F : Fr g L h m) (N : News g L h (q :: mu ++ fresh g b)) (W : Lw g b (q :: mu)) (hd : ∀ r ∈ mu, r.1 ≠ q.1) :
    ∃ b', News g L h (mu ++ fresh g b') ∧ Lw g b' mu ∧ Up b b' ∧ b'.get? q.1 = some q.2 := by
  have ub := up_base F N W
  have hq := N q (.head _)
  have in_ : ∀ {a : Addr} {o : Obj}, (pick h fun a => (b.get? a).isSome || a == q.1).get? a = some o → h.get? a = some o ∧ ((∃ o', b.get? a = some o') ∨ a = q.1) := fun {a o} e => by
    refine ⟨pick_in e, ?_⟩
    have := pick_p e
    cases k : b.get? a with
    | some o' => exact .inl ⟨_, rfl⟩
    | none => rw [k] at this; exact .inr (by simpa using this)
  have ubb : Up b (pick h fun a => (b.get? a).isSome || a == q.1) := fun a o e => pick_get (ub _ _ e) (by rw [e]; rfl)
  refine ⟨pick h fun a => (b.get? a).isSome || a == q.1, fun r hr => ?_, ⟨fun a o e => ubb _ _ (W.up _ _ e), fun r hr => ?_⟩, ubb, pick_get hq.1 (by simp)⟩
  · rcases List.mem_append.mp hr with hr | hr
    · exact N r (List.mem_append_left _ (.tail _ hr))
    · have z := mem_fresh.mp (show (r.1, r.2) ∈ _ from hr)
      have y := in_ z.2
      refine ⟨y.1, ?_, z.1⟩
      rcases y.2 with ⟨o', y⟩ | y
      · intro e; rw [e, l_ne_base F N W] at y; cases y
      · rw [y]; exact hq.2.1
  · cases y : (pick h fun a => (b.get? a).isSome || a == q.1).get? r.1 with
    | none => rfl
    | some o =>
      rcases (in_ y).2 with ⟨o', y⟩ | y
      · rw [W.off r (.tail _ hr)] at y; cases y
      · exact absurd y (hd r hr)
end
end Mine
/-! Law0 -/
namespace Mine
section
variable {prog : Program} {w : World} {A : Around} {E : Value → Shared → Prop} {h g : Heap} {gs : Array GenState} {dr : Drawn} {tk : Nat} {os : OsState} {L a l : Addr} {m : Str → Option Value}
  {cn : Str} {cs : Scope} {ccd : Value} {cl : List (Str × Addr)} {led rest : List (Addr × Obj)} {env : Env} {p : Program} {loose : List Str} {mg mb : Str → Option Value} {Q : Value → Shared → Prop} {pos : Pos} {x : Str} {v : Value} {o : Obj} {P : Flow → Shared → Prop} {QU : Unit → Shared → Prop} {s : Shared}
theorem p_none (kq : Q .none s) : wpAny (model prog w) A (evalPart none env) Q E s := wpAny_pure kq
theorem p_some {e : Expr} (kq : wpAny (model prog w) A (eval e env) Q E s) : wpAny (model prog w) A (evalPart (some e) env) Q E s := kq
noncomputable def Sl (Q : Value → Shared → Prop) (l u st : Value) : Shared → Prop
  | ⟨h, gs, dr, tk, os⟩ => Q (.ref h.objs.size) ⟨h.push { cls := .type "slice", data := .fields #[l, u, st] }, gs, dr, tk, os⟩
theorem sl_go {l u st : Value} (kq : Q (.ref h.objs.size) ⟨h.push { cls := .type "slice", data := .fields #[l, u, st] }, gs, dr, tk, os⟩) : Sl Q l u st ⟨h, gs, dr, tk, os⟩ := kq
theorem e_slc {lower upper step : Option Expr} {p : Pos} (kq : wpAny (model prog w) A (evalPart lower env) (fun l s₁ => wpAny (model prog w) A (evalPart upper env) (fun u s₂ => wpAny (model prog w) A (evalPart step env) (fun st s₃ => Sl Q l u st s₃) E s₂) E s₁) E s) :
    wpAny (model prog w) A (eval (.Slice lower upper step p) env) Q E s :=
  wpAny_Slice (wpAny_mono kq (fun l s₁ z => wpAny_mono z (fun u s₂ z => wpAny_mono z (fun st s₃ z => by obtain ⟨h, gs, dr, tk, os⟩ := s₃; exact z) fun _ _ x => x) fun _ _ x => x) fun _ _ x => x)
theorem x_sub {ob i value : Expr} {pos' pos : Pos} {rest : List Stmt}
    (k : wpAny (model prog w) A (eval value env) (fun v s₁ => wpAny (model prog w) A (eval ob env) (fun ov s₂ => wpAny (model prog w) A (eval i env) (fun iv s₃ => wpAny (model prog w) A (setItem ov iv v) (fun _ s₄ => wpAny (model prog w) A (execs rest env) P E s₄) E s₃) E s₂) E s₁) E s)
    (hs : swapsWith value (some (.Subscript ob i pos')) pos.line env = pure false := by rfl) : wpAny (model prog w) A (execs (.Assign [.Subscript ob i pos'] value pos :: rest) env) P E s :=
  wpAny_execs_cons (wpAny_Assign_Subscript k hs)
theorem b_pow1030 {ti tj : Tok} (kq : Q (.int 1000000000000000000000000000000 tk) ⟨h, gs, dr, tk + 1, os⟩) : wpAny (model prog w) A (binaryOp .Pow (.int 10 ti) (.int 30 tj)) Q E ⟨h, gs, dr, tk, os⟩ :=
  AutoIntOps.pow_4 (s := ⟨h, gs, dr, tk, os⟩) (a := 10) (b := 30) (by decide) (by decide) (by decide) (by decide) (by decide +kernel) kq
/-- a slice with a step of one -/
theorem sl_list {value slice : Expr} {vs : List Value} {vl vu : Value} {lo hi : Option Int} (F : Fr g L h m) (N : News g L h led) (hl : h.IsList l vs.toArray) (pl : IsPart vl lo) (pu : IsPart vu hi)
    (kq : ∀ h' D, Fr g L h' m → News g L h' ((D, lstOf (kms_pick vs lo hi) 0) :: led) → (∀ q ∈ led, q.1 < D) → Q (.ref D) ⟨h', gs, dr, tk, os⟩) (hz : vs.length ≤ 1000)
    (hs : subscripted slice false (.ref l) (.ref h.objs.size) = operate [.ref h.objs.size, .ref l] (getItem (.ref l) (.ref h.objs.size)) := by with_unfolding_all rfl) (ht : ∀ r, letTemporaryGo value (.ref l) r = pure () := by intro _; with_unfolding_all rfl) :
    wpAny (model prog w) A (subscriptTail value slice (.ref l) (.ref h.objs.size)) Q E ⟨h.push { cls := .type "slice", data := .fields #[vl, vu, .none] }, gs, dr, tk, os⟩ :=
  kms_slice_lit (s := ⟨h, gs, dr, tk, os⟩) F N hl pl pu rfl (fun D h' F' N' lt => kq h' D F' N' lt) hs ht (by rw [List.size_toArray]; exact Nat.le_trans hz (by decide +kernel))
theorem sl_rev {value slice : Expr} {vs : List Value} {t : Tok} {ops : List Value} (F : Fr g L h m) (N : News g L h led) (hl : h.IsList l vs.toArray)
    (kq : ∀ h' D, Fr g L h' m → News g L h' ((D, lstOf vs.reverse 0) :: led) → (∀ q ∈ led, q.1 < D) → Q (.ref D) ⟨h', gs, dr, tk, os⟩) (hz : vs.length ≤ 1000)
    (hs : subscripted slice false (.ref l) (.ref h.objs.size) = operate ops (getItem (.ref l) (.ref h.objs.size)) := by with_unfolding_all rfl) (ht : ∀ r, letTemporaryGo value (.ref l) r = pure () := by intro _; with_unfolding_all rfl) :
    wpAny (model prog w) A (subscriptTail value slice (.ref l) (.ref h.objs.size)) Q E ⟨h.push { cls := .type "slice", data := .fields #[.none, .none, .int (-1) t] }, gs, dr, tk, os⟩ :=
  krv_lit (s := ⟨h, gs, dr, tk, os⟩) F N hl (.int _ _) rfl (fun D h' F' N' lt => kq h' D F' N' lt) hs ht (by rw [List.size_toArray]; exact Nat.le_trans hz (by decide +kernel))
/-- over a list of the ledger's -/
theorem for_lst {vs : List Value} {nn : Nat} {body : List Stmt} (J : Nat → (Str → Option Value) → List (Addr × Obj) → Prop)
    (hh : A.handled = none) (hl : h.get? l = some (lstOf vs nn)) (hlL : l ≠ L) (F : Fr g L h m) (N : News g L h led) (hj : J 0 m led) (hJw : ∀ i m' led', J i m' led' → led'.map (·.1) = led.map (·.1))
    (turn : ∀ i v m₁ led₁ h₁ tk₁ own, vs[i]? = some v → J i m₁ led₁ → Fr g L h₁ (lo [(x, v)] m₁) → News g L h₁ (led₁ ++ own) →
      wpAny (model prog w) A (execs body (envX cn cs L a ccd cl)) (TurnP g L gs dr os own (J (i + 1)) P) (fun _ _ => False) ⟨h₁, gs, dr, tk₁, os⟩)
    (done : ∀ m' led' h' tk', J vs.length m' led' → Fr g L h' m' → News g L h' led' → P .next ⟨h', gs, dr, tk', os⟩) :
    wpAny (model prog w) A (pyIter (.ref l)) (fun it s₂ => LoopAtV prog w A g (envX cn cs L a ccd cl) x body P (fun _ _ => False) it s₂) (fun _ _ => False) ⟨h, gs, dr, tk, os⟩ := by
  have hls : h.IsList l vs.toArray := ⟨_, hl, rfl, nn, rfl⟩
  have hlh : l < h.objs.size := Heap.lt_size hl
  have hLh : L < h.objs.size := F.ns.lt
  refine wpAny_pyIter_list (s := ⟨h, gs, dr, tk, os⟩) hls ?_
  refine for_core J (fp := [h.objs.size, l]) (Walks.list (prog := prog) (w := w) hh h.objs.size l (Nat.ne_of_lt hlh) vs.toArray) ?_ ?_ ?_ ⟨⟨_, Heap.get?_push_size _ rfl, rfl, rfl⟩, ⟨_, Heap.get?_push_of_some _ hl, rfl, nn, rfl⟩⟩ (F.push _) (fun q hq => ⟨Heap.get?_push_of_some _ (N q hq).1, (N q hq).2⟩) hj hJw ?_ ?_
  · intro hm
    rcases List.mem_cons.mp hm with e | hm
    · exact Nat.ne_of_lt hLh e
    · exact hlL (List.mem_singleton.mp hm).symm
  · intro b hb
    rw [List.mem_singleton.mp hb]
    exact next_is_new F
  · intro q hq hI
    exact absurd (Heap.lt_size (N q hq).1) ((List.mem_singleton.mp hI) ▸ Nat.lt_irrefl _)
  · intro i v m₁ led₁ h₁ tk₁ own hin hP hJ ho F₁ N₁
    exact turn i v m₁ led₁ h₁ tk₁ own (by simpa using hP) hJ F₁ N₁
  · intro m' led' h' tk' hJ F' N'
    exact done m' led' h' tk' (by simpa using hJ) F' N'
/-! the heap of digits: a list of two numbers -/
noncomputable def HO (o : Obj) (c : Int) : Prop := ∃ x, LObj o [x, c]
theorem i_h0 {value slice : Expr} {u : Tok} {x c : Int} (e : h.get? l = some o) (H : LObj o [x, c]) (kq : ∀ t, Q (.int x t) ⟨h, gs, dr, tk, os⟩)
    (hs : subscripted slice false (.ref l) (.int 0 u) = operate [.ref l, .int 0 u] (getItem (.ref l) (.int 0 u)) := by with_unfolding_all rfl) :
    wpAny (model prog w) A (subscriptTail value slice (.ref l) (.int 0 u)) Q E ⟨h, gs, dr, tk, os⟩ := i_lst (zs := [x, c]) (LObj.list e H) (by decide) (by simp) (by simp) kq hs
theorem i_h1 {value slice : Expr} {u : Tok} {x c : Int} (e : h.get? l = some o) (H : LObj o [x, c]) (kq : ∀ t, Q (.int c t) ⟨h, gs, dr, tk, os⟩)
    (hs : subscripted slice false (.ref l) (.int 1 u) = operate [.ref l, .int 1 u] (getItem (.ref l) (.int 1 u)) := by with_unfolding_all rfl) :
    wpAny (model prog w) A (subscriptTail value slice (.ref l) (.int 1 u)) Q E ⟨h, gs, dr, tk, os⟩ := i_lst (zs := [x, c]) (LObj.list e H) (by decide) (by simp) (by simp) kq hs
theorem s_h {z k : Int} {u t : Tok} {zs : List Int} (F : Fr g L h m) (N : News g L h ((l, o) :: rest)) (H : LObj o zs) (hd : ∀ q ∈ rest, q.1 ≠ l) (h0 : 0 ≤ k) (hk : k.toNat < zs.length) (hz : zs.length ≤ 1000)
    (kq : ∀ h' o', Fr g L h' m → News g L h' ((l, o') :: rest) → LObj o' (zs.set k.toNat z) → QU () ⟨h', gs, dr, tk, os⟩) : wpAny (model prog w) A (setItem (.ref l) (.int k u) (.int z t)) QU E ⟨h, gs, dr, tk, os⟩ := by
  obtain ⟨qs, rfl, hl⟩ := LObj.list (N _ (.head _)).1 H
  simp only [List.length_map] at hk hz
  refine s_item (pre := []) F N hl (fun _ hq => nomatch hq) hd h0 (by simpa using hk) (by simp; omega) (fun h' o' F' N' hl' => ?_)
  rw [setq.1] at hl'
  have e := setq (qs := qs) (k := k.toNat) (z := z) (u := t)
  exact kq h' o' F' N' (e.2 ▸ LObj.of (N' _ (.head _)).1 hl')
theorem s_h0 {z x c : Int} {u t : Tok} (F : Fr g L h m) (N : News g L h ((l, o) :: rest)) (H : LObj o [x, c]) (hd : ∀ q ∈ rest, q.1 ≠ l)
    (kq : ∀ h' o', Fr g L h' m → News g L h' ((l, o') :: rest) → LObj o' [z, c] → QU () ⟨h', gs, dr, tk, os⟩) : wpAny (model prog w) A (setItem (.ref l) (.int 0 u) (.int z t)) QU E ⟨h, gs, dr, tk, os⟩ := s_h F N H hd (by decide) (by simp) (by simp) kq
theorem s_h1 {z x c : Int} {u t : Tok} (F : Fr g L h m) (N : News g L h ((l, o) :: rest)) (H : LObj o [x, c]) (hd : ∀ q ∈ rest, q.1 ≠ l)
    (kq : ∀ h' o', Fr g L h' m → News g L h' ((l, o') :: rest) → LObj o' [x, z] → QU () ⟨h', gs, dr, tk, os⟩) : wpAny (model prog w) A (setItem (.ref l) (.int 1 u) (.int z t)) QU E ⟨h, gs, dr, tk, os⟩ := s_h F N H hd (by decide) (by simp) (by simp) kq
theorem ho_back {h' : Heap} {o' : Obj} (F : Fr g L h m) (N : News g L h ((a, o) :: rest)) (hd : ∀ q ∈ rest, q.1 ≠ a) (e : Ext [a] h h') (eo : h'.get? a = some o') : Fr g L h' m ∧ News g L h' ((a, o') :: rest) := by
  refine ⟨Fr.ext F e fun b hb => List.mem_singleton.mp hb ▸ (N _ (.head _)).2, fun q hq => ?_⟩
  rcases List.mem_cons.mp hq with rfl | hq
  · exact ⟨eo, (N _ (.head _)).2⟩
  · have z := N q (.tail _ hq)
    exact ⟨e _ _ z.1 fun hm => hd q hq (List.mem_singleton.mp hm), z.2⟩
theorem led_sw {q q0 : Addr × Obj} (N : News g L h (q :: q0 :: rest)) : News g L h (q0 :: q :: rest) := News.sub N fun r hr => by
  rcases List.mem_cons.mp hr with rfl | hr
  · exact .tail _ (.head _)
  · rcases List.mem_cons.mp hr with rfl | hr
    · exact .head _
    · exact .tail _ (.tail _ hr)
theorem hr_cons {q : Addr × Obj} (e : q.1 ≠ a) (hr : ∀ r ∈ rest, r.1 ≠ a) : ∀ r ∈ q :: rest, r.1 ≠ a := fun r h => by
  rcases List.mem_cons.mp h with rfl | h
  · exact e
  · exact hr r h
end
end Mine
set_option hygiene false in
local macro_rules | `(tactic| walk_at "mS") => `(tactic| first
   | ((with_reducible show wpAny _ _ (eval (Expr.Slice _ _ _ _) _) _ _ _); refine e_slc ?_)
   | ((with_reducible show wpAny _ _ (evalPart _ _) _ _ _); refine p_none ?_)
   | ((with_reducible show wpAny _ _ (evalPart _ _ ) _ _ _); refine p_some ?_)
   | ((with_reducible show wpAny _ _ (execs (Stmt.Assign [Expr.Subscript _ _ _] _ _ :: _) _) _ _ _); refine x_sub ?_)
   | ((with_reducible show wpAny _ _ (binaryOp Operator.Pow _ _) _ _ _); refine b_pow1030 ?_)
   | ((with_reducible show Sl _ _ _ _ _); refine sl_go ?_))
set_option hygiene false in
local macro_rules | `(tactic| walk_at "mU") => `(tactic| ((try replace u0 := up_tr u0 uu); (try replace u1 := up_tr u1 uu); (try replace u2 := up_tr u2 uu); (try replace u3 := up_tr u3 uu); (try replace u4 := up_tr u4 uu); (try replace u5 := up_tr u5 uu); (try replace u6 := up_tr u6 uu); (try replace u7 := up_tr u7 uu); (try replace u8 := up_tr u8 uu); (try replace u9 := up_tr u9 uu); (try replace u10 := up_tr u10 uu); (try replace u11 := up_tr u11 uu); clear uu))
/-! Law1 -/
namespace Mine
section
variable {prog : Program} {w : World} {A : Around} {E : Value → Shared → Prop} {h g : Heap} {gs : Array GenState} {dr : Drawn} {tk : Nat} {os : OsState} {L a : Addr} {m : Str → Option Value}
  {cn : Str} {cs : Scope} {ccd : Value} {cl : List (Str × Addr)} {p : Program} {loose : List Str} {mg mb : Str → Option Value} {Q : Value → Shared → Prop} {pos : Pos}

variable {x c many z : Int} {tm t : Tok} {o : Obj} {l : Addr} {qs : List (Int × Tok)}
theorem take_c (R : Rm 1 A) (G : Gd w p loose mg mb h) (gb : Heap) (Gb : Gd w p loose mg mb gb) (ho : h.get? a = some o) (hf : gb.get? a = none) (H : HO o c) (hc : 0 ≤ c ∧ c < 1000) (hm : 0 < many ∧ many < 1000)
    (kq : ∀ h' tk' o' r t, Ext [a] h h' → h'.get? a = some o' → HO o' (c + 1) → 0 ≤ r → r < many → Q (.int r t) ⟨h', gs, dr, tk', os⟩) :
    wpAny (model prog w) A (call (.ref 619) [.ref a, .int many tm]) Q E ⟨h, gs, dr, tk, os⟩ := by
  obtain ⟨x, H⟩ := H
  refine call_fnW (n := 0) (binds := [(Str.ofString "heap", .ref a), (Str.ofString "many", .int many tm)]) R G gb Gb [(a, o)] (fun q hq => by rw [List.mem_singleton.mp hq]; exact ho) (fun q hq => by rw [List.mem_singleton.mp hq]; exact hf) (by k_is) (by k_is) (BindsTo.of_eq (by rfl)) (by rfl) (fun A g L h₁ tk R F N G sg => ?_)
  have fin : ∀ {h' : Heap} {m : Str → Option Value}, Fr g L h' m → Ext [a] h h' := fun F b ob e hm => F.keep _ _ (sg _ _ e (by simpa using hm))
  repeat (first
   | ((with_reducible show wpAny _ _ (subscriptTail _ _ (Value.ref _) (Value.int 0 _)) _ _ _); (refine i_h0 (N _ (.head _)).1 H ?_; intro t))
   | ((with_reducible show wpAny _ _ (subscriptTail _ _ (Value.ref _) (Value.int 1 _)) _ _ _); (refine i_h1 (N _ (.head _)).1 H ?_; intro t))
   | ((with_reducible show wpAny _ _ (setItem (Value.ref _) (Value.int 0 _) _) _ _ _); (refine s_h0 F N H (fun _ hq => nomatch hq) ?_; clear F N H; intro h o F N H))
   | ((with_reducible show wpAny _ _ (setItem (Value.ref _) (Value.int 1 _) _) _ _ _); (refine s_h1 F N H (fun _ hq => nomatch hq) ?_; clear F N H; intro h o F N H))
   | walk_at "mS")
  · exact kq _ _ _ _ _ (fin F) (N _ (.head _)).1 ⟨_, H⟩ (Int.fmod_nonneg_of_pos _ hm.1) (Int.fmod_lt_of_pos _ hm.1)
  · exact kq _ _ _ _ _ (fin F) (N _ (.head _)).1 ⟨_, H⟩ (Int.fmod_nonneg_of_pos _ hm.1) (Int.fmod_lt_of_pos _ hm.1)
theorem size_c (R : Rm 2 A) (G : Gd w p loose mg mb h) (gb : Heap) (Gb : Gd w p loose mg mb gb) (ho : h.get? a = some o) (hf : gb.get? a = none) (H : HO o c) (hc : 0 ≤ c ∧ c < 990)
    (kq : ∀ h' tk' o' c' r t, Ext [a] h h' → h'.get? a = some o' → HO o' c' → c ≤ c' → c' ≤ c + 3 → -4194304 < r → r < 4194304 → Q (.int r t) ⟨h', gs, dr, tk', os⟩) :
    wpAny (model prog w) A (call (.ref 626) [.ref a]) Q E ⟨h, gs, dr, tk, os⟩ := by
  refine call_fnW (n := 1) (binds := [(Str.ofString "heap", .ref a)]) R G gb Gb [(a, o)] (fun q hq => by rw [List.mem_singleton.mp hq]; exact ho) (fun q hq => by rw [List.mem_singleton.mp hq]; exact hf) (by k_is) (by k_is) (BindsTo.of_eq (by rfl)) (by rfl) (fun A g L h₁ tk R F N G sg => ?_)
  have fin : ∀ {h' : Heap} {m : Str → Option Value}, Fr g L h' m → Ext [a] h h' := fun F b ob e hm => F.keep _ _ (sg _ _ e (by simpa using hm))
  obtain ⟨c0, hc0⟩ : ∃ c0, c0 = c := ⟨_, rfl⟩
  repeat (first
   | ((with_reducible show wpAny _ _ (call (Value.ref 619) _) _ _ _); (refine take_c (R.le (by decide)) (G.fr F) g G (N _ (.head _)).1 (N _ (.head _)).2.2 H (by omega) (by omega) ?_; intro h tk o r t e eo H r0 r1; have Z := ho_back F N (fun _ hq => nomatch hq) e eo; clear F N; obtain ⟨F, N⟩ := Z; clear e eo))
   | ((with_reducible show wpAny _ _ (eval (Expr.Call (Expr.Name (Str.ofString "_law_take") _) _ _ _) _) _ _ _); refine e_call2 (kp_law_take _) (n_law_take F G ⟨rfl, ?_⟩ (by rfl) (by rfl)))
   | walk_at "mS")
  all_goals exact kq _ _ _ _ _ _ (fin F) (N _ (.head _)).1 H (by omega) (by omega) (by omega) (by omega)
end
end Mine
/-! Law2 -/
namespace Mine
noncomputable def bdS (z : Int) : Prop := -4194304 < z ∧ z < 4194304
noncomputable def Nd.bd : Nd → Prop
  | .box _ w h d s => bdS w ∧ bdS h ∧ bdS d ∧ bdS s
  | .skip gw st _ sk _ _ lead => bdS gw ∧ bdS st ∧ bdS sk ∧ (∀ lw, lead = some lw → bdS lw)
  | .rule w h d => (∀ z, w = some z → 0 ≤ z ∧ z ≤ 9) ∧ (∀ z, h = some z → 0 ≤ z ∧ z ≤ 9) ∧ (∀ z, d = some z → 0 ≤ z ∧ z ≤ 9)
  | .kern w => bdS w
  | _ => True
section
variable {prog : Program} {w : World} {A : Around} {E : Value → Shared → Prop} {h g : Heap} {gs : Array GenState} {dr : Drawn} {tk : Nat} {os : OsState} {L a : Addr} {m : Str → Option Value}
  {cn : Str} {cs : Scope} {ccd : Value} {cl : List (Str × Addr)} {p : Program} {loose : List Str} {mg mb : Str → Option Value} {Q : Value → Shared → Prop} {pos : Pos}

variable {x c many z : Int} {tm t : Tok} {o : Obj} {l : Addr} {qs : List (Int × Tok)} {rest : List (Addr × Obj)}
theorem law_heap_c (R : Rm 1 A) (G : Gd w p loose mg mb g) (hl : g.IsList l (qs.map iV).toArray) (hz : qs.length ≤ 63)
    (kq : ∀ h' tk' t o, Up g h' → g.get? t = none → h'.get? t = some o → HO o 0 → Q (.ref t) ⟨h', gs, dr, tk', os⟩) :
    wpAny (model prog w) A (call (.ref 612) [.ref l]) Q E ⟨g, gs, dr, tk, os⟩ := by
  refine call_fn (n := 0) (binds := [(Str.ofString "script", .ref l)]) R G (by k_is) (by k_is) (by first | exact BindsTo.of_eq (by rfl) | exact binds_K G.x rfl (by k_is) rfl rfl rfl) (by rfl) (fun A L h tk R F N => ?_)
  repeat (first
   | walk_at "mS")
  refine x_for g ?_
  repeat (first
   | ((with_reducible show wpAny _ _ (subscriptTail _ _ _ _) _ _ _); (refine sl_list F N (hl.at fun o e => F.keep _ _ e) .none (.int _ _) ?_ (by simp; omega); clear F N; intro h D F N lt))
   | walk_at "mS")
  refine for_lst (fun i m' led' => led' = [(D, lstOf (kms_pick (qs.map iV) none (some 24)) 0)] ∧ ∃ z t, m' (Str.ofString "whole_one") = some (.int z t)) R.hd (N _ (.head _)).1 (N _ (.head _)).2.1 F N ⟨rfl, _, _, (by rfl : lo _ _ _ = _)⟩ (fun i m' led' z => by rw [z.1]) ?_ ?_
  · clear N F lt
    rintro i v m₁ led₁ h tk own hv ⟨rfl, z, tz, m1⟩ F N
    obtain ⟨q, rfl⟩ : ∃ q : Int × Tok, v = iV q := by
      have := List.mem_of_mem_drop (List.mem_of_mem_take (List.mem_of_getElem? hv))
      obtain ⟨q, _, e⟩ := List.mem_map.mp this
      exact ⟨q, e.symm⟩
    obtain ⟨q, tq⟩ := q
    simp only [iV] at F hv
    repeat (first
   | ((with_reducible show wpAny _ _ (eval (Expr.Call (Expr.Name (Str.ofString "abs") _) _ _ _) _) _ _ _); refine e_bcall1 (n_abs F G ⟨rfl, ?_⟩ (by rfl) (by rfl)))
   | ((with_reducible show wpAny _ _ (call (Value.builtin "abs") _) _ _ _); (with_reducible refine k_abs ?_; intro t tk))
   | ((with_reducible show wpAny _ _ (eval (Expr.Call (Expr.Name (Str.ofString "int") _) _ _ _) _) _ _ _); refine e_tcall1 (n_int F G ⟨rfl, ?_⟩ (by rfl) (by rfl)))
   | ((with_reducible show wpAny _ _ (call (Value.type "int") _) _ _ _); (with_reducible refine k_int_bool ?_))
   | walk_at "mS")
    all_goals exact ⟨_, _, _, _, rfl, F, N, rfl, _, _, (by rfl : lo _ _ _ = _)⟩
  · rintro m' led' h tk ⟨rfl, z, tz, m1⟩ F N
    show wpAny _ _ _ _ _ _
    repeat (first
   | walk_at "mS")
    all_goals exact kq _ _ _ _ F.keep (N _ (.head _)).2.2 (N _ (.head _)).1 ⟨z, [(z, tz), (0, _)], rfl, rfl, _, rfl⟩
theorem nb_of {h0 b' : Heap} {o0 : Obj} (sg : ∀ b o, h0.get? b = some o → b ∉ [(a, o0)].map (·.1) → g.get? b = some o) (N : News g L h ((a, o) :: rest)) (hr : ∀ q ∈ rest, q.1 ≠ a) (H : ∀ a o, Nw h0 h a o → b'.get? a = some o) : ∀ q ∈ rest, b'.get? q.1 = some q.2 := fun q hq => by
  refine H _ _ ⟨?_, (N q (.tail _ hq)).1⟩
  cases e : h0.get? q.1 with
  | none => rfl
  | some o' => have := sg _ _ e (by simpa using hr q hq); rw [(N q (.tail _ hq)).2.2] at this; cases this
theorem led_new1 {h' : Heap} {b : Addr} {ob : Obj} (F : Fr g L h m) (N : News g L h ((a, o) :: rest)) (hr : ∀ q ∈ rest, q.1 ≠ a) (u : Up h h') (e : h.get? b = none) (e' : h'.get? b = some ob) : News g L h' ((a, o) :: (b, ob) :: rest) ∧ (∀ q ∈ (b, ob) :: rest, q.1 ≠ a) :=
  ⟨led_sw (new_at F (News.up N u) e e'), hr_cons (Ne.symm (ne_of_old (N _ (.head _)).1 e)) hr⟩
theorem led_new {P : Params} {h' : Heap} {x dx C : Addr} {oi : Obj} {fs : List (Str × Value)} (F : Fr g L h m) (N : News g L h ((a, o) :: rest)) (hr : ∀ q ∈ rest, q.1 ≠ a) (I : NewI P h h' x dx C oi fs) :
    Fr g L h' m ∧ News g L h' ((a, o) :: (x, instObj C dx) :: (dx, oi) :: rest) ∧ (∀ q ∈ (x, instObj C dx) :: (dx, oi) :: rest, q.1 ≠ a) :=
  ⟨Fr.up F I.up, led_sw (new_at F (led_sw (new_at F (News.up N I.up) I.nd I.dat)) I.nx I.at_), hr_cons (Ne.symm (ne_of_old (N _ (.head _)).1 I.nx)) (hr_cons (Ne.symm (ne_of_old (N _ (.head _)).1 I.nd)) hr)⟩
theorem m_list2 {vs : List Value} (F : Fr g L h m) (N : News g L h ((a, o) :: rest)) (hr : ∀ q ∈ rest, q.1 ≠ a) (kq : ∀ h' l, Fr g L h' m → News g L h' ((a, o) :: (l, lstOf vs 0) :: rest) → (∀ q ∈ (l, lstOf vs 0) :: rest, q.1 ≠ a) → (∀ q ∈ rest, q.1 < l) → Q (.ref l) ⟨h', gs, dr, tk, os⟩) (hz : vs.length ≤ 1000 := by exact Nat.le_of_ble_eq_true rfl) :
    wpAny (model prog w) A (newList vs) Q E ⟨h, gs, dr, tk, os⟩ := m_list F N (fun h' l F' N' lt => kq h' l F' (led_sw N') (hr_cons (Nat.ne_of_gt (lt _ (.head _))) hr) fun q hq => lt q (.tail _ hq)) hz
theorem m_tup2 {vs : List Value} (F : Fr g L h m) (N : News g L h ((a, o) :: rest)) (hr : ∀ q ∈ rest, q.1 ≠ a) (kq : ∀ h' l, Fr g L h' m → News g L h' ((a, o) :: (l, tupOf vs) :: rest) → (∀ q ∈ (l, tupOf vs) :: rest, q.1 ≠ a) → (∀ q ∈ rest, q.1 < l) → Q (.ref l) ⟨h', gs, dr, tk, os⟩) (hz : vs.length ≤ 1000 := by exact Nat.le_of_ble_eq_true rfl) :
    wpAny (model prog w) A (newTuple vs) Q E ⟨h, gs, dr, tk, os⟩ := m_tup F N (fun h' l F' N' lt => kq h' l F' (led_sw N') (hr_cons (Nat.ne_of_gt (lt _ (.head _))) hr) fun q hq => lt q (.tail _ hq)) hz
theorem b_mod2 {i : Int} {ti tj : Tok} (kq : ∀ r, 0 ≤ r → r < 2 → Q (.int r tk) ⟨h, gs, dr, tk + 1, os⟩) : wpAny (model prog w) A (binaryOp .Mod (.int i ti) (.int 2 tj)) Q E ⟨h, gs, dr, tk, os⟩ := b_mod (by decide) (kq _ (Int.fmod_nonneg_of_pos _ (by decide)) (Int.fmod_lt_of_pos _ (by decide)))
theorem i_menu {value slice : Expr} {r z : Int} {u tz : Tok} {n : Nat} (e : h.get? l = some (lstOf [.none, .int z tz] n)) (h0 : 0 ≤ r) (h1 : r < 2) (kq : ∀ oa, (∀ q, oa = some q → q.1 = z) → Q (OvV oa) ⟨h, gs, dr, tk, os⟩)
    (hs : subscripted slice false (.ref l) (.int r u) = operate [.ref l, .int r u] (getItem (.ref l) (.int r u)) := by with_unfolding_all rfl) :
    wpAny (model prog w) A (subscriptTail value slice (.ref l) (.int r u)) Q E ⟨h, gs, dr, tk, os⟩ := by
  have : r = 0 ∨ r = 1 := by omega
  rcases this with rfl | rfl
  · exact i_list (vs := [.none, .int z tz]) ⟨_, e, rfl, _, rfl⟩ h0 (by decide) rfl (kq none fun _ q => nomatch q) hs
  · exact i_list (vs := [.none, .int z tz]) ⟨_, e, rfl, _, rfl⟩ h0 (by decide) rfl (kq (some (z, tz)) fun _ q => by cases q; rfl) hs
end
end Mine
/-! Law3 -/
namespace Mine
section
variable {prog : Program} {w : World} {A : Around} {E : Value → Shared → Prop} {h g : Heap} {gs : Array GenState} {dr : Drawn} {tk : Nat} {os : OsState} {L a : Addr} {m : Str → Option Value}
  {cn : Str} {cs : Scope} {ccd : Value} {cl : List (Str × Addr)} {p : Program} {loose : List Str} {mg mb : Str → Option Value} {Q : Value → Shared → Prop} {pos : Pos}

variable {x c orders z : Int} {tm t : Tok} {o : Obj}
theorem led_box {P : Params} {h' : Heap} {x dx rt : Addr} {oi ot : Obj} {fs : List (Str × Value)} {rest : List (Addr × Obj)} (F : Fr g L h m) (N : News g L h ((a, o) :: rest)) (hr : ∀ q ∈ rest, q.1 ≠ a) (I : NewI P h h' x dx 342 oi fs) (nr : h.get? rt = none) (er : h'.get? rt = some ot) :
    Fr g L h' m ∧ News g L h' ((a, o) :: (rt, ot) :: (x, instObj 342 dx) :: (dx, oi) :: rest) ∧ (∀ q ∈ (rt, ot) :: (x, instObj 342 dx) :: (dx, oi) :: rest, q.1 ≠ a) ∧ (∀ q ∈ rest, q.1 ≠ dx) :=
  let Z := led_new F N hr I
  ⟨Z.1, led_sw (new_at F Z.2.1 nr er), hr_cons (Ne.symm (ne_of_old (N _ (.head _)).1 nr)) Z.2.2, fun q hq => ne_of_old (N q (.tail _ hq)).1 I.nd⟩
theorem rl_bd {oa : Option (Int × Tok)} {z : Int} (H : ∀ q, oa = some q → q.1 = z) (hz : -1073741823 ≤ z ∧ z ≤ 1073741823) : ∀ q, oa = some q → -1073741823 ≤ q.1 ∧ q.1 ≤ 1073741823 := fun q e => by rw [H q e]; exact hz
theorem rl_in {oa : Option (Int × Tok)} {z : Int} (H : ∀ q, oa = some q → q.1 = z) (hz : 0 ≤ z ∧ z ≤ 9) : ∀ y, oa.map (·.1) = some y → 0 ≤ y ∧ y ≤ 9 := fun y e => by
  cases oa with
  | none => cases e
  | some q => cases e; have := H q rfl; show 0 ≤ q.1 ∧ q.1 ≤ 9; rw [this]; exact hz
theorem oint_ov {oa : Option (Int × Tok)} : OInt (OvV oa) (oa.map (·.1)) := by
  rcases oa with _ | ⟨i, t⟩
  · rfl
  · exact ⟨t, rfl⟩
theorem part_c (R : Rm 6 A) (G : Gd w p loose mg mb h) (gb : Heap) (Gb : Gd w p loose mg mb gb) (ho : h.get? a = some o) (hf : gb.get? a = none) (H : HO o c) (hc : 0 ≤ c ∧ c < 900) (hor : 1 ≤ orders ∧ orders ≤ 4)
    (kq : ∀ h' tk' o' c' x n, Ext [a] h h' → h'.get? a = some o' → HO o' c' → c ≤ c' → c' ≤ c + 20 → (∀ b' : Heap, (∀ a o, Nw h h' a o → b'.get? a = some o) → DN w.params b' x n) → n.ok → n.bd → Q (.ref x) ⟨h', gs, dr, tk', os⟩) :
    wpAny (model prog w) A (call (.ref 633) [.ref a, .int orders tm]) Q E ⟨h, gs, dr, tk, os⟩ := by
  obtain ⟨c0, hc0⟩ : ∃ c0, c0 = c := ⟨_, rfl⟩
  refine call_fnW (n := 5) (binds := [(Str.ofString "heap", .ref a), (Str.ofString "orders", .int orders tm)]) R G gb Gb [(a, o)] (fun q hq => by rw [List.mem_singleton.mp hq]; exact ho) (fun q hq => by rw [List.mem_singleton.mp hq]; exact hf) (by k_is) (by k_is) (BindsTo.of_eq (by rfl)) (by rfl) (fun A g L h₁ tk R F N G sg => ?_)
  have fin : ∀ {h' : Heap} {m : Str → Option Value}, Fr g L h' m → Ext [a] h h' := fun F b ob e hm => F.keep _ _ (sg _ _ e (by simpa using hm))
  have hr : ∀ q ∈ ([] : List (Addr × Obj)), q.1 ≠ a := fun _ hq => nomatch hq
  repeat (first
   | ((with_reducible show wpAny _ _ (call (Value.ref 619) _) _ _ _); (refine take_c (R.le (by decide)) (G.fr F) g G (N _ (.head _)).1 (N _ (.head _)).2.2 H (by omega) (by omega) ?_; intro h tk o r t e eo H r0 r1; have Z := ho_back F N hr e eo; clear F N; obtain ⟨F, N⟩ := Z; clear e eo))
   | ((with_reducible show wpAny _ _ (call (Value.ref 626) _) _ _ _); (refine size_c (R.le (by decide)) (G.fr F) g G (N _ (.head _)).1 (N _ (.head _)).2.2 H (by omega) ?_; intro h tk o c r t e eo H d0 d1 r0 r1; have Z := ho_back F N hr e eo; clear F N; obtain ⟨F, N⟩ := Z; clear e eo))
   | ((with_reducible show wpAny _ _ (newList _) _ _ _); (refine m_list2 F N hr ?_; clear F N hr; intro h l F N hr hlt))
   | ((with_reducible show wpAny _ _ (newTuple _) _ _ _); (refine m_tup2 F N hr ?_; clear F N hr; intro h tt F N hr hlt))
   | ((with_reducible show wpAny _ _ (binaryOp Operator.Mod (Value.int _ _) (Value.int 2 _)) _ _ _); (refine b_mod2 ?_; intro r r0 r1))
   | ((with_reducible show wpAny _ _ (eval (Expr.Call (Expr.Name (Str.ofString "Box") _) _ _ _) _) _ _ _); (refine e_call5 (kp_Box _) (n_Box F G ⟨rfl, ?_⟩ (by rfl) (by rfl))))
   | ((with_reducible show wpAny _ _ (call (Value.ref 342) _) _ _ _); (refine mk_Box_c (R.le (by decide)) (G.fr F) (by omega) (by omega) (by omega) (by omega) ?_; intro h tk xb db ob rt u1 u2 u3 u4 I nr er q1 q2; have hOb := I.isd; have hnb := I.ne; have Z1 := led_box F N hr I nr er; clear F N hr I nr er; obtain ⟨F, N, hr, hold⟩ := Z1))
   | ((with_reducible show wpAny _ _ (eval (Expr.Call (Expr.Name (Str.ofString "Glue") _) _ _ _) _) _ _ _); (refine e_call5 (kp_Glue _) (n_Glue F G ⟨rfl, ?_⟩ (by rfl) (by rfl))))
   | ((with_reducible show wpAny _ _ (call (Value.ref 234) _) _ _ _); (refine mk_Glue_c (R.le (by decide)) (G.fr F) (by omega) (by omega) (by omega) (by omega) (by omega) ?_; intro h tk xg dg og g1 g2 u1 u2 eg1 eg2 I; have hOg := I.isd; have Z1 := led_new F N hr I; clear F N hr I; obtain ⟨F, N, hr⟩ := Z1))
   | ((with_reducible show wpAny _ _ (eval (Expr.Call (Expr.Name (Str.ofString "Skip") _) [_, _] _ _) _) _ _ _); (refine e_call2 (kp_Skip _) (n_Skip F G ⟨rfl, ?_⟩ (by rfl) (by rfl))))
   | ((with_reducible show wpAny _ _ (eval (Expr.Call (Expr.Name (Str.ofString "Skip") _) [_, _, _] _ _) _) _ _ _); (refine e_call3 (kp_Skip _) (n_Skip F G ⟨rfl, ?_⟩ (by rfl) (by rfl))))
   | ((with_reducible show wpAny _ _ (eval (Expr.Call (Expr.Name (Str.ofString "Rule") _) _ _ _) _) _ _ _); (refine e_call3 (kp_Rule _) (n_Rule F G ⟨rfl, ?_⟩ (by rfl) (by rfl))))
   | ((with_reducible show wpAny _ _ (eval (Expr.Call (Expr.Name (Str.ofString "Kern") _) _ _ _) _) _ _ _); (refine e_call2 (kp_Kern _) (n_Kern F G ⟨rfl, ?_⟩ (by rfl) (by rfl))))
   | ((with_reducible show wpAny _ _ (eval (Expr.Call (Expr.Name (Str.ofString "Penalty") _) _ _ _) _) _ _ _); (refine e_call1 (kp_Penalty _) (n_Penalty F G ⟨rfl, ?_⟩ (by rfl) (by rfl))))
   | ((with_reducible show wpAny _ _ (eval (Expr.Call (Expr.Name (Str.ofString "Mark") _) _ _ _) _) _ _ _); (refine e_call1 (kp_Mark _) (n_Mark F G ⟨rfl, ?_⟩ (by rfl) (by rfl))))
   | ((with_reducible show wpAny _ _ (call (Value.ref 406) [_, _]) _ _ _); (refine mk_Skip0_c (R.le (by decide)) (G.fr F) rfl ?_; intro h tk xs ds os_ I; have hOs := I.isd; have Z1 := led_new F N hr I; clear F N hr I; obtain ⟨F, N, hr⟩ := Z1))
   | ((with_reducible show wpAny _ _ (call (Value.ref 384) _) _ _ _); (refine mk_Kern_c (R.le (by decide)) (G.fr F) (by omega) ?_; intro h tk xs ds os_ I; have hOs := I.isd; have Z1 := led_new F N hr I; clear F N hr I; obtain ⟨F, N, hr⟩ := Z1))
   | ((with_reducible show wpAny _ _ (call (Value.ref 427) _) _ _ _); (refine mk_Penalty_c (R.le (by decide)) (G.fr F) (by omega) ?_; intro h tk xs ds os_ I; have hOs := I.isd; have Z1 := led_new F N hr I; clear F N hr I; obtain ⟨F, N, hr⟩ := Z1))
   | ((with_reducible show wpAny _ _ (subscriptTail _ _ (Value.ref _) (Value.int _ _)) _ _ _); (refine i_menu (N _ (.tail _ (.head _))).1 (by omega) (by omega) ?_; intro oa hoa))
   | ((with_reducible show wpAny _ _ (eval (Expr.Call (Expr.Name (Str.ofString "_law_take") _) _ _ _) _) _ _ _); refine e_call2 (kp_law_take _) (n_law_take F G ⟨rfl, ?_⟩ (by rfl) (by rfl)))
   | ((with_reducible show wpAny _ _ (eval (Expr.Call (Expr.Name (Str.ofString "_law_size") _) _ _ _) _) _ _ _); refine e_call1 (kp_law_size _) (n_law_size F G ⟨rfl, ?_⟩ (by rfl) (by rfl)))
   | walk_at "mS")
  · refine s_attr (pre := [(a, o), (rt, _), (xb, _)]) (setOk_of (ca_Box _) (fa_Box_shift _)) F N G (N _ (.tail _ (.tail _ (.head _)))).1 hOb (by
      intro q hq
      simp only [List.mem_cons, List.not_mem_nil, or_false] at hq
      rcases hq with rfl | rfl | rfl
      · exact Ne.symm (hr (db, ob) (.tail _ (.tail _ (.head _))))
      · exact q2
      · exact hnb) hold (Nat.le_of_ble_eq_true rfl) ?_
    clear hOb F
    intro h o' F N hO
    have hr := hr_cons (hr _ (.head _)) (hr_cons (hr _ (.tail _ (.head _))) (hr_cons (q := (db, o')) (hr (db, ob) (.tail _ (.tail _ (.head _)))) fun q hq => hr q (.tail _ (.tail _ (.tail _ hq)))))
    simp only [List.cons_append, List.nil_append] at N
    repeat (first
   | walk_at "mS")
    exact kq _ _ _ _ _ (.box _ _ _ _ _) (fin F) (N _ (.head _)).1 H (by omega) (by omega) (fun b' nb => have M := nb_of sg N hr nb; ⟨by omega, _, rt, _, _, _, _, _, _, _, _, _, Inst.of (M _ (.tail _ (.head _))) hO (M _ (.tail _ (.tail _ (.head _)))), ⟨_, M _ (.tail _ (.tail _ (.tail _ (.head _)))), rfl, _, rfl⟩, M _ (.head _)⟩) trivial ⟨⟨by omega, by omega⟩, ⟨by omega, by omega⟩, ⟨by omega, by omega⟩, ⟨by omega, by omega⟩⟩
  · refine mk_Skip1_c (lk := 2) (R.le (by decide)) (G.fr F) (by omega) (by decide) (Inst.of (N _ (.tail _ (.tail _ (.head _)))).1 hOb (N _ (.tail _ (.tail _ (.tail _ (.head _))))).1) ?_
    intro h tk xs ds os_ I
    have hOs := I.isd
    have Z1 := led_new F N hr I
    clear F N hr I
    obtain ⟨F, N, hr⟩ := Z1
    have hg1 : 0 ≤ g1 ∧ g1 ≤ 3 := by rw [eg1]; split <;> omega
    have hg2 : 0 ≤ g2 ∧ g2 ≤ 3 := by rw [eg2]; split <;> omega
    exact kq _ _ _ _ _ (.skip _ _ _ _ _ _ (some _)) (fin F) (N _ (.head _)).1 H (by omega) (by omega) (fun b' nb => have M := nb_of sg N hr nb; ⟨xg, _, _, Inst.of (M _ (.head _)) hOs (M _ (.tail _ (.head _))), ⟨_, _, _, _, _, Inst.of (M _ (.tail _ (.tail _ (.tail _ (.tail _ (.tail _ (.tail _ (.head _)))))))) hOg (M _ (.tail _ (.tail _ (.tail _ (.tail _ (.tail _ (.tail _ (.tail _ (.head _)))))))))⟩, xb, rfl, _, rt, _, _, _, _, _, _, _, _, _, Inst.of (M _ (.tail _ (.tail _ (.tail _ (.head _))))) hOb (M _ (.tail _ (.tail _ (.tail _ (.tail _ (.head _)))))), ⟨_, M _ (.tail _ (.tail _ (.tail _ (.tail _ (.tail _ (.head _)))))), rfl, _, rfl⟩, M _ (.tail _ (.tail _ (.head _)))⟩) (⟨hg1, hg2⟩) (⟨⟨by omega, by omega⟩, ⟨by omega, by omega⟩, ⟨by omega, by omega⟩, fun lw e => by cases e; exact ⟨by omega, by omega⟩⟩)
  · have hg1 : 0 ≤ g1 ∧ g1 ≤ 3 := by rw [eg1]; split <;> omega
    have hg2 : 0 ≤ g2 ∧ g2 ≤ 3 := by rw [eg2]; split <;> omega
    exact kq _ _ _ _ _ (.skip _ _ _ _ _ _ none) (fin F) (N _ (.head _)).1 H (by omega) (by omega) (fun b' nb => have M := nb_of sg N hr nb; ⟨xg, _, _, Inst.of (M _ (.head _)) hOs (M _ (.tail _ (.head _))), ⟨_, _, _, _, _, Inst.of (M _ (.tail _ (.tail _ (.head _)))) hOg (M _ (.tail _ (.tail _ (.tail _ (.head _)))))⟩, rfl⟩) (⟨hg1, hg2⟩) (⟨⟨by omega, by omega⟩, ⟨by omega, by omega⟩, ⟨by omega, by omega⟩, fun lw e => nomatch e⟩)
  · exact kq _ _ _ _ _ (.kern _) (fin F) (N _ (.head _)).1 H (by omega) (by omega) (fun b' nb => have M := nb_of sg N hr nb; ⟨_, _, Inst.of (M _ (.head _)) hOs (M _ (.tail _ (.head _)))⟩) trivial (⟨by omega, by omega⟩)
  · exact kq _ _ _ _ _ (.pen _) (fin F) (N _ (.head _)).1 H (by omega) (by omega) (fun b' nb => have M := nb_of sg N hr nb; ⟨_, Inst.of (M _ (.head _)) hOs (M _ (.tail _ (.head _)))⟩) trivial trivial
  · refine mk_Mark_c (R.le (by decide)) (G.fr F) (N _ (.tail _ (.head _))).1 ?_
    intro h tk xs ds os_ I
    have hOs := I.isd
    have Z1 := led_new F N hr I
    clear F N hr I
    obtain ⟨F, N, hr⟩ := Z1
    exact kq _ _ _ _ _ .mark (fin F) (N _ (.head _)).1 H (by omega) (by omega) (fun b' nb => have M := nb_of sg N hr nb; ⟨_, _, _, _, Inst.of (M _ (.head _)) hOs (M _ (.tail _ (.head _))), M _ (.tail _ (.tail _ (.head _))), M _ (.tail _ (.tail _ (.tail _ (.head _))))⟩) trivial trivial
  · refine mk_Rule_c (R.le (by decide)) (G.fr F) (rl_bd (by assumption) (by decide)) (rl_bd (by assumption) (by decide)) (rl_bd (by assumption) (by decide)) ?_
    intro h tk xs ds os_ I
    have hOs := I.isd
    have Z1 := led_new F N hr I
    clear F N hr I
    obtain ⟨F, N, hr⟩ := Z1
    exact kq _ _ _ _ _ (.rule (Option.map (fun q : Int × Tok => q.1) _) (Option.map (fun q : Int × Tok => q.1) _) (Option.map (fun q : Int × Tok => q.1) _)) (fin F) (N _ (.head _)).1 H (by omega) (by omega) (fun b' nb => have M := nb_of sg N hr nb; ⟨_, _, _, Inst.of (M _ (.head _)) hOs (M _ (.tail _ (.head _))), oint_ov, oint_ov, oint_ov⟩) trivial (⟨rl_in (by assumption) (by decide), rl_in (by assumption) (by decide), rl_in (by assumption) (by decide)⟩)
end
end Mine
/-! Law4 -/
namespace Mine
open LCg
noncomputable def wh : Nd → Int
  | .box _ _ h d _ => h + d | .rule _ h d => h.getD 0 + d.getD 0 | .kern w => w | .skip gw _ _ _ _ _ _ => gw | _ => 0
noncomputable def wholeF (ps : List (Addr × Nd)) : Int := (ps.map fun q => wh q.2).sum
theorem wholeF_take {ps : List (Addr × Nd)} {i : Nat} {q : Addr × Nd} (e : ps[i]? = some q) : wholeF (ps.take (i + 1)) = wholeF (ps.take i) + wh q.2 := by
  unfold wholeF
  rw [List.take_add_one, e]
  simp
section
variable {prog : Program} {w : World} {A : Around} {E : Value → Shared → Prop} {h g : Heap} {gs : Array GenState} {dr : Drawn} {tk : Nat} {os : OsState} {L a : Addr} {m : Str → Option Value}
  {cn : Str} {cs : Scope} {ccd : Value} {cl : List (Str × Addr)} {p : Program} {loose : List Str} {mg mb : Str → Option Value} {Q : Value → Shared → Prop} {pos : Pos}

variable {x c many z i : Int} {tm t ti : Tok} {o : Obj} {l ta : Addr} {n : Nd} {ps : List (Addr × Nd)} {rest : List (Addr × Obj)}
theorem c_in3 {a1 a2 a3 : Int} {t1 t2 t3 : Tok} (ht : h.get? ta = some (tupOf [.int a1 t1, .int a2 t2, .int a3 t3])) (kq : Q (.bool (decide (i = a1 ∨ i = a2 ∨ i = a3))) ⟨h, gs, dr, tk, os⟩) : wpAny (model prog w) A (compareOp .In (.int i ti) (.ref ta)) Q E ⟨h, gs, dr, tk, os⟩ := by
  refine in_tuple_ints (s := ⟨h, gs, dr, tk, os⟩) (ns := [a1, a2, a3]) ⟨_, ht, rfl, 0, rfl⟩ (.cons _ _ (.cons _ _ (.cons _ _ .nil))) ?_
  have e : [a1, a2, a3].any (· == i) = decide (i = a1 ∨ i = a2 ∨ i = a3) := by
    rw [Bool.eq_iff_iff]
    simp only [List.any_cons, List.any_nil, Bool.or_false, Bool.or_eq_true, beq_iff_eq, decide_eq_true_eq, @eq_comm Int _ i]
  rw [e]; exact kq
theorem c_in2 {a1 a2 : Int} {t1 t2 : Tok} (ht : h.get? ta = some (tupOf [.int a1 t1, .int a2 t2])) (kq : Q (.bool (decide (i = a1 ∨ i = a2))) ⟨h, gs, dr, tk, os⟩) : wpAny (model prog w) A (compareOp .In (.int i ti) (.ref ta)) Q E ⟨h, gs, dr, tk, os⟩ := by
  refine in_tuple_ints (s := ⟨h, gs, dr, tk, os⟩) (ns := [a1, a2]) ⟨_, ht, rfl, 0, rfl⟩ (.cons _ _ (.cons _ _ .nil)) ?_
  have e : [a1, a2].any (· == i) = decide (i = a1 ∨ i = a2) := by
    rw [Bool.eq_iff_iff]
    simp only [List.any_cons, List.any_nil, Bool.or_false, Bool.or_eq_true, beq_iff_eq, decide_eq_true_eq, @eq_comm Int _ i]
  rw [e]; exact kq
theorem c_in4 {a1 a2 a3 a4 : Int} {t1 t2 t3 t4 : Tok} (ht : h.get? ta = some (tupOf [.int a1 t1, .int a2 t2, .int a3 t3, .int a4 t4])) (kq : Q (.bool (decide (i = a1 ∨ i = a2 ∨ i = a3 ∨ i = a4))) ⟨h, gs, dr, tk, os⟩) : wpAny (model prog w) A (compareOp .In (.int i ti) (.ref ta)) Q E ⟨h, gs, dr, tk, os⟩ := by
  refine in_tuple_ints (s := ⟨h, gs, dr, tk, os⟩) (ns := [a1, a2, a3, a4]) ⟨_, ht, rfl, 0, rfl⟩ (.cons _ _ (.cons _ _ (.cons _ _ (.cons _ _ .nil)))) ?_
  have e : [a1, a2, a3, a4].any (· == i) = decide (i = a1 ∨ i = a2 ∨ i = a3 ∨ i = a4) := by
    rw [Bool.eq_iff_iff]
    simp only [List.any_cons, List.any_nil, Bool.or_false, Bool.or_eq_true, beq_iff_eq, decide_eq_true_eq, @eq_comm Int _ i]
  rw [e]; exact kq
theorem k_sum {vs : List Value} {ns : List Int} {led : List (Addr × Obj)} (F : Fr g L h m) (N : News g L h led) (hh : A.handled = none) (hl : h.IsList l vs.toArray) (hi : IntsAre vs ns)
    (kq : ∀ h' tk t, Fr g L h' m → News g L h' led → Q (.int ns.sum t) ⟨h', gs, dr, tk, os⟩) : wpAny (model prog w) A (call (.builtin "sum") [.ref l]) Q E ⟨h, gs, dr, tk, os⟩ :=
  LSm.sum_ints (s := ⟨h, gs, dr, tk, os⟩) F N hh hl hi kq
theorem k_len {vs : List Value} (hl : h.IsList l vs.toArray) (hz : vs.length ≤ 1000) (kq : Q (.int vs.length (tk + 1)) ⟨h, gs, dr, tk + 2, os⟩) : wpAny (model prog w) A (call (.builtin "len") [.ref l]) Q E ⟨h, gs, dr, tk, os⟩ :=
  call_len_list (s := ⟨h, gs, dr, tk, os⟩) hl (by simp; omega) (by simpa using kq)
/-- the heights and depths of boxes and rules -/
theorem nd_hd (H : NodeAt w.params g a n) (hk : n.kind = 2 ∨ n.kind = 3 ∨ n.kind = 4) : ∃ v1 v2 o1 o2, OInt v1 o1 ∧ OInt v2 o2 ∧ o1.getD 0 + o2.getD 0 = wh n ∧
    (∀ {A : Around} {E Q : Value → Shared → Prop} {h : Heap} {gs : Array GenState} {dr : Drawn} {tk : Nat} {os : OsState} {ex : Bool}, (Mine.hd.heap_1_39 w.params).In h → Up g h → Q v1 ⟨h, gs, dr, tk + 1, os⟩ → wpAny (model prog w) A (getAttr (.ref a) (Str.ofString "height") ex) Q E ⟨h, gs, dr, tk, os⟩) ∧
    (∀ {A : Around} {E Q : Value → Shared → Prop} {h : Heap} {gs : Array GenState} {dr : Drawn} {tk : Nat} {os : OsState} {ex : Bool}, (Mine.hd.heap_1_39 w.params).In h → Up g h → Q v2 ⟨h, gs, dr, tk + 1, os⟩ → wpAny (model prog w) A (getAttr (.ref a) (Str.ofString "depth") ex) Q E ⟨h, gs, dr, tk, os⟩) := by
  by_cases e4 : n.kind = 4
  · obtain ⟨wd, hh, dd, rfl⟩ := is_rule H e4
    obtain ⟨v1, v2, v3, I, o1, o2, o3⟩ := H
    exact ⟨v2, v3, hh, dd, o2, o3, rfl, fun X u kq => g_own (clsOk_ofA (ca_Rule _) (fa_Rule_height _)) X (I.up u) (by rfl) kq (oint_in o2), fun X u kq => g_own (clsOk_ofA (ca_Rule _) (fa_Rule_depth _)) X (I.up u) (by rfl) kq (oint_in o3)⟩
  · obtain ⟨k, wd, hh, dd, sh, rfl⟩ := is_box H (by omega)
    obtain ⟨hk, t1, t2, t3, t4, t5, v1, v2, v3, v4, I⟩ := H
    exact ⟨_, _, some hh, some dd, ⟨_, rfl⟩, ⟨_, rfl⟩, rfl, fun X u kq => g_own (clsOk_ofA (ca_Box _) (fa_Box_height _)) X (I.up u) (by rfl) kq, fun X u kq => g_own (clsOk_ofA (ca_Box _) (fa_Box_depth _)) X (I.up u) (by rfl) kq⟩
theorem elt_same {I C D : Addr} {oI oC oD : Obj} {led : List (Addr × Obj)} {J : List Value → List (Addr × Obj) → Prop} {ys : List Value} {y : Value} (F : Fr g L h m) (N : News g L h ((I, oI) :: (C, oC) :: (D, oD) :: led)) (off : Off3 I C D led) (j : J (ys ++ [y]) led) : EltE g L m gs dr os I C D oI oC oD J ys y ⟨h, gs, dr, tk, os⟩ := ⟨h, tk, led, rfl, F, N, off, j⟩
theorem eltn_same {I C D : Addr} {oI oC oD : Obj} {led : List (Addr × Obj)} {J : List Value → List (Addr × Obj) → Prop} {ys : List Value} (F : Fr g L h m) (N : News g L h ((I, oI) :: (C, oC) :: (D, oD) :: led)) (off : Off3 I C D led) (j : J ys led) : EltN g L m gs dr os I C D oI oC oD J ys ⟨h, gs, dr, tk, os⟩ := ⟨h, tk, led, rfl, F, N, off, j⟩
theorem ints_snoc {vs : List Value} {ns : List Int} {t : Tok} (H : IntsAre vs ns) : IntsAre (vs ++ [.int i t]) (ns ++ [i]) := H.append (.cons _ _ .nil)
theorem law_whole_c (R : Rm 1 A) (G : Gd w p loose mg mb g) (hl : g.IsList l (vals ps).toArray) (HN : NS w.params g ps)
    (kq : ∀ h' tk' t, Up g h' → Q (.int (wholeF ps) t) ⟨h', gs, dr, tk', os⟩) : wpAny (model prog w) A (call (.ref 638) [.ref l]) Q E ⟨g, gs, dr, tk, os⟩ := by
  refine call_fn (n := 0) (binds := [(Str.ofString "items", .ref l)]) R G (by k_is) (by k_is) (by first | exact BindsTo.of_eq (by rfl) | exact binds_K G.x rfl (by k_is) rfl rfl rfl) (by rfl) (fun A L h tk R F N => ?_)
  repeat (first
   | walk_at "mS")
  refine x_for g ?_
  repeat (first
   | walk_at "mS")
  refine for_list (fun i m' led' => led' = [] ∧ ∃ t, m' (Str.ofString "found") = some (.int (wholeF (ps.take i)) t)) R.hd hl F N ⟨rfl, _, (by rfl : lo _ _ _ = _)⟩ (fun i m' led' z => by rw [z.1]) ?_ ?_
  · clear N F
    rintro i v m₁ led₁ h tk own hv ⟨rfl, t0, m1⟩ hown F N
    obtain ⟨a, n, e, rfl⟩ := vals_get hv
    have H := ns_get HN e
    have es := wholeF_take e
    have fin : ∀ {h : Heap} {l : List (Str × Value)} {led : List (Addr × Obj)} {tk : Nat} {z : Int} {t : Tok}, wholeF (ps.take (i + 1)) = z → Fr g L h (lo ((Str.ofString "found", .int z t) :: l) m₁) → News g L h (led ++ ([] ++ own)) → TurnE g L gs dr os own (fun m' led' => led' = [] ∧ ∃ t, m' (Str.ofString "found") = some (.int (wholeF (ps.take (i + 1))) t)) ⟨h, gs, dr, tk, os⟩ := fun ez F N => ⟨_, _, _, [], rfl, F, News.sub N fun q hq => List.mem_append_right _ hq, rfl, _, by rw [ez]; rfl⟩
    by_cases hk : n.kind = 2 ∨ n.kind = 3 ∨ n.kind = 4
    · obtain ⟨v1, v2, o1, o2, h1, h2, hw, ga, gb⟩ := nd_hd (prog := prog) H hk
      repeat (first
   | ((with_reducible show wpAny _ _ (compareOp CmpOp.In _ _) _ _ _); (refine c_in3 (N _ (.head _)).1 ?_))
   | ((with_reducible show wpAny _ _ (getAttr _ (Str.ofString "kind") _) _ _ _); (refine nd_kind (G.x.keeps F.keep) (NodeAt.up H F.keep) ?_; intro t))
   | ((with_reducible show wpAny _ _ (eval (Expr.Call (Expr.Name (Str.ofString "sum") _) _ _ _) _) _ _ _); refine e_bcall1 (n_sum F G ⟨rfl, ?_⟩ (by rfl) (by rfl)))
   | walk_at "mS")
      refine e_compTupT (cl := []) (vs := [v1, v2]) (J := fun ax i ys led => (ax, tupOf [v1, v2]) ∈ led ∧ (∀ q ∈ own, q ∈ led) ∧ ∃ ns, IntsAre ys ns ∧ ns.sum = (([o1, o2].take i).map fun o => o.getD 0).sum) R.hd F ?_ (fun _ _ _ _ j => j.1) (by simp) ?_ ?_ (by rfl) (by decide) (by rfl) (by decide) (by rfl)
      · repeat (first
   | ((with_reducible show wpAny _ _ (getAttr _ (Str.ofString "height") _) _ _ _); (refine ga (G.x.keeps F.keep) F.keep ?_))
   | ((with_reducible show wpAny _ _ (getAttr _ (Str.ofString "depth") _) _ _ _); (refine gb (G.x.keeps F.keep) F.keep ?_))
   | walk_at "mS")
        all_goals exact ⟨_, _, _, _, rfl, rfl, F, N, .head _, fun q hq => .tail _ (.tail _ hq), [], .nil, rfl⟩
      · intro ax j v ys led I oI C oC D m₂ h tk E' hv jj hC hx F N off n1 n2 n3
        obtain ⟨j1, j2, ns, j3, j4⟩ := jj
        have hCn := hC.ns (N _ (.tail _ (.head _))).1
        have ⟨o, hov, ho⟩ : ∃ o, OInt v o ∧ [o1, o2][j]? = some o := by
          rcases j with _ | _ | j
          · cases hv; exact ⟨o1, h1, rfl⟩
          · cases hv; exact ⟨o2, h2, rfl⟩
          · simp at hv
        have hsum : (([o1, o2].take (j + 1)).map fun o => o.getD 0).sum = (([o1, o2].take j).map fun o => o.getD 0).sum + o.getD 0 := by rw [List.take_add_one, ho]; simp
        refine i_cmp (c_loc hCn hx (e_none (c_isnot (t_bool ?_))))
        rcases oint_not hov with ⟨rfl, rfl⟩ | ⟨i', t', rfl, rfl⟩
        · refine br_neg rfl (eltn_same F N off ⟨j1, j2, ns, j3, ?_⟩)
          rw [hsum, j4]; simp
        · refine br_pos rfl (c_loc hCn hx (elt_same F N off ⟨j1, j2, _, ints_snoc j3, ?_⟩))
          rw [hsum, ← j4]; simp
      · intro ax D h tk ys led j F N
        obtain ⟨j1, j2, ns, j3, j4⟩ := j
        have hsum : ns.sum = wh n := by rw [j4, ← hw]; simp
        refine k_sum F N R.hd ⟨_, (N _ (.head _)).1, rfl, _, rfl⟩ j3 (fun h tk t F N => ?_)
        rw [hsum]
        replace N : News g L h ([] ++ own) := News.sub N fun q hq => .tail _ (j2 q hq)
        repeat (first
   | walk_at "mS")
        all_goals exact fin (led := []) es F N
    · repeat (first
   | ((with_reducible show wpAny _ _ (compareOp CmpOp.In _ (Value.ref _)) _ _ _); ((first | refine c_in3 (N _ (.head _)).1 ?_ | refine c_in2 (N _ (.head _)).1 ?_)))
   | ((with_reducible show wpAny _ _ (getAttr _ (Str.ofString "kind") _) _ _ _); (refine nd_kind (G.x.keeps F.keep) (NodeAt.up H F.keep) ?_; intro t))
   | walk_at "mS")
      · obtain ⟨gw, st, so, sk, ko, sort, lead, rfl⟩ := is_skip H (by omega)
        obtain ⟨ga, t, v, I, ⟨u1, u2, u3, u4, u5, Ig⟩, Il⟩ := id H
        repeat (first
   | ((with_reducible show wpAny _ _ (getAttr _ (Str.ofString "kind") _) _ _ _); (refine nd_kind (G.x.keeps F.keep) (NodeAt.up H F.keep) ?_; intro t))
   | ((with_reducible show wpAny _ _ (getAttr _ (Str.ofString "glue") _) _ _ _); refine g_own (clsOk_ofA (ca_Skip _) (fa_Skip_glue _)) (G.x.keeps F.keep) (Inst.up I F.keep) (by rfl) ?_)
   | ((with_reducible show wpAny _ _ (getAttr _ (Str.ofString "width") _) _ _ _); refine g_own (clsOk_ofA (ca_Glue _) (fa_Glue_width _)) (G.x.keeps F.keep) (Inst.up Ig F.keep) (by rfl) ?_)
   | walk_at "mS")
        all_goals exact fin (led := [_, _]) es F N
      · obtain ⟨wd, rfl⟩ := is_kern H (by omega)
        obtain ⟨t, t2, I⟩ := id H
        repeat (first
   | ((with_reducible show wpAny _ _ (getAttr _ (Str.ofString "kind") _) _ _ _); (refine nd_kind (G.x.keeps F.keep) (NodeAt.up H F.keep) ?_; intro t))
   | ((with_reducible show wpAny _ _ (getAttr _ (Str.ofString "width") _) _ _ _); refine g_own (clsOk_ofA (ca_Kern _) (fa_Kern_width _)) (G.x.keeps F.keep) (Inst.up I F.keep) (by rfl) ?_)
   | walk_at "mS")
        all_goals exact fin (led := [_, _]) es F N
      · have ez : wh n = 0 := by
          rcases is_small H (by omega) (by omega) (by omega) (by omega) (by omega) with ⟨v, rfl⟩ | rfl <;> rfl
        rw [ez, Int.add_zero] at es
        exact ⟨_, _, _, [], rfl, F, News.sub N fun q hq => List.mem_append_right [_, _] hq, rfl, _, by rw [es]; exact m1⟩
  · rintro m' led' h tk ⟨rfl, t0, m1⟩ F N
    show wpAny _ _ _ _ _ _
    have ep : ps.take (vals ps).length = ps := by simp [vals]
    rw [ep] at m1
    repeat (first
   | walk_at "mS")
    all_goals exact kq _ _ _ F.keep
end
end Mine
/-! Plain -/
namespace Mine
noncomputable def natO (s : NF) (ps : List (Addr × Nd)) : NF := ps.foldl (fun s q => natStep s q.2) s
theorem natF_eq (ps : List (Addr × Nd)) : natF ps = natO nf0 ps := rfl
theorem natO_app (s : NF) (as bs : List (Addr × Nd)) : natO s (as ++ bs) = natO (natO s as) bs := by unfold natO; rw [List.foldl_append]
theorem natO_cons (s : NF) (q : Addr × Nd) (bs : List (Addr × Nd)) : natO s (q :: bs) = natO (natStep s q.2) bs := rfl
/-! height and depth together -/
theorem step_whole (s : NF) (n : Nd) : (natStep s n).nat + (natStep s n).D = s.nat + s.D + wh n := by
  cases n <;> simp only [natStep, wh, Nd.hgt, Nd.dep] <;> omega
theorem wholeF_cons (q : Addr × Nd) (ps : List (Addr × Nd)) : wholeF (q :: ps) = wh q.2 + wholeF ps := by simp [wholeF]
theorem natO_whole : ∀ (ps : List (Addr × Nd)) (s : NF), (natO s ps).nat + (natO s ps).D = s.nat + s.D + wholeF ps
  | [], s => by simp [natO, wholeF]
  | q :: ps, s => by
    rw [natO_cons, natO_whole ps, step_whole, wholeF_cons]; omega
theorem natF_whole (ps : List (Addr × Nd)) : (natF ps).nat + (natF ps).D = wholeF ps := by
  rw [natF_eq, natO_whole]; simp [nf0]
theorem wholeF_app (as bs : List (Addr × Nd)) : wholeF (as ++ bs) = wholeF as + wholeF bs := by simp [wholeF]
theorem wholeF_rev (ps : List (Addr × Nd)) : wholeF ps.reverse = wholeF ps := by
  induction ps with
  | nil => rfl
  | cons q ps ih => rw [List.reverse_cons, wholeF_app, ih, wholeF_cons]; simp [wholeF]; omega
/-! the sums of glue -/
noncomputable def stc (k : Nat) : Nd → Int
  | .skip _ st so _ _ _ _ => if so.toNat = k then st else 0 | _ => 0
noncomputable def skc (k : Nat) : Nd → Int
  | .skip _ _ _ sk ko _ _ => if ko.toNat = k then sk else 0 | _ => 0
theorem getD_set4 {zs : List Int} {i k : Nat} {v : Int} (e : zs.length = 4) (hi : i ≤ 3) : (zs.set i v).getD k 0 = if i = k then v else zs.getD k 0 := by
  simp only [List.getD_eq_getElem?_getD, List.getElem?_set]
  by_cases h : i = k
  · subst h
    have : i < zs.length := by omega
    simp [this]
  · simp [h]
theorem step_st {s : NF} {n : Nd} (e : s.st.length = 4) (ok : n.ok) (k : Nat) : (natStep s n).st.getD k 0 = s.st.getD k 0 + stc k n := by
  cases n with
  | skip gw st so sk ko sort lead =>
    have ok : (0 ≤ so ∧ so ≤ 3) ∧ (0 ≤ ko ∧ ko ≤ 3) := ok
    simp only [natStep, stc]
    rw [getD_set4 e (by omega)]
    by_cases h : so.toNat = k
    · subst h; simp
    · simp [h]
  | _ => simp [natStep, stc]
theorem step_sk {s : NF} {n : Nd} (e : s.sk.length = 4) (ok : n.ok) (k : Nat) : (natStep s n).sk.getD k 0 = s.sk.getD k 0 + skc k n := by
  cases n with
  | skip gw st so sk ko sort lead =>
    have ok : (0 ≤ so ∧ so ≤ 3) ∧ (0 ≤ ko ∧ ko ≤ 3) := ok
    simp only [natStep, skc]
    rw [getD_set4 e (by omega)]
    by_cases h : ko.toNat = k
    · subst h; simp
    · simp [h]
  | _ => simp [natStep, skc]
noncomputable def OKs (ps : List (Addr × Nd)) : Prop := ∀ q ∈ ps, q.2.ok
theorem natO_st (k : Nat) : ∀ (ps : List (Addr × Nd)) (s : NF), s.st.length = 4 ∧ s.sk.length = 4 → OKs ps → (natO s ps).st.getD k 0 = s.st.getD k 0 + (ps.map fun q => stc k q.2).sum
  | [], s, _, _ => by simp [natO]
  | q :: ps, s, e, ok => by
    rw [natO_cons, natO_st k ps _ (natStep_len e) fun r hr => ok r (.tail _ hr), step_st e.1 (ok q (.head _))]; simp; omega
theorem natO_sk (k : Nat) : ∀ (ps : List (Addr × Nd)) (s : NF), s.st.length = 4 ∧ s.sk.length = 4 → OKs ps → (natO s ps).sk.getD k 0 = s.sk.getD k 0 + (ps.map fun q => skc k q.2).sum
  | [], s, _, _ => by simp [natO]
  | q :: ps, s, e, ok => by
    rw [natO_cons, natO_sk k ps _ (natStep_len e) fun r hr => ok r (.tail _ hr), step_sk e.2 (ok q (.head _))]; simp; omega
theorem sum_rev (f : Addr × Nd → Int) (ps : List (Addr × Nd)) : (ps.reverse.map f).sum = (ps.map f).sum := by
  induction ps with
  | nil => rfl
  | cons q ps ih => rw [List.reverse_cons, List.map_append, List.sum_append, ih]; simp; omega
theorem ext4 {xs ys : List Int} (h1 : xs.length = 4) (h2 : ys.length = 4) (h : ∀ k, xs.getD k 0 = ys.getD k 0) : xs = ys := by
  refine List.ext_getElem (by omega) fun i a b => ?_
  have := h i
  simpa [List.getD_eq_getElem?_getD, List.getElem?_eq_getElem a, List.getElem?_eq_getElem b] using this
theorem OKs.rev {ps : List (Addr × Nd)} (H : OKs ps) : OKs ps.reverse := fun q hq => H q (List.mem_reverse.mp hq)
theorem rev_st {ps : List (Addr × Nd)} (ok : OKs ps) : (natF ps.reverse).st = (natF ps).st := ext4 (natF_len _).1 (natF_len _).1 fun k => by
  rw [natF_eq, natF_eq, natO_st k _ _ ⟨rfl, rfl⟩ ok.rev, natO_st k _ _ ⟨rfl, rfl⟩ ok, sum_rev]
theorem rev_sk {ps : List (Addr × Nd)} (ok : OKs ps) : (natF ps.reverse).sk = (natF ps).sk := ext4 (natF_len _).2 (natF_len _).2 fun k => by
  rw [natF_eq, natF_eq, natO_sk k _ _ ⟨rfl, rfl⟩ ok.rev, natO_sk k _ _ ⟨rfl, rfl⟩ ok, sum_rev]
/-! the width -/
theorem step_W (s : NF) (n : Nd) : (natStep s n).W = if n.acr > s.W then n.acr else s.W := by cases n <;> rfl
theorem step_Wle (s : NF) (n : Nd) (x : Int) : (natStep s n).W ≤ x ↔ s.W ≤ x ∧ n.acr ≤ x := by rw [step_W]; split <;> omega
theorem natO_Wle (x : Int) : ∀ (ps : List (Addr × Nd)) (s : NF), (natO s ps).W ≤ x ↔ s.W ≤ x ∧ ∀ q ∈ ps, q.2.acr ≤ x
  | [], s => by simp [natO]
  | q :: ps, s => by
    rw [natO_cons, natO_Wle x ps, step_Wle]
    constructor
    · rintro ⟨⟨a, b⟩, c⟩
      exact ⟨a, fun r hr => by rcases List.mem_cons.mp hr with rfl | hr; exact b; exact c r hr⟩
    · rintro ⟨a, c⟩
      exact ⟨⟨a, c q (.head _)⟩, fun r hr => c r (.tail _ hr)⟩
theorem le_ext {a b : Int} (h : ∀ x, a ≤ x ↔ b ≤ x) : a = b := Int.le_antisymm ((h b).mpr (Int.le_refl _)) ((h a).mp (Int.le_refl _))
theorem rev_W (ps : List (Addr × Nd)) : (natF ps.reverse).W = (natF ps).W := le_ext fun x => by
  rw [natF_eq, natF_eq, natO_Wle, natO_Wle]; simp
theorem natF_W0 (ps : List (Addr × Nd)) : 0 ≤ (natF ps).W := ((natO_Wle _ ps nf0).mp (Int.le_refl _)).1
/-! a run without glue is worth its box -/
noncomputable def Rl (S s t : NF) : Prop := s.st = S.st ∧ s.sk = S.sk ∧ (∀ x, s.W ≤ x ↔ S.W ≤ x ∧ t.W ≤ x)
noncomputable def R1 (S s t : NF) : Prop := s.nat = S.nat ∧ s.D = S.D ∧ t.nat = 0 ∧ t.D = 0
noncomputable def R2 (S s t : NF) : Prop := s.nat = S.nat + S.D + t.nat ∧ s.D = t.D
noncomputable def Nd.thick : Nd → Bool
  | .box .. | .rule .. | .kern .. => true | _ => false
noncomputable def Nd.glue : Nd → Bool
  | .skip .. => true | _ => false
theorem rl_step {S s t : NF} {n : Nd} (H : Rl S s t) (hn : n.glue = false) : Rl S (natStep s n) (natStep t n) := by
  obtain ⟨a, b, c⟩ := H
  have d : ∀ x, (natStep s n).W ≤ x ↔ S.W ≤ x ∧ (natStep t n).W ≤ x := fun x => by rw [step_Wle, step_Wle, c]; simp only [and_assoc]
  refine ⟨?_, ?_, d⟩
  · cases n <;> simp_all [natStep, Nd.glue]
  · cases n <;> simp_all [natStep, Nd.glue]
theorem r_step {S s t : NF} {n : Nd} (H : R1 S s t ∨ R2 S s t) (hn : n.glue = false) (ht : n.thick = true) : R2 S (natStep s n) (natStep t n) := by
  cases n <;> simp_all [natStep, Nd.glue, Nd.thick, R1, R2] <;> omega
theorem r_step0 {S s t : NF} {n : Nd} (hn : n.glue = false) (ht : n.thick = false) : (R1 S s t → R1 S (natStep s n) (natStep t n)) ∧ (R2 S s t → R2 S (natStep s n) (natStep t n)) := by
  cases n <;> simp_all [natStep, Nd.glue, Nd.thick, R1, R2]
theorem run_all (S : NF) : ∀ (B : List (Addr × Nd)) (s t : NF), (∀ q ∈ B, q.2.glue = false) → Rl S s t → (R1 S s t ∨ R2 S s t) → Rl S (natO s B) (natO t B) ∧ ((R2 S s t ∨ ∃ q ∈ B, q.2.thick = true) → R2 S (natO s B) (natO t B))
  | [], s, t, _, h, r => ⟨h, fun e => by
    rcases e with e | ⟨q, hq, _⟩
    · exact e
    · cases hq⟩
  | q :: B, s, t, hg, h, r => by
    have g0 := hg q (.head _)
    have st : R1 S (natStep s q.2) (natStep t q.2) ∨ R2 S (natStep s q.2) (natStep t q.2) := by
      cases e : q.2.thick with
      | true => exact .inr (r_step r g0 e)
      | false => rcases r with r | r; exact .inl ((r_step0 g0 e).1 r); exact .inr ((r_step0 g0 e).2 r)
    have z := run_all S B (natStep s q.2) (natStep t q.2) (fun r hr => hg r (.tail _ hr)) (rl_step h g0) st
    refine ⟨z.1, fun e => z.2 ?_⟩
    cases e' : q.2.thick with
    | true => exact .inl (r_step r g0 e')
    | false =>
      rcases e with e | ⟨r', hr', e⟩
      · exact .inl ((r_step0 g0 e').2 e)
      · rcases List.mem_cons.mp hr' with rfl | hr'
        · rw [e'] at e; cases e
        · exact .inr ⟨r', hr', e⟩
theorem run_box {S : NF} {B : List (Addr × Nd)} (hS : 0 ≤ S.W) (hg : ∀ q ∈ B, q.2.glue = false) (ht : ∃ q ∈ B, q.2.thick = true) : natO S B = natStep S (.box 3 (natF B).W (natF B).nat (natF B).D 0) := by
  have z := run_all S B S nf0 hg ⟨rfl, rfl, fun x => by simp [nf0]; omega⟩ (.inl ⟨rfl, rfl, rfl, rfl⟩)
  obtain ⟨⟨a, b, c⟩, d⟩ := z
  obtain ⟨e, f⟩ := d (.inr ht)
  have w : (natO S B).W = (natStep S (.box 3 (natF B).W (natF B).nat (natF B).D 0)).W := le_ext fun x => by
    rw [c, step_Wle]; simp only [Nd.acr, Int.add_zero]; rfl
  have ext : ∀ {x y : NF}, x.nat = y.nat → x.st = y.st → x.sk = y.sk → x.W = y.W → x.D = y.D → x = y := by
    rintro ⟨⟩ ⟨⟩ h1 h2 h3 h4 h5; simp_all
  refine ext ?_ a b w f
  rw [e, Int.add_assoc]; rfl
theorem natO_W0 {S : NF} (h : 0 ≤ S.W) (ps : List (Addr × Nd)) : 0 ≤ (natO S ps).W := by
  have := ((natO_Wle _ ps S).mp (Int.le_refl _)).1; omega
theorem grouped_nat {As B C : List (Addr × Nd)} {x : Addr} (hg : ∀ q ∈ B, q.2.glue = false) (ht : ∃ q ∈ B, q.2.thick = true) : natF (As ++ [(x, .box 3 (natF B).W (natF B).nat (natF B).D 0)] ++ C) = natF (As ++ B ++ C) := by
  show natO nf0 _ = natO nf0 _
  rw [natO_app, natO_app, natO_app nf0 (As ++ B), natO_app nf0 As, run_box (natO_W0 (by decide) As) hg ht]; rfl
end Mine
/-! Plain2 -/
namespace Mine
/-! places -/
noncomputable def plO (s o u d : Int) (p : PL) (ps : List (Addr × Nd)) : PL := ps.foldl (fun p q => plStep s o u d p q.2) p
theorem plF_eq {s o u d : Int} (ps : List (Addr × Nd)) : plF s o u d ps = plO s o u d ⟨0, 0, [0]⟩ ps := rfl
theorem plO_app {s o u d : Int} (p : PL) (as bs : List (Addr × Nd)) : plO s o u d p (as ++ bs) = plO s o u d (plO s o u d p as) bs := by unfold plO; rw [List.foldl_append]
theorem plO_cons {s o u d : Int} (p : PL) (q : Addr × Nd) (bs : List (Addr × Nd)) : plO s o u d p (q :: bs) = plO s o u d (plStep s o u d p q.2) bs := rfl
theorem plStep_fo {s o u d : Int} (p : PL) (n : Nd) : plStep s o u d p n = ⟨(plStep s o u d ⟨p.fx, p.fl, []⟩ n).fx, (plStep s o u d ⟨p.fx, p.fl, []⟩ n).fl, p.fo ++ (plStep s o u d ⟨p.fx, p.fl, []⟩ n).fo⟩ := by
  cases n <;> simp [plStep]
theorem plO_fo {s o u d : Int} : ∀ (ps : List (Addr × Nd)) (p : PL), (plO s o u d p ps).fo = p.fo ++ (plO s o u d ⟨p.fx, p.fl, []⟩ ps).fo
  | [], p => by simp [plO]
  | q :: ps, p => by
    rw [plO_cons, plO_fo ps, plO_cons, plO_fo ps (plStep s o u d ⟨p.fx, p.fl, []⟩ q.2), plStep_fo]
    simp
theorem psz_wh {n : Nd} (hg : n.glue = false) : n.psz = wh n := by
  cases n <;> simp_all [Nd.psz, wh, Nd.hgt, Nd.dep, Nd.glue]
theorem plStep_ng {s o u d : Int} {p : PL} {n : Nd} (hg : n.glue = false) : plStep s o u d p n = ⟨p.fx + wh n, p.fl, p.fo ++ [p.fx + wh n + roundF (u * p.fl) d]⟩ := by
  rw [← psz_wh hg]
  cases n <;> first | rfl | cases hg
noncomputable def pre (x : Int) : List (Addr × Nd) → List Int
  | [] => [] | q :: B => (x + wh q.2) :: pre (x + wh q.2) B
theorem plO_ng {s o u d : Int} : ∀ (B : List (Addr × Nd)) (p : PL), (∀ q ∈ B, q.2.glue = false) → plO s o u d p B = ⟨p.fx + wholeF B, p.fl, p.fo ++ (pre p.fx B).map (· + roundF (u * p.fl) d)⟩
  | [], p, _ => by simp [plO, pre, wholeF]
  | q :: B, p, hg => by
    rw [plO_cons, plO_ng B _ fun r hr => hg r (.tail _ hr), plStep_ng (hg q (.head _)), wholeF_cons]
    simp [pre, Int.add_assoc]
theorem pre_shift (x y : Int) : ∀ B : List (Addr × Nd), pre (x + y) B = (pre y B).map (x + ·)
  | [] => rfl
  | q :: B => by
    simp only [pre, List.map_cons]
    rw [Int.add_assoc, pre_shift x (y + wh q.2) B]
theorem pre_len (x : Int) : ∀ B : List (Addr × Nd), (pre x B).length = B.length
  | [] => rfl
  | q :: B => by simp [pre, pre_len (x + wh q.2) B]
theorem pre_last : ∀ (B : List (Addr × Nd)) (x : Int), B ≠ [] → (pre x B).drop (B.length - 1) = [x + wholeF B]
  | [], _, h => absurd rfl h
  | [q], x, _ => by simp [pre, wholeF]
  | q :: r :: B, x, _ => by
    have z := pre_last (r :: B) (x + wh q.2) (by simp)
    simp only [pre, List.length_cons, Nat.add_sub_cancel] at z ⊢
    rw [List.drop_succ_cons, z, wholeF_cons q]
    simp [Int.add_assoc]
theorem round0 {d : Int} (hd : 0 < d) : roundF 0 d = 0 := by
  unfold roundF
  rw [if_neg (by omega)]
  have : (2 * 0 + d).fdiv (2 * d) = (2 * 0 + d) / (2 * d) := Int.fdiv_eq_ediv_of_nonneg _ (by omega)
  rw [this]
  exact Int.ediv_eq_zero_of_lt (by omega) (by omega)
/-- the last place is the running one -/
theorem plO_last {s o u d : Int} : ∀ (ps : List (Addr × Nd)) (p : PL), (∃ l, p.fo = l ++ [p.fx + roundF (u * p.fl) d]) → ∃ l, (plO s o u d p ps).fo = l ++ [(plO s o u d p ps).fx + roundF (u * (plO s o u d p ps).fl) d]
  | [], p, h => h
  | q :: ps, p, h => by
    rw [plO_cons]
    refine plO_last ps _ ?_
    cases q.2 <;> exact ⟨_, rfl⟩
theorem plF_last {s o u d : Int} (hd : 0 < d) (ps : List (Addr × Nd)) : ∃ l, (plF s o u d ps).fo = l ++ [(plF s o u d ps).fx + roundF (u * (plF s o u d ps).fl) d] :=
  plO_last ps ⟨0, 0, [0]⟩ ⟨[], by show [0] = [] ++ [0 + roundF (u * 0) d]; rw [Int.mul_zero, round0 hd]; rfl⟩
section
variable {s o u d : Int} {As B C : List (Addr × Nd)} {x : Addr}
/-- the places of the whole: before the run, in it, behind it -/
theorem places_run (hg : ∀ q ∈ B, q.2.glue = false) :
    (plF s o u d (As ++ B ++ C)).fo = (plF s o u d As).fo ++ (pre (plF s o u d As).fx B).map (· + roundF (u * (plF s o u d As).fl) d) ++ (plO s o u d ⟨(plF s o u d As).fx + wholeF B, (plF s o u d As).fl, []⟩ C).fo := by
  rw [plF_eq, plO_app, plO_app, plO_fo, plO_ng B _ hg]; rfl
theorem places_box {W H D : Int} (e : H + D = wholeF B) : (plF s o u d (As ++ [(x, .box 3 W H D 0)] ++ C)).fo = (plF s o u d As).fo ++ [(plF s o u d As).fx + wholeF B + roundF (u * (plF s o u d As).fl) d] ++ (plO s o u d ⟨(plF s o u d As).fx + wholeF B, (plF s o u d As).fl, []⟩ C).fo := by
  rw [plF_eq, plO_app, plO_app, plO_fo]
  show (plStep s o u d (plO s o u d ⟨0, 0, [0]⟩ As) (.box 3 W H D 0)).fo ++ _ = _
  rw [plStep_ng rfl]
  show _ ++ [_ + (H + D) + _] ++ (plO s o u d ⟨_ + (H + D), _, []⟩ C).fo = _
  rw [e]; rfl
theorem within_places (hg : ∀ q ∈ B, q.2.glue = false) : (plF 0 0 0 1 B).fo = 0 :: pre 0 B := by
  rw [plF_eq, plO_ng B _ hg]
  simp [roundF]
/-- the places of the grouped column -/
theorem grouped_places (hg : ∀ q ∈ B, q.2.glue = false) (hB : B ≠ []) {W H D : Int} (e : H + D = wholeF B) {bg en : Nat} (e1 : As.length = bg) (e2 : bg + B.length = en) :
    (plF s o u d (As ++ [(x, .box 3 W H D 0)] ++ C)).fo = (plF s o u d (As ++ B ++ C)).fo.take (bg + 1) ++ (plF s o u d (As ++ B ++ C)).fo.drop en := by
  have hl : (plF s o u d As).fo.length = bg + 1 := by rw [plF_len, e1]
  have hb : 1 ≤ B.length := by cases B with | nil => exact absurd rfl hB | cons _ _ => simp
  rw [places_run hg, places_box e, List.append_assoc, List.append_assoc, List.take_append, List.drop_append, hl, List.drop_of_length_le (by omega), List.take_of_length_le (by omega), Nat.sub_self, List.take_zero, List.append_nil, List.nil_append,
    List.drop_append, List.length_map, pre_len, show en - (bg + 1) = B.length - 1 by omega, ← List.map_drop, pre_last B _ hB, show B.length - 1 - B.length = 0 by omega]
  simp
/-- the run's own places -/
theorem run_places (hd : 0 < d) (hg : ∀ q ∈ B, q.2.glue = false) {bg en : Nat} (e1 : As.length = bg) (e2 : bg + B.length = en) :
    ∃ z, (plF s o u d (As ++ B ++ C)).fo[bg]? = some z ∧ (plF 0 0 0 1 B).fo.map (z + ·) = ((plF s o u d (As ++ B ++ C)).fo.take (en + 1)).drop bg := by
  obtain ⟨l, hl⟩ := plF_last (s := s) (o := o) (u := u) hd As
  have hll : l.length = bg := by
    have := congrArg List.length hl
    rw [plF_len, e1] at this
    simpa using this.symm
  refine ⟨(plF s o u d As).fx + roundF (u * (plF s o u d As).fl) d, ?_, ?_⟩
  · rw [places_run hg, hl, List.append_assoc, List.append_assoc, List.getElem?_append_right (by omega), hll]
    simp
  · rw [places_run hg, within_places hg, hl]
    rw [show (plF s o u d As).fx = (plF s o u d As).fx + 0 by omega, pre_shift _ 0 B]
    simp only [List.append_assoc]
    rw [List.take_append, List.take_of_length_le (l := l) (by omega), List.drop_append, List.drop_of_length_le (l := l) (by omega), hll, Nat.sub_self, List.drop_zero, List.nil_append, List.cons_append, List.nil_append, show en + 1 - bg = B.length + 1 by omega,
      List.take_succ_cons, List.take_append, List.take_of_length_le (by simp [pre_len]), List.length_map, List.length_map, pre_len, Nat.sub_self, List.take_zero, List.append_nil]
    simp
    intro a _
    omega
end
end Mine
/-! Plain3 -/
namespace Mine
/-! bounds -/
structure NB (k : Int) (s : NF) : Prop where
  s4 : s.st.length = 4 ∧ s.sk.length = 4
  n1 : -(8388608 * k) ≤ s.nat + s.D ∧ s.nat + s.D ≤ 8388608 * k
  d1 : -4194304 ≤ s.D ∧ s.D ≤ 4194304
  st : ∀ j, -(4194304 * k) ≤ s.st.getD j 0 ∧ s.st.getD j 0 ≤ 4194304 * k
  sk : ∀ j, -(4194304 * k) ≤ s.sk.getD j 0 ∧ s.sk.getD j 0 ≤ 4194304 * k
  w1 : 0 ≤ s.W ∧ s.W ≤ 8388608
theorem rule_bd {o : Option Int} (h : ∀ z, o = some z → 0 ≤ z ∧ z ≤ 9) : 0 ≤ o.getD 0 ∧ o.getD 0 ≤ 9 := by
  cases o with
  | none => simp
  | some z => exact h z rfl
theorem nb_step {k : Int} {s : NF} {n : Nd} (H : NB k s) (ok : n.ok) (bd : n.bd) (hk : 0 ≤ k) : NB (k + 1) (natStep s n) := by
  obtain ⟨h4, hn, hd, hs, ht, hw⟩ := H
  have wb : -8388608 ≤ wh n ∧ wh n ≤ 8388608 := by
    cases n with
    | rule w h d =>
      have b1 := rule_bd bd.2.1
      have b2 := rule_bd bd.2.2
      simp only [wh]; omega
    | _ => simp only [Nd.bd, bdS, wh] at bd ⊢; omega
  have ab : n.acr ≤ 8388608 := by
    cases n with
    | rule w h d =>
      have b1 := rule_bd bd.1
      simp only [Nd.acr]; omega
    | skip gw st so sk ko sort lead =>
      obtain ⟨_, _, _, bl⟩ := bd
      cases lead with
      | none => simp [Nd.acr]
      | some lw => have := bl lw rfl; simp only [Nd.acr, bdS, Option.getD_some] at this ⊢; omega
    | _ => simp only [Nd.bd, bdS, Nd.acr] at bd ⊢; omega
  have sb : ∀ j, (-4194304 ≤ stc j n ∧ stc j n ≤ 4194304) ∧ (-4194304 ≤ skc j n ∧ skc j n ≤ 4194304) := fun j => by
    cases n with
    | skip gw st so sk ko sort lead =>
      obtain ⟨_, b1, b2, _⟩ := bd
      simp only [bdS, stc, skc] at b1 b2 ⊢
      constructor <;> split <;> omega
    | _ => simp [stc, skc]
  refine ⟨natStep_len h4, ?_, ?_, fun j => ?_, fun j => ?_, ?_⟩
  · rw [step_whole]; omega
  · cases n with
    | rule w h d =>
      have b2 := rule_bd bd.2.2
      simp only [natStep, Nd.dep]; omega
    | _ => simp only [Nd.bd, bdS, natStep, Nd.dep] at bd ⊢; omega
  · rw [step_st h4.1 ok]; have := (sb j).1; have := hs j; omega
  · rw [step_sk h4.2 ok]; have := (sb j).2; have := ht j; omega
  · rw [step_W]; split <;> omega
theorem nb_all : ∀ (ps : List (Addr × Nd)) (s : NF) (k : Int), NB k s → 0 ≤ k → (∀ q ∈ ps, q.2.ok ∧ q.2.bd) → NB (k + ps.length) (natO s ps)
  | [], s, k, H, _, _ => by simpa [natO] using H
  | q :: ps, s, k, H, hk, h => by
    have z := nb_all ps _ (k + 1) (nb_step H (h q (.head _)).1 (h q (.head _)).2 hk) (by omega) fun r hr => h r (.tail _ hr)
    rw [natO_cons, List.length_cons]
    have e : k + 1 + (ps.length : Int) = k + ((ps.length + 1 : Nat) : Int) := by push_cast; omega
    rw [← e]; exact z
theorem nb_F {ps : List (Addr × Nd)} (h : ∀ q ∈ ps, q.2.ok ∧ q.2.bd) : NB ps.length (natF ps) := by
  have z := nb_all ps nf0 0 ⟨⟨rfl, rfl⟩, by decide, by decide, fun j => ?_, fun j => ?_, by decide⟩ (by decide) h
  · rw [Int.zero_add] at z; exact z
  · rcases j with _ | _ | _ | _ | j <;> simp [nf0]
  · rcases j with _ | _ | _ | _ | j <;> simp [nf0]
theorem NB.le {k j : Int} {s : NF} (H : NB k s) (h : k ≤ j) : NB j s := by
  obtain ⟨h4, hn, hd, hs, ht, hw⟩ := H
  exact ⟨h4, by omega, hd, fun i => by have := hs i; omega, fun i => by have := ht i; omega, hw⟩
/-- what the packing of a column asks for -/
structure CB (ps : List (Addr × Nd)) : Prop where
  ne : ps ≠ []
  ok : ∀ q ∈ ps, q.2.ok
  nb : NB 10 (natF ps)
theorem CB.of {ps : List (Addr × Nd)} (ne : ps ≠ []) (len : ps.length ≤ 10) (h : ∀ q ∈ ps, q.2.ok ∧ q.2.bd) : CB ps := ⟨ne, fun q hq => (h q hq).1, (nb_F h).le (by omega)⟩
theorem vpD_min (ps : List (Addr × Nd)) (most : Int) : vpD ps most = if (natF ps).D > most then most else (natF ps).D := rfl
theorem vp_sum (ps : List (Addr × Nd)) (most : Int) : vpNat ps most + vpD ps most = wholeF ps := by
  rw [← natF_whole]; unfold vpNat vpD; split <;> omega
theorem CB.whole {ps : List (Addr × Nd)} (H : CB ps) : -83886080 ≤ wholeF ps ∧ wholeF ps ≤ 83886080 := by
  have := H.nb.n1; rw [natF_whole] at this; omega
theorem CB.D {ps : List (Addr × Nd)} (H : CB ps) {most : Int} (hm : -2 ≤ most ∧ most ≤ 1073741823) : -4194304 ≤ vpD ps most ∧ vpD ps most ≤ 4194304 := by
  have := H.nb.d1; rw [vpD_min]; split <;> omega
theorem CB.vp {ps : List (Addr × Nd)} (H : CB ps) {mode amount most gap : Int} (hm : mode = 0 ∨ mode = 1) (hmost : -2 ≤ most ∧ most ≤ 1073741823) (hg : -10000000 ≤ gap ∧ gap ≤ 10000000) (ha : (mode = 1 ∧ amount = gap) ∨ (mode = 0 ∧ amount = vpNat ps most + gap)) :
    VpOk ps mode amount most ∧ vpE ps mode amount most = gap ∧ vpH ps mode amount most = vpNat ps most + gap := by
  have eH : vpH ps mode amount most = vpNat ps most + gap := by
    unfold vpH
    rcases ha with ⟨rfl, rfl⟩ | ⟨rfl, rfl⟩
    · rw [if_neg (by decide)]
    · rw [if_pos rfl]
  have eE : vpE ps mode amount most = gap := by unfold vpE; rw [eH]; omega
  have hD := H.D hmost
  have hw := H.whole
  have hs := vp_sum ps most
  refine ⟨⟨H.ne, H.ok, hm, ?_, ⟨H.nb.s4.1, H.nb.s4.2, fun k => ?_, fun k => ?_⟩, ?_, ?_, ?_, ?_, ?_⟩, eE, eH⟩
  · unfold bnd; rcases ha with ⟨_, rfl⟩ | ⟨_, rfl⟩ <;> omega
  · have := H.nb.st k; unfold bnd; omega
  · have := H.nb.sk k; unfold bnd; omega
  · have := H.nb.w1; unfold bnd; omega
  · unfold bnd; omega
  · unfold bnd; rw [eH]; omega
  · unfold bnd; rw [eE]; omega
  · omega
theorem vp_congr {ps qs : List (Addr × Nd)} (e : natF qs = natF ps) (mode amount most : Int) : vpNat qs most = vpNat ps most ∧ vpD qs most = vpD ps most ∧ vpH qs mode amount most = vpH ps mode amount most ∧ vpS qs mode amount most = vpS ps mode amount most := by
  have e1 : vpNat qs most = vpNat ps most := by unfold vpNat; rw [e]
  have e2 : vpD qs most = vpD ps most := by unfold vpD; rw [e]
  have e3 : vpH qs mode amount most = vpH ps mode amount most := by unfold vpH; rw [e1]
  exact ⟨e1, e2, e3, by unfold vpS vpE; rw [e, e1, e3]⟩
theorem vp_big {ps : List (Addr × Nd)} (H : CB ps) : vpNat ps 1073741823 = (natF ps).nat ∧ vpD ps 1073741823 = (natF ps).D := by
  have := H.nb.d1
  exact ⟨vpNat_neg (by omega), vpD_neg (by omega)⟩
end Mine
/-! Law5 -/
namespace Mine
noncomputable def toldD (k wd hh dd s sg o u d r b : Int) : PT := .t [.i k, .i wd, .i hh, .i dd, .i s, .i sg, .i o, .t [.i u, .i d], .t [.i r, .i b]]
section
variable {prog : Program} {w : World} {A : Around} {E : Value → Shared → Prop} {h g : Heap} {gs : Array GenState} {dr : Drawn} {tk : Nat} {os : OsState} {L a : Addr} {m : Str → Option Value}
  {cn : Str} {cs : Scope} {ccd : Value} {cl : List (Str × Addr)} {p : Program} {loose : List Str} {mg mb : Str → Option Value} {Q : Value → Shared → Prop} {pos : Pos}

variable {x c many z i wd hh dd s sg o u d r rb : Int} {tm t ti ta tb : Tok} {ob : Obj} {l xb rp tt : Addr} {n : Nd} {ps : List (Addr × Nd)} {rest : List (Addr × Obj)} {b : Heap}
theorem x_while {env : Env} {P : Flow → Shared → Prop} {test : Expr} {body rest : List Stmt} {pos : Pos} {led : List (Addr × Obj)} (J : Nat → (Str → Option Value) → List (Addr × Obj) → Prop) {n₀ : Nat} (F : Fr g L h m) (N : News g L h led) (hJ : J n₀ m led)
    (turn : ∀ n m₁ led₁ h₁ tk₁, Fr g L h₁ m₁ → News g L h₁ led₁ → J n m₁ led₁ → wpAny (model prog w) A (isTrue test env (eval test env)) (fun b s₂ =>
      Br b (wpAny (model prog w) A (execs body env) (WhileStep g L ⟨h, gs, dr, tk, os⟩ J n) (fun _ _ => False) s₂) (wpAny (model prog w) A (execs rest env) P (fun _ _ => False) s₂)) (fun _ _ => False) ⟨h₁, gs, dr, tk₁, os⟩) :
    wpAny (model prog w) A (execs (.While test body [] pos :: rest) env) P (fun _ _ => False) ⟨h, gs, dr, tk, os⟩ := by
  refine wpAny_execs_cons (wpAny_mono (While_inv (s := ⟨h, gs, dr, tk, os⟩) (Q := SeqP prog w A env (fun _ _ => False) rest P) J F N hJ (fun n m₁ led₁ h₁ tk₁ F₁ N₁ J₁ => wpAny_mono (turn n m₁ led₁ h₁ tk₁ F₁ N₁ J₁) (fun b s₂ z => ?_) fun _ _ z => z) PassesOwn.never) (fun f s' z => ?_) fun _ _ z => z)
  · cases b with
    | true => simp only [if_true]; exact z.1 rfl
    | false => simp only [Bool.false_eq_true, if_false]; exact z.2 rfl
  · cases f <;> exact z
theorem vals_at {i : Nat} (e : ps[i]? = some (a, n)) : (vals ps)[i]? = some (.ref a) := by
  unfold vals; rw [List.getElem?_map, e]; rfl
theorem told_c (R : Rm 1 A) (G : Gd w p loose mg mb g) (ub : Up b g) (ht : g.get? tt = some (tupOf [.ref xb, .ref rp])) (B : PkAt w.params b xb l wd hh dd sg o u d) (hrp : b.get? rp = some (tupOf [.int r ta, .int rb tb]))
    (kq : ∀ h' tk' t, Up g h' → RdN b (Nw g h') 2 (.ref t) (toldD 3 wd hh dd 0 sg o u d r rb) → Q (.ref t) ⟨h', gs, dr, tk', os⟩) : wpAny (model prog w) A (call (.ref 645) [.ref tt]) Q E ⟨g, gs, dr, tk, os⟩ := by
  refine call_fn (n := 0) (binds := [(Str.ofString "packed", .ref tt)]) R G (by k_is) (by k_is) (by first | exact BindsTo.of_eq (by rfl) | exact binds_K G.x rfl (by k_is) rfl rfl rfl) (by rfl) (fun A L h tk R F N => ?_)
  obtain ⟨rt, t1, t2, t3, t4, t5, t6, t7, t8, t9, I, hr⟩ := B
  replace I := I.up ub
  repeat (first
   | ((with_reducible show wpAny _ _ (assign (Expr.Tuple _ _ _) _ (Value.ref _)) _ _ _); (refine as_tup R.hd (F.keep _ _ ht) (by rfl) (by rfl) (fun h u => ?_); replace F := Fr.up F u; replace N := News.up N u; clear u))
   | ((with_reducible show wpAny _ _ (getAttr _ (Str.ofString "kind") _) _ _ _); refine g_own (clsOk_ofA (ca_Box _) (fa_Box_kind _)) (G.x.keeps F.keep) (Inst.up I F.keep) (by rfl) ?_)
   | ((with_reducible show wpAny _ _ (getAttr _ (Str.ofString "width") _) _ _ _); refine g_own (clsOk_ofA (ca_Box _) (fa_Box_width _)) (G.x.keeps F.keep) (Inst.up I F.keep) (by rfl) ?_)
   | ((with_reducible show wpAny _ _ (getAttr _ (Str.ofString "height") _) _ _ _); refine g_own (clsOk_ofA (ca_Box _) (fa_Box_height _)) (G.x.keeps F.keep) (Inst.up I F.keep) (by rfl) ?_)
   | ((with_reducible show wpAny _ _ (getAttr _ (Str.ofString "depth") _) _ _ _); refine g_own (clsOk_ofA (ca_Box _) (fa_Box_depth _)) (G.x.keeps F.keep) (Inst.up I F.keep) (by rfl) ?_)
   | ((with_reducible show wpAny _ _ (getAttr _ (Str.ofString "shift") _) _ _ _); refine g_own (clsOk_ofA (ca_Box _) (fa_Box_shift _)) (G.x.keeps F.keep) (Inst.up I F.keep) (by rfl) ?_)
   | ((with_reducible show wpAny _ _ (getAttr _ (Str.ofString "sign") _) _ _ _); refine g_own (clsOk_ofA (ca_Box _) (fa_Box_sign _)) (G.x.keeps F.keep) (Inst.up I F.keep) (by rfl) ?_)
   | ((with_reducible show wpAny _ _ (getAttr _ (Str.ofString "order") _) _ _ _); refine g_own (clsOk_ofA (ca_Box _) (fa_Box_order _)) (G.x.keeps F.keep) (Inst.up I F.keep) (by rfl) ?_)
   | ((with_reducible show wpAny _ _ (getAttr _ (Str.ofString "ratio") _) _ _ _); refine g_own (clsOk_ofA (ca_Box _) (fa_Box_ratio _)) (G.x.keeps F.keep) (Inst.up I F.keep) (by rfl) ?_)
   | walk_at "mS")
  all_goals refine kq _ _ _ F.keep ?_
  all_goals exact rdn_t (.inr (nwn N (.head _))) ⟨.i, .i, .i, .i, .i, .i, .i, rdn_t (.inl hr) ⟨.i, .i, trivial⟩, rdn_t (.inl hrp) ⟨.i, .i, trivial⟩, trivial⟩
/-- a run without glue -/
noncomputable def RunOk (ps : List (Addr × Nd)) (bg en : Nat) : Prop := bg ≤ en ∧ en ≤ ps.length ∧ ∀ j q, bg ≤ j → j < en → ps[j]? = some q → q.2.kind ≠ 6
theorem law_run_c (R : Rm 2 A) (G : Gd w p loose mg mb h) (gb : Heap) (Gb : Gd w p loose mg mb gb) (ho : h.get? a = some ob) (hf : gb.get? a = none) (H : HO ob c) (hc : 0 ≤ c ∧ c < 900) (hl : h.IsList l (vals ps).toArray) (hla : l ≠ a) (HN : ∀ b', (∀ c o, h.get? c = some o → c ≠ a → b'.get? c = some o) → NS w.params b' ps) (hz : 1 ≤ ps.length ∧ ps.length ≤ 100)
    (kq : ∀ h' tk' t o' (bg en : Nat) t1 t2, Ext [a] h h' → h.get? t = none → h'.get? t = some (tupOf [.int (bg : Int) t1, .int (en : Int) t2]) → RunOk ps bg en → h'.get? a = some o' → Q (.ref t) ⟨h', gs, dr, tk', os⟩) :
    wpAny (model prog w) A (call (.ref 652) [.ref a, .ref l]) Q E ⟨h, gs, dr, tk, os⟩ := by
  refine call_fnW (n := 1) (binds := [(Str.ofString "heap", .ref a), (Str.ofString "items", .ref l)]) R G gb Gb [(a, ob)] (fun q hq => by rw [List.mem_singleton.mp hq]; exact ho) (fun q hq => by rw [List.mem_singleton.mp hq]; exact hf) (by k_is) (by k_is) (BindsTo.of_eq (by rfl)) (by rfl) (fun A g L h₁ tk R F N G sg => ?_)
  have fin : ∀ {h' : Heap} {m : Str → Option Value}, Fr g L h' m → Ext [a] h h' := fun F b ob e hm => F.keep _ _ (sg _ _ e (by simpa using hm))
  have nh : ∀ {q : Addr}, q ≠ a → g.get? q = none → h.get? q = none := fun {q} hq e => by
    cases e' : h.get? q with
    | none => rfl
    | some o' => have := sg _ _ e' (by simpa using hq); rw [e] at this; cases this
  have hlg : g.IsList l (vals ps).toArray := by obtain ⟨o', e, r⟩ := hl; exact ⟨o', sg _ _ e (by simpa using hla), r⟩
  have HNg : NS w.params g ps := HN g fun c o e hc => sg _ _ e (by simpa using hc)
  have hlen : (vals ps).length = ps.length := by simp [vals]
  repeat (first
   | ((with_reducible show wpAny _ _ (call (Value.ref 619) _) _ _ _); (refine take_c (R.le (by decide)) (G.fr F) g G (N _ (.head _)).1 (N _ (.head _)).2.2 H (by omega) (by omega) ?_; intro h tk o r t e eo H r0 r1; have Z := ho_back F N (fun _ hq => nomatch hq) e eo; clear F N; obtain ⟨F, N⟩ := Z; clear e eo))
   | ((with_reducible show wpAny _ _ (call (Value.builtin "len") _) _ _ _); (refine k_len (hlg.at fun o e => F.keep _ _ e) (by omega) ?_))
   | ((with_reducible show wpAny _ _ (eval (Expr.Call (Expr.Name (Str.ofString "_law_take") _) _ _ _) _) _ _ _); refine e_call2 (kp_law_take _) (n_law_take F G ⟨rfl, ?_⟩ (by rfl) (by rfl)))
   | ((with_reducible show wpAny _ _ (eval (Expr.Call (Expr.Name (Str.ofString "len") _) _ _ _) _) _ _ _); refine e_bcall1 (n_len F G ⟨rfl, ?_⟩ (by rfl) (by rfl)))
   | walk_at "mS")
  rw [hlen] at r1
  obtain ⟨bg, rfl⟩ := Int.eq_ofNat_of_zero_le r0
  refine x_while (n₀ := ps.length - bg) (fun k m' led' => ∃ (en : Nat) (t1 t2 : Tok), led' = [(a, o)] ∧ k = ps.length - en ∧ RunOk ps bg en ∧ m' (Str.ofString "items") = some (.ref l) ∧ m' (Str.ofString "begin") = some (.int (bg : Int) t1) ∧ m' (Str.ofString "end") = some (.int (en : Int) t2)) F N ⟨bg, _, _, rfl, rfl, ⟨Nat.le_refl _, by omega, fun j q h1 h2 => by omega⟩, (by rfl : lo _ _ _ = _), (by rfl : lo _ _ _ = _), (by rfl : lo _ _ _ = _)⟩ ?_
  clear F N
  rintro k m' led' h tk F N ⟨en, t1, t2, rfl, rfl, run, m1, m2, m3⟩
  have F : Fr g L h (lo [] m') := F
  have kind : ∀ (hc : (en : Int) < ps.length), ∃ a n, ps[en]? = some (a, n) ∧ NodeAt w.params g a n := fun hc => by
    have : en < ps.length := by omega
    exact ⟨_, _, List.getElem?_eq_getElem this, HNg _ (List.getElem_mem this)⟩
  repeat (first
   | ((with_reducible show wpAny _ _ (call (Value.builtin "len") _) _ _ _); (refine k_len (hlg.at fun o e => F.keep _ _ e) (by omega) ?_; rw [hlen]))
   | ((with_reducible show wpAny _ _ (subscriptTail _ _ (Value.ref _) (Value.int _ _)) _ _ _); (obtain ⟨an, n, en_, HNn⟩ := kind hc; refine i_list (hlg.at fun o e => F.keep _ _ e) (by omega) (by omega) (vals_at en_) ?_))
   | ((with_reducible show wpAny _ _ (getAttr _ (Str.ofString "kind") _) _ _ _); (refine nd_kind (G.x.keeps F.keep) (HNn.up F.keep) ?_; intro t))
   | ((with_reducible show wpAny _ _ (newTuple _) _ _ _); (refine m_tup2 F N (fun _ hq => nomatch hq) ?_; clear F N; intro h t F N hr hlt))
   | ((with_reducible show wpAny _ _ (eval (Expr.Call (Expr.Name (Str.ofString "len") _) _ _ _) _) _ _ _); refine e_bcall1 (n_len F G ⟨rfl, ?_⟩ (by rfl) (by rfl)))
   | walk_at "mS")
  · exact kq _ _ _ _ _ _ _ _ (fin F) (nh (hr _ (.head _)) (N _ (.tail _ (.head _))).2.2) (N _ (.tail _ (.head _))).1 run (N _ (.head _)).1
  · exact kq _ _ _ _ _ _ _ _ (fin F) (nh (hr _ (.head _)) (N _ (.tail _ (.head _))).2.2) (N _ (.tail _ (.head _))).1 run (N _ (.head _)).1
  · refine ⟨rfl, _, _, _, _, ps.length - (en + 1), rfl, F, N, by omega, en + 1, _, _, rfl, rfl, ⟨by have := run.1; omega, by omega, fun j q h1 h2 hq => ?_⟩, m1, m2, by rfl⟩
    by_cases e : j = en
    · subst e
      rw [en_] at hq
      cases hq
      assumption
    · exact run.2.2 j q h1 (by omega) hq
  · exact kq _ _ _ _ _ _ _ _ (fin F) (nh (hr _ (.head _)) (N _ (.tail _ (.head _))).2.2) (N _ (.tail _ (.head _))).1 run (N _ (.head _)).1
end
end Mine
/-! Law6 -/
namespace Mine
open LCg
theorem up_tr {a b c : Heap} (h : Up a b) (k : Up b c) : Up a c := fun x o e => k _ _ (h _ _ e)
noncomputable def DNs (P : Params) (h : Heap) (ps : List (Addr × Nd)) : Prop := ∀ q ∈ ps, DN P h q.1 q.2
theorem DNs.up {P : Params} {h h' : Heap} {ps : List (Addr × Nd)} (H : DNs P h ps) (u : Up h h') : DNs P h' ps := fun q hq => (H q hq).up u
theorem DNs.ns {P : Params} {h : Heap} {ps : List (Addr × Nd)} (H : DNs P h ps) : NS P h ps := fun q hq => (H q hq).node
theorem lst_up {h h' : Heap} {l : Addr} {vs : List Value} (H : h.IsList l vs.toArray) (u : Up h h') : h'.IsList l vs.toArray := H.at fun o e => u _ _ e
theorem pk_up {P : Params} {h h' : Heap} {a l : Addr} {wd hh dd s o u d : Int} (H : PkAt P h a l wd hh dd s o u d) (k : Up h h') : PkAt P h' a l wd hh dd s o u d :=
  let ⟨rt, t1, t2, t3, t4, t5, t6, t7, t8, t9, I, e⟩ := H; ⟨rt, t1, t2, t3, t4, t5, t6, t7, t8, t9, I.up k, k _ _ e⟩
theorem pk_box {P : Params} {h : Heap} {a l : Addr} {wd hh dd s o u d : Int} (H : PkAt P h a l wd hh dd s o u d) : NodeAt P h a (.box 3 wd hh dd 0) :=
  let ⟨_, t1, t2, t3, t4, t5, _, _, _, _, I, _⟩ := H; ⟨.inr rfl, t1, t2, t3, t4, t5, _, _, _, _, I⟩
section
variable {prog : Program} {w : World} {A : Around} {E : Value → Shared → Prop} {h g b : Heap} {gs : Array GenState} {dr : Drawn} {tk : Nat} {os : OsState} {L a l c : Addr} {m : Str → Option Value} {mu led : List (Addr × Obj)}
  {cn : Str} {cs : Scope} {ccd : Value} {cl : List (Str × Addr)} {env : Env} {p : Program} {loose : List Str} {mg mb : Str → Option Value} {Q : Value → Shared → Prop} {pos : Pos} {x : Str} {v : Value} {ob : Obj} {QU : Unit → Shared → Prop} {ps : List (Addr × Nd)} {vs ws : List Value} {tt xb rp : Addr}
  {mode amount most wd hh dd s o u d r rb z : Int} {tm ta tmo tb tz : Tok}
theorem e_cell (N : News g L h led) (hc : cl.lookup x = some c) (hm : (c, ob) ∈ led) (hd : ob.data = .cell (some v)) (kq : Q v ⟨h, gs, dr, tk, os⟩) (hk : cs.kind = .function := by rfl) (hx : (envX cn cs L a ccd cl).kindOf x = some .cell := by rfl) (hb : (x == ("__debug__" : Str)) = false := by decide) :
    wpAny (model prog w) A (eval (.Name x pos) (envX cn cs L a ccd cl)) Q E ⟨h, gs, dr, tk, os⟩ := wpAny_Name (wpAny_loadName_cell hk hx hc ⟨ob, (N _ hm).1, hd⟩ kq) hb
/-- what a new object adds -/
theorem absorb_new {D : Addr} (F : Fr g L h m) (N : News g L h ((D, ob) :: (mu ++ fresh g b))) (W : Lw g b mu) (lt : ∀ q ∈ mu ++ fresh g b, q.1 < D) : ∃ b', News g L h (mu ++ fresh g b') ∧ Lw g b' mu ∧ Up b b' ∧ b'.get? D = some ob := by
  have nD : b.get? D = none := by
    cases e : b.get? D with
    | none => rfl
    | some o' =>
      have q := lt (D, o') (List.mem_append_right _ (mem_fresh.mpr ⟨(N _ (.head _)).2.2, e⟩))
      exact absurd q (Nat.lt_irrefl _)
  exact absorb F N ⟨W.up, fun q hq => by
    rcases List.mem_cons.mp hq with rfl | hq
    · exact nD
    · exact W.off q hq⟩ fun r hr => Nat.ne_of_lt (lt r (List.mem_append_left _ hr))
theorem news_start (N : News g L h mu) : News g L h (mu ++ fresh g g) := fun q hq => by
  rcases List.mem_append.mp hq with hq | hq
  · exact N q hq
  · have z := mem_fresh.mp (show (q.1, q.2) ∈ _ from hq)
    have z2 := z.2
    rw [z.1] at z2; cases z2
theorem lw_start (N : News g L h mu) : Lw g g mu := ⟨up_refl g, fun q hq => (N q hq).2.2⟩
/-! the steps of a walk over (mu, b) -/
theorem st_tup (F : Fr g L h m) (N : News g L h (mu ++ fresh g b)) (W : Lw g b mu) (kq : ∀ h' t b', Fr g L h' m → News g L h' (mu ++ fresh g b') → Lw g b' mu → Up b b' → b'.get? t = some (tupOf vs) → Q (.ref t) ⟨h', gs, dr, tk, os⟩) (hz : vs.length ≤ 1000 := by exact Nat.le_of_ble_eq_true rfl) :
    wpAny (model prog w) A (newTuple vs) Q E ⟨h, gs, dr, tk, os⟩ := m_tup F N (fun h' t F' N' lt => let ⟨b', n, w', u, e⟩ := absorb_new F' N' W lt; kq h' t b' F' n w' u e) hz
theorem st_lst (F : Fr g L h m) (N : News g L h (mu ++ fresh g b)) (W : Lw g b mu) (kq : ∀ h' t b', Fr g L h' m → News g L h' (mu ++ fresh g b') → Lw g b' mu → Up b b' → b'.IsList t vs.toArray → Q (.ref t) ⟨h', gs, dr, tk, os⟩) (hz : vs.length ≤ 1000 := by exact Nat.le_of_ble_eq_true rfl) :
    wpAny (model prog w) A (newList vs) Q E ⟨h, gs, dr, tk, os⟩ := m_list F N (fun h' t F' N' lt => let ⟨b', n, w', u, e⟩ := absorb_new F' N' W lt; kq h' t b' F' n w' u ⟨_, e, rfl, _, rfl⟩) hz
theorem st_slice {value slice : Expr} {vl vu : Value} {lo hi : Option Int} (F : Fr g L h m) (N : News g L h (mu ++ fresh g b)) (W : Lw g b mu) (hl : b.IsList l vs.toArray) (pl : IsPart vl lo) (pu : IsPart vu hi)
    (kq : ∀ h' t b', Fr g L h' m → News g L h' (mu ++ fresh g b') → Lw g b' mu → Up b b' → b'.IsList t (kms_pick vs lo hi).toArray → Q (.ref t) ⟨h', gs, dr, tk, os⟩) (hz : vs.length ≤ 1000)
    (hs : subscripted slice false (.ref l) (.ref h.objs.size) = operate [.ref h.objs.size, .ref l] (getItem (.ref l) (.ref h.objs.size)) := by with_unfolding_all rfl) (ht : ∀ r, letTemporaryGo value (.ref l) r = pure () := by intro _; with_unfolding_all rfl) :
    wpAny (model prog w) A (subscriptTail value slice (.ref l) (.ref h.objs.size)) Q E ⟨h.push { cls := .type "slice", data := .fields #[vl, vu, .none] }, gs, dr, tk, os⟩ :=
  sl_list F N (lst_up hl (up_base F N W)) pl pu (fun h' D F' N' lt => let ⟨b', n, w', u, e⟩ := absorb_new F' N' W lt; kq h' D b' F' n w' u ⟨_, e, rfl, _, rfl⟩) hz hs ht
theorem st_rev {value slice : Expr} {t : Tok} {ops : List Value} (F : Fr g L h m) (N : News g L h (mu ++ fresh g b)) (W : Lw g b mu) (hl : b.IsList l vs.toArray)
    (kq : ∀ h' t b', Fr g L h' m → News g L h' (mu ++ fresh g b') → Lw g b' mu → Up b b' → b'.IsList t vs.reverse.toArray → Q (.ref t) ⟨h', gs, dr, tk, os⟩) (hz : vs.length ≤ 1000)
    (hs : subscripted slice false (.ref l) (.ref h.objs.size) = operate ops (getItem (.ref l) (.ref h.objs.size)) := by with_unfolding_all rfl) (ht : ∀ r, letTemporaryGo value (.ref l) r = pure () := by intro _; with_unfolding_all rfl) :
    wpAny (model prog w) A (subscriptTail value slice (.ref l) (.ref h.objs.size)) Q E ⟨h.push { cls := .type "slice", data := .fields #[.none, .none, .int (-1) t] }, gs, dr, tk, os⟩ :=
  sl_rev F N (lst_up hl (up_base F N W)) (fun h' D F' N' lt => let ⟨b', n, w', u, e⟩ := absorb_new F' N' W lt; kq h' D b' F' n w' u ⟨_, e, rfl, _, rfl⟩) hz hs ht
theorem st_add {l2 : Addr} (F : Fr g L h m) (N : News g L h (mu ++ fresh g b)) (W : Lw g b mu) (hl : b.IsList l vs.toArray) (hl2 : b.IsList l2 ws.toArray)
    (kq : ∀ h' t b', Fr g L h' m → News g L h' (mu ++ fresh g b') → Lw g b' mu → Up b b' → b'.IsList t (vs ++ ws).toArray → Q (.ref t) ⟨h', gs, dr, tk, os⟩) (hz : vs.length + ws.length ≤ 1000) :
    wpAny (model prog w) A (binaryOp .Add (.ref l) (.ref l2)) Q E ⟨h, gs, dr, tk, os⟩ :=
  add_lists (s := ⟨h, gs, dr, tk, os⟩) F N (lst_up hl (up_base F N W)) (lst_up hl2 (up_base F N W)) (fun h' F' N' => let ⟨b', n, w', u, e⟩ := absorb_new F' N' W (fun q hq => Heap.lt_size (N q hq).1); kq h' _ b' F' n w' u ⟨_, e, rfl, _, rfl⟩) (Nat.le_trans hz (by decide +kernel))
theorem st_copy (F : Fr g L h m) (N : News g L h (mu ++ fresh g b)) (W : Lw g b mu) (hl : b.IsList l vs.toArray)
    (kq : ∀ h' t b', Fr g L h' m → News g L h' (mu ++ fresh g b') → Lw g b' mu → Up b b' → b'.IsList t vs.toArray → Q (.ref t) ⟨h', gs, dr, tk, os⟩) (hz : vs.length ≤ 1000) :
    wpAny (model prog w) A (call (.type "list") [.ref l]) Q E ⟨h, gs, dr, tk, os⟩ := by
  obtain ⟨ol, ho, hc, n, hd⟩ := lst_up hl (up_base F N W)
  refine call_list_seq (s := ⟨h, gs, dr, tk, os⟩) l (.inl rfl) ho hc hd (fun h' c' u e => ?_) (by rw [List.size_toArray]; exact Nat.le_trans hz (by decide +kernel))
  have nn : h.get? h.objs.size = none := by
    cases q : h.get? h.objs.size with
    | none => rfl
    | some o => exact absurd (Heap.lt_size q) (Nat.lt_irrefl _)
  have N' := new_at F (News.up N u) nn e
  obtain ⟨b', n', w', u', e'⟩ := absorb_new (Fr.up F u) N' W (fun q hq => Heap.lt_size (N q hq).1)
  exact kq h' _ b' (Fr.up F u) n' w' u' ⟨_, e', rfl, _, rfl⟩
theorem st_vpack {al : List Value} (R : Rm 8 A) (Gg : Gd w p loose mg mb g) (F : Fr g L h m) (N : News g L h (mu ++ fresh g b)) (W : Lw g b mu) (hl : b.IsList l (vals ps).toArray) (HN : NS w.params b ps) (V : VpOk ps mode amount most)
    (hv : al = [.ref l, .int mode tm, .int amount ta, .int most tmo] ∨ (al = [.ref l] ∧ mode = 1 ∧ tm = 925 ∧ amount = 0 ∧ ta = 1035 ∧ most = 1073741823 ∧ tmo = 280))
    (kq : ∀ h' tk' t xb rp ta tb s o u d r rb b', Fr g L h' m → News g L h' (mu ++ fresh g b') → Lw g b' mu → Up b b' → b'.get? t = some (tupOf [.ref xb, .ref rp]) → PkAt w.params b' xb l (natF ps).W (vpH ps mode amount most) (vpD ps most) s o u d →
      b'.get? rp = some (tupOf [.int r ta, .int rb tb]) → SG.mk s o u d r rb = vpS ps mode amount most → Q (.ref t) ⟨h', gs, dr, tk', os⟩) : wpAny (model prog w) A (call (.ref 605) al) Q E ⟨h, gs, dr, tk, os⟩ := by
  have ub := up_base F N W
  refine vpack_c R (Gg.up F.keep) (lst_up hl ub) (HN.up ub) V hv ?_
  intro h' tk' t xb rp ta tb s o u d r rb uu et pk er nt nx nr es
  obtain ⟨n, w', ubb, F', nb⟩ := grow_up_led F N W uu
  exact kq h' tk' t xb rp ta tb s o u d r rb _ F' n w' ubb (nb _ _ ⟨nt, et⟩) (pk _ fun a o e e' => nb _ _ ⟨e, e'⟩) (nb _ _ ⟨nr, er⟩) es
theorem st_places (R : Rm 6 A) (Gg : Gd w p loose mg mb g) (F : Fr g L h m) (N : News g L h (mu ++ fresh g b)) (W : Lw g b mu) (B : PkAt w.params b xb l wd hh dd s o u d) (hd : 0 < d ∧ d < 2 ^ 29 ∧ bnd u) (hl : b.IsList l (vals ps).toArray) (HN : NS w.params b ps) (hz : ps.length ≤ 100)
    (kq : ∀ h' tk' fl b', Fr g L h' m → News g L h' (mu ++ fresh g b') → Lw g b' mu → Up b b' → g.get? fl = none → IL b' fl (plF s o u d ps).fo → Q (.ref fl) ⟨h', gs, dr, tk', os⟩) : wpAny (model prog w) A (call (.ref 583) [.ref xb]) Q E ⟨h, gs, dr, tk, os⟩ := by
  have ub := up_base F N W
  refine places_c R (Gg.up F.keep) (pk_up B ub) hd.1 hd.2.1 hd.2.2 (lst_up hl ub) (HN.up ub) hz ?_
  intro h' tk' fl uu nf IF
  obtain ⟨n, w', ubb, F', nb⟩ := grow_up_led F N W uu
  obtain ⟨qs, e, ⟨of, ef, r⟩⟩ := IF
  exact kq h' tk' fl _ F' n w' ubb (none_up F.keep nf) ⟨qs, e, of, nb _ _ ⟨nf, ef⟩, r⟩
theorem st_told (R : Rm 1 A) (Gg : Gd w p loose mg mb g) (F : Fr g L h m) (N : News g L h (mu ++ fresh g b)) (W : Lw g b mu) (ht : b.get? tt = some (tupOf [.ref xb, .ref rp])) (B : PkAt w.params b xb l wd hh dd s o u d) (hrp : b.get? rp = some (tupOf [.int r ta, .int rb tb]))
    (kq : ∀ h' tk' t b', Fr g L h' m → News g L h' (mu ++ fresh g b') → Lw g b' mu → Up b b' → Rd b' 2 (.ref t) (toldD 3 wd hh dd 0 s o u d r rb) → Q (.ref t) ⟨h', gs, dr, tk', os⟩) : wpAny (model prog w) A (call (.ref 645) [.ref tt]) Q E ⟨h, gs, dr, tk, os⟩ := by
  have ub := up_base F N W
  refine told_c R (Gg.up F.keep) ub (ub _ _ ht) B hrp ?_
  intro h' tk' t uu H
  obtain ⟨n, w', ubb, F', nb⟩ := grow_up_led F N W uu
  exact kq h' tk' t _ F' n w' ubb (H.rd ubb nb)
theorem ds_node {n : Nd} {zm : Int} (hz : zm + 2 ≤ 60) (H : DN w.params b a n) : DsG prog w b a n.desc 3 3 zm := by
  cases n with
  | box k wd hh dd sh =>
    intro A h gs dr tk os p loose mg mb E Q z tz R G ub hzm kq
    exact leaf_ds H.1 (by omega) H.2 (R.le (by decide)) G ub hzm fun h' tk' t u q => kq h' tk' t u (q.le (by decide))
  | skip => exact desc_skip hz H
  | rule => exact desc_rule (by omega) H
  | kern => exact desc_kern (by omega) H
  | pen => exact desc_pen (by omega) H
  | mark => exact desc_mark (by omega) H
noncomputable def pkD (wd hh dd s o u d : Int) (ps : List (Addr × Nd)) : PT := boxD 3 wd hh dd 0 s o u d (.t (ps.map fun q => q.2.desc))
theorem st_desc (R : Rm 5 A) (Gg : Gd w p loose mg mb g) (F : Fr g L h m) (N : News g L h (mu ++ fresh g b)) (W : Lw g b mu) (B : PkAt w.params b xb l wd hh dd s o u d) (hl : b.IsList l (vals ps).toArray) (HN : DNs w.params b ps) (hz : ps.length ≤ 100)
    (kq : ∀ h' tk' t b', Fr g L h' m → News g L h' (mu ++ fresh g b') → Lw g b' mu → Up b b' → Rd b' 5 (.ref t) (pkD wd hh dd s o u d ps) → Q (.ref t) ⟨h', gs, dr, tk', os⟩) : wpAny (model prog w) A (call (.ref 477) [.ref xb]) Q E ⟨h, gs, dr, tk, os⟩ := by
  have ub := up_base F N W
  obtain ⟨rt, t1, t2, t3, t4, t5, t6, t7, t8, t9, I, hr⟩ := B
  have HL : DlG prog w b l (.t (ps.map fun q => q.2.desc)) 4 4 10 := by
    have z : DlG prog w b l (.t ((ps.map fun q => (q.1, q.2.desc)).map (·.2))) 4 4 10 := dl_c (K := 3) (n := 3) (ps := ps.map fun q => (q.1, q.2.desc)) (by rw [List.map_map]; exact hl) (by rw [List.length_map]; exact hz) (fun q hq => by
      obtain ⟨r, hr, rfl⟩ := List.mem_map.mp hq
      exact ds_node (by decide) (HN r hr))
    rw [List.map_map] at z
    exact @z
  refine desc_box (n := 3) (zm := 10) (z := 0) (tz := 876) R (Gg.up F.keep) ub I hr (.inr rfl) HL (by decide) (by decide) (.inr ⟨rfl, rfl, rfl⟩) ?_
  intro h' tk' t uu H
  obtain ⟨n, w', ubb, F', nb⟩ := grow_up_led F N W uu
  exact kq h' tk' t _ F' n w' ubb (H.rd ubb nb)
end
end Mine
/-! Plain4 -/
namespace Mine
theorem setF_bd {st sk : List Int} {e : Int} (hs : sumOk st sk) (he : bnd e) : 0 < (setF st sk e).down ∧ (setF st sk e).down < 2 ^ 29 ∧ bnd (setF st sk e).up := by
  obtain ⟨_, _, h1, h2⟩ := hs
  unfold bnd at *
  unfold setF
  by_cases e0 : e = 0
  · rw [if_pos e0]; dsimp only; exact ⟨by decide, by decide, by decide, by decide⟩
  · rw [if_neg e0]
    dsimp only
    generalize hz : (if e > 0 then st else sk) = zs
    have hb : ∀ k, -(2 ^ 29) < zs.getD k 0 ∧ zs.getD k 0 < 2 ^ 29 := fun k => by rw [← hz]; split <;> simp_all
    generalize (topOrd zs) = o
    have hb := hb o.toNat
    generalize zs.getD o.toNat 0 = t at hb ⊢
    by_cases t0 : t = 0
    · rw [if_pos t0]; dsimp only; exact ⟨by decide, by decide, by decide, by decide⟩
    · rw [if_neg t0]
      generalize (if o = 0 then (if e < 0 ∧ t < -e then (3 : Int) else if e > 0 then 1 else 2) else 0) = rp
      by_cases r : rp = 3
      · rw [if_pos r]; dsimp only; exact ⟨by decide, by decide, by decide, by decide⟩
      · rw [if_neg r]
        dsimp only
        by_cases t1 : t > 0
        · rw [if_pos t1, if_pos t1]
          by_cases e1 : e < 0
          · rw [if_pos e1]; exact ⟨t1, hb.2, by omega, by omega⟩
          · rw [if_neg e1]; exact ⟨t1, hb.2, he.1, he.2⟩
        · rw [if_neg t1, if_neg t1]
          by_cases e1 : e < 0
          · rw [if_pos e1]; exact ⟨by omega, by omega, by omega, by omega⟩
          · rw [if_neg e1]; exact ⟨by omega, by omega, by omega, by omega⟩
theorem sg_bd {ps : List (Addr × Nd)} {mode amount most s o u d r rb : Int} (V : VpOk ps mode amount most) (e : SG.mk s o u d r rb = vpS ps mode amount most) : 0 < d ∧ d < 2 ^ 29 ∧ bnd u := by
  have z := setF_bd V.hs V.hE
  unfold vpS at e
  rw [← e] at z
  exact z
/-- a column packed as it is -/
theorem sg_nat {ps : List (Addr × Nd)} {s o u d r rb most : Int} (e : SG.mk s o u d r rb = vpS ps 1 0 most) : s = 0 ∧ o = 0 ∧ u = 0 ∧ d = 1 := by
  have e0 : vpE ps 1 0 most = 0 := by unfold vpE vpH; rw [if_neg (by decide)]; omega
  unfold vpS setF at e
  rw [e0, if_pos rfl] at e
  cases e
  exact ⟨rfl, rfl, rfl, rfl⟩
theorem lo_nat {a n : Nat} (h : a ≤ n) : kms_lo (some (a : Int)) n = a := by
  show (if (a : Int) < 0 then n - (-(a : Int)).toNat else min (a : Int).toNat n) = a
  rw [if_neg (by omega), Int.toNat_natCast, Nat.min_eq_left h]
theorem hi_nat {a n : Nat} (h : a ≤ n) : kms_hi (some (a : Int)) n = a := by
  show (if (a : Int) < 0 then n - (-(a : Int)).toNat else min (a : Int).toNat n) = a
  rw [if_neg (by omega), Int.toNat_natCast, Nat.min_eq_left h]
theorem pick_mid {l : List Value} {a b : Nat} (h1 : a ≤ b) (h2 : b ≤ l.length) : kms_pick l (some (a : Int)) (some (b : Int)) = (l.drop a).take (b - a) := by
  unfold kms_pick
  rw [lo_nat (by omega), hi_nat h2]
theorem pick_to {l : List Value} {b : Nat} (h2 : b ≤ l.length) : kms_pick l none (some (b : Int)) = l.take b := by
  unfold kms_pick
  rw [hi_nat h2]; rfl
theorem pick_from {l : List Value} {a : Nat} (h2 : a ≤ l.length) : kms_pick l (some (a : Int)) none = l.drop a := by
  unfold kms_pick
  rw [lo_nat h2]
  exact List.take_of_length_le (by simp [kms_hi])
theorem thick_kind {P : Params} {h : Heap} {a : Addr} {n : Nd} (H : NodeAt P h a n) : n.thick = true ↔ (n.kind = 2 ∨ n.kind = 3 ∨ n.kind = 4 ∨ n.kind = 5) := by
  cases n with
  | box => obtain ⟨h | h, _⟩ := H <;> simp [Nd.thick, Nd.kind, h]
  | _ => simp [Nd.thick, Nd.kind]
theorem glue_kind {P : Params} {h : Heap} {a : Addr} {n : Nd} (H : NodeAt P h a n) (e : n.kind ≠ 6) : n.glue = false := by
  cases n with
  | skip => exact absurd rfl e
  | _ => rfl
/-- the three parts of a column -/
theorem split3 (ps : List (Addr × Nd)) {bg en : Nat} (h1 : bg ≤ en) (h2 : en ≤ ps.length) : ∃ As B C, ps = As ++ B ++ C ∧ As.length = bg ∧ bg + B.length = en ∧ As = ps.take bg ∧ B = (ps.drop bg).take (en - bg) ∧ C = ps.drop en := by
  refine ⟨_, _, _, ?_, ?_, ?_, rfl, rfl, rfl⟩
  · rw [List.append_assoc, show ps.drop en = (ps.drop bg).drop (en - bg) by rw [List.drop_drop]; congr 1; omega, List.take_append_drop, List.take_append_drop]
  · rw [List.length_take]; omega
  · rw [List.length_take, List.length_drop]; omega
end Mine
/-! Law7 -/
namespace Mine
open LCg LCt
section
variable {prog : Program} {w : World} {A : Around} {E : Value → Shared → Prop} {h g : Heap} {gs : Array GenState} {dr : Drawn} {tk : Nat} {os : OsState} {L a : Addr} {m : Str → Option Value}
  {cn : Str} {cs : Scope} {ccd : Value} {cl : List (Str × Addr)} {p : Program} {loose : List Str} {mg mb : Str → Option Value} {Q : Value → Shared → Prop} {pos : Pos}

variable {z wd hh dd s o u d r rb mode amount most gap : Int} {bg en : Nat} {t1 t2 t3 t4 t5 : Tok} {l tt bl : Addr} {n : Nd} {ps : List (Addr × Nd)}
theorem eltn_one {I C D t' : Addr} {oI oC oD ob : Obj} {led : List (Addr × Obj)} {J : List Value → List (Addr × Obj) → Prop} {ys : List Value} (F : Fr g L h m) (N : News g L h ((t', ob) :: (I, oI) :: (C, oC) :: (D, oD) :: led))
    (lt : ∀ q ∈ (I, oI) :: (C, oC) :: (D, oD) :: led, q.1 < t') (off : Off3 I C D led) (j : J ys ((t', ob) :: led)) : EltN g L m gs dr os I C D oI oC oD J ys ⟨h, gs, dr, tk, os⟩ := by
  refine ⟨h, tk, (t', ob) :: led, rfl, F, News.sub N fun q hq => ?_, Off3.of fun q hq => ?_, j⟩
  · simp only [List.mem_cons] at hq ⊢
    rcases hq with h | h | h | h | h <;> simp [h]
  · rcases List.mem_cons.mp hq with rfl | hq
    · exact ⟨Nat.ne_of_gt (lt _ (.head _)), Nat.ne_of_gt (lt _ (.tail _ (.head _))), Nat.ne_of_gt (lt _ (.tail _ (.tail _ (.head _))))⟩
    · exact off.mem q hq
theorem vals_app (as bs : List (Addr × Nd)) : vals (as ++ bs) = vals as ++ vals bs := by simp [vals]
theorem vals_len (as : List (Addr × Nd)) : (vals as).length = as.length := by simp [vals]
theorem vals_take (as : List (Addr × Nd)) (k : Nat) : (vals as).take k = vals (as.take k) := by simp [vals, List.map_take]
theorem vals_drop (as : List (Addr × Nd)) (k : Nat) : (vals as).drop k = vals (as.drop k) := by simp [vals, List.map_drop]
theorem law_grouped_c (R : Rm 9 A) (G : Gd w p loose mg mb h) (hl : h.IsList l (vals ps).toArray) (HN : NS w.params h ps) (hbd : ∀ q ∈ ps, q.2.ok ∧ q.2.bd) (hlen : 1 ≤ ps.length ∧ ps.length ≤ 9) (run : RunOk ps bg en)
    (hm : mode = 0 ∨ mode = 1) (hmost : -2 ≤ most ∧ most ≤ 1073741823) (hgap : -10000000 ≤ gap ∧ gap ≤ 10000000) (ha : (mode = 1 ∧ amount = gap) ∨ (mode = 0 ∧ amount = vpNat ps most + gap))
    (HT : Rd h 2 (.ref tt) (toldD 3 (natF ps).W (vpH ps mode amount most) (vpD ps most) 0 s o u d r rb)) (es : SG.mk s o u d r rb = vpS ps mode amount most) (HB : IL h bl (plF s o u d ps).fo)
    (kq : ∀ h' tk', Up h h' → Q (.bool true) ⟨h', gs, dr, tk', os⟩) :
    wpAny (model prog w) A (call (.ref 657) [.ref l, .int (bg : Int) t1, .int (en : Int) t2, .int mode t3, .int amount t4, .int most t5, .ref tt, .ref bl]) Q E ⟨h, gs, dr, tk, os⟩ := by
  refine call_fnC (n := 8) (binds := [(Str.ofString "items", .ref l), (Str.ofString "begin", .int (bg : Int) t1), (Str.ofString "end", .int (en : Int) t2), (Str.ofString "mode", .int mode t3), (Str.ofString "amount", .int amount t4), (Str.ofString "most", .int most t5), (Str.ofString "told", .ref tt), (Str.ofString "begins", .ref bl)]) R G h G [] (fun _ hq => nomatch hq) (fun _ hq => nomatch hq) (by k_is) (by k_is) (BindsTo.of_eq (by rfl)) (fun n => kinds_of (by kinds_ok)) (by decide +kernel) (fun A g L h1 tk cells R F N CA Gg ug _ => ?_)
  have CA' : CellsAre _ [(Str.ofString "begins", L + 2), (Str.ofString "begin", L + 1)] cells := CA
  obtain ⟨oc2, oc1, rfl, hc2, hc1⟩ := CellsAre.two CA'
  have hc1 : oc1.data = .cell (some (.int (bg : Int) t1)) := hc1
  have hc2 : oc2.data = .cell (some (.ref bl)) := hc2
  clear CA CA'
  have G := Gg
  have uh : Up h g := fun b o e => ug b o e (fun hm => nomatch hm)
  replace hl := lst_up hl uh
  replace HN := HN.up uh
  replace HT := HT.up uh
  replace HB := HB.up uh
  replace kq : ∀ h' tk', Up g h' → Q (.bool true) ⟨h', gs, dr, tk', os⟩ := fun h' tk' k => kq h' tk' (up_tr uh k)
  clear uh ug Gg
  generalize hMU : [(L + 2, oc2), (L + 1, oc1)] = MU at N
  have N : News g L h1 MU := by rw [List.append_nil] at N; exact N
  have c2 : (L + 2, oc2) ∈ MU := by rw [← hMU]; exact .head _
  have c1 : (L + 1, oc1) ∈ MU := by rw [← hMU]; exact .tail _ (.head _)
  clear hMU
  have W := lw_start N
  replace N := news_start N
  obtain ⟨As, B, C, eps, hA, hBl, eA, eB, eC⟩ := split3 ps run.1 run.2.1
  have hlv : (vals ps).length = ps.length := vals_len ps
  have pB : kms_pick (vals ps) (some (bg : Int)) (some (en : Int)) = vals B := by rw [pick_mid run.1 (by rw [hlv]; exact run.2.1), vals_drop, vals_take, ← eB]
  have pA : kms_pick (vals ps) none (some (bg : Int)) = vals As := by rw [pick_to (by rw [hlv]; have := run.1; have := run.2.1; omega), vals_take, ← eA]
  have pC : kms_pick (vals ps) (some (en : Int)) none = vals C := by rw [pick_from (by rw [hlv]; exact run.2.1), vals_drop, ← eC]
  have HB' : ∀ q ∈ B, q ∈ ps := fun q hq => by rw [eps]; exact List.mem_append_left _ (List.mem_append_right _ hq)
  have hBlen : B.length ≤ 9 := by have := run.2.1; omega
  have gB : ∀ q ∈ B, q.2.glue = false := fun q hq => by
    rw [eB] at hq
    obtain ⟨j, hj⟩ := List.getElem?_of_mem hq
    have hj2 : j < en - bg := by
      have := (List.getElem?_eq_some_iff.mp hj).1
      rw [List.length_take] at this; omega
    have : ps[bg + j]? = some q := by
      rw [List.getElem?_take_of_lt hj2, List.getElem?_drop] at hj; exact hj
    exact glue_kind (HN q (List.mem_of_getElem? this)) (run.2.2 (bg + j) q (by omega) (by omega) this)
  refine x_if ?_
  refine i_cmp ?_
  refine e_compT (cl := []) (its := vals B) (J := fun ax i ys led => SrcAt g ax (vals B).toArray led ∧ (∀ q ∈ MU ++ fresh g g, q ∈ led) ∧ ((ys = [] ∧ ∀ q ∈ B.take i, q.2.thick = false) ∨ (ys ≠ [] ∧ ∃ q ∈ B.take i, q.2.thick = true))) R.hd F ?_ (fun _ _ _ _ j => j.1) (by rw [vals_len]; omega) ?_ ?_ (by rfl) (by decide) (by rfl) (by decide) (by rfl)
  · repeat (first
   | ((with_reducible show wpAny _ _ (eval (Expr.Name (Str.ofString "begin") _) _) _ _ _); (refine e_cell (c := L + 1) N (by rfl) (List.mem_append_left _ c1) hc1 ?_))
   | ((with_reducible show wpAny _ _ (subscriptTail _ _ (Value.ref _) (Value.ref _)) _ _ _); (refine sl_list F N (lst_up hl F.keep) (.int _ _) (.int _ _) ?_ (by omega); clear F N; intro h D F N lt))
   | walk_at "mS")
    rw [pB] at N
    exact ⟨_, _, _, _, rfl, rfl, F, N, .inr ⟨_, .head _, rfl, _, rfl⟩, fun q hq => .tail _ hq, .inl ⟨rfl, by simp⟩⟩
  · intro ax i v ys led I oI C' oC D m₂ h tk E' hv j hC hx F N off n1 n2 n3
    obtain ⟨a, n, e, rfl⟩ := vals_get hv
    have H := HN _ (HB' _ (List.mem_of_getElem? e))
    have hCn := hC.ns (N _ (.tail _ (.head _))).1
    have et : B.take (i + 1) = B.take i ++ [(a, n)] := by rw [List.take_add_one, e]; rfl
    refine i_cmp (e_attr (c_loc hCn hx (nd_kind (G.x.keeps F.keep) (H.up F.keep) fun t => ?_)))
    refine e_tup (a_cons (e_int (a_cons (e_int (a_cons (e_int (a_cons (e_int (a_nil (m_tup F N fun h' t F' N' lt => ?_)))))))))) 
    refine c_in4 (N' _ (.head _)).1 (t_bool ?_)
    have keep : ∀ e : Addr × Obj, SrcAt g ax (vals B).toArray (e :: led) ∧ (∀ q ∈ MU ++ fresh g g, q ∈ e :: led) := fun e => ⟨by
      rcases j.1 with j | ⟨o, j, r⟩
      · exact .inl j
      · exact .inr ⟨o, .tail _ j, r⟩, fun q hq => .tail _ (j.2.1 q hq)⟩
    refine br_dec (fun hc => ?_) (fun hc => ?_)
    · refine c_loc (hC.ns (N' _ (.tail _ (.tail _ (.head _)))).1) hx (elt_one F' N' lt off ⟨(keep _).1, (keep _).2, .inr ⟨by simp, (a, n), ?_, (thick_kind H).mpr hc⟩⟩)
      rw [et]; simp
    · refine eltn_one F' N' lt off ⟨(keep _).1, (keep _).2, ?_⟩
      have tf : n.thick = false := by
        cases q : n.thick with
        | false => rfl
        | true => exact absurd ((thick_kind H).mp q) hc
      rw [et]
      rcases j.2.2 with ⟨j1, j2⟩ | ⟨j1, q, hq, j2⟩
      · exact .inl ⟨j1, fun q hq => by
          rcases List.mem_append.mp hq with hq | hq
          · exact j2 q hq
          · rw [List.mem_singleton.mp hq]; exact tf⟩
      · exact .inr ⟨j1, q, List.mem_append_left _ hq, j2⟩
  intro ax D h tk ys led j F N
  refine e_list (a_nil (m_list F N fun h l0 F N lt => ?_))
  have hD : h.IsList D ys.toArray := ⟨_, (N _ (.tail _ (.head _))).1, rfl, _, rfl⟩
  have hl0 : h.IsList l0 ([] : List Value).toArray := ⟨_, (N _ (.head _)).1, rfl, _, rfl⟩
  rw [vals_len, List.take_length] at j
  rcases j with ⟨j1, j2, ⟨rfl, _⟩ | ⟨j4, thB⟩⟩
  · refine il_eq (zs := []) ⟨[], rfl, hD⟩ ⟨[], rfl, hl0⟩ R.ult (t_bool (br_pos rfl ?_))
    repeat (first
   | walk_at "mS")
    all_goals exact kq _ _ F.keep
  refine ls_eq_len hD hl0 (by cases ys with | nil => exact absurd rfl j4 | cons _ _ => simp) R.ult (t_bool (br_neg rfl (x_nil_seq ?_)))
  replace N : News g L h (MU ++ fresh g g) := News.sub N fun q hq => .tail _ (.tail _ (j2 q hq))
  clear hD hl0 j2 j4 j1 lt
  replace F : Fr g L h (lo [] _) := F
  have thB' : ∃ q ∈ B, q.2.thick = true := thB
  have hBne : B ≠ [] := fun e => by rw [e] at thB'; obtain ⟨q, hq, _⟩ := thB'; cases hq
  have cB : CB B := CB.of hBne (by omega) fun q hq => hbd q (HB' q hq)
  have HNB : NS w.params g B := fun q hq => HN q (HB' q hq)
  obtain ⟨VB, eEB, eHB⟩ := cB.vp (mode := 1) (amount := 0) (most := 1073741823) (gap := 0) (.inr rfl) (by decide) (by decide) (.inl ⟨rfl, rfl⟩)
  have u0 := up_refl g
  repeat (first
   | ((with_reducible show wpAny _ _ (eval (Expr.Name (Str.ofString "begin") _) _) _ _ _); (refine e_cell (c := L + 1) N (by rfl) (List.mem_append_left _ c1) hc1 ?_))
   | ((with_reducible show wpAny _ _ (subscriptTail _ _ (Value.ref _) (Value.ref _)) _ _ _); (refine st_slice F N W (lst_up hl u0) (.int _ _) (.int _ _) ?_ (by omega); clear F N W; intro h D b F N W uu hD; walk_at "mU"; rw [pB] at hD))
   | ((with_reducible show wpAny _ _ (call (Value.ref 605) _) _ _ _); (refine st_vpack (R.le (by decide)) G F N W hD (HNB.up u0) VB (.inr ⟨rfl, rfl, rfl, rfl, rfl, rfl, rfl⟩) ?_; clear F N W; intro h tk tw xw rpw taw tbw sw ow uw dw rw_ rbw b F N W uu htw pkw hrw esw; replace hD := lst_up hD uu; walk_at "mU"; have u1 := up_refl b))
   | ((with_reducible show wpAny _ _ (subscriptTail _ _ (Value.ref _) (Value.int 0 _)) _ _ _); (refine i_tupA (up_base F N W _ _ htw) (by decide) (by simp) (by simp) (by rfl) ?_))
   | ((with_reducible show wpAny _ _ (eval (Expr.Call (Expr.Name (Str.ofString "vpack") _) _ _ _) _) _ _ _); refine e_call1 (kp_vpack _) (n_vpack F G ⟨rfl, ?_⟩ (by rfl) (by rfl)))
   | walk_at "mS")
  obtain ⟨rfl, rfl, rfl, rfl⟩ := sg_nat esw
  have eWn : vpH B 1 0 1073741823 = (natF B).nat := by rw [eHB, (vp_big cB).1]; omega
  have nw : NodeAt w.params b xw (.box 3 (natF B).W (natF B).nat (natF B).D 0) := by
    have z := pk_box pkw
    rw [eWn, (vp_big cB).2] at z; exact z
  generalize e2 : As ++ [(xw, Nd.box 3 (natF B).W (natF B).nat (natF B).D 0)] ++ C = ps2
  have en2 : natF ps2 = natF ps := by rw [← e2, eps]; exact grouped_nat gB thB'
  have hmem2 : ∀ q ∈ ps2, q = (xw, Nd.box 3 (natF B).W (natF B).nat (natF B).D 0) ∨ q ∈ ps := fun q hq => by
    rw [← e2] at hq
    rcases List.mem_append.mp hq with hq | hq
    · rcases List.mem_append.mp hq with hq | hq
      · exact .inr (by rw [eps]; exact List.mem_append_left _ (List.mem_append_left _ hq))
      · exact .inl (List.mem_singleton.mp hq)
    · exact .inr (by rw [eps]; exact List.mem_append_right _ hq)
  have cP : CB ps := CB.of (by intro e; rw [e] at hlen; exact absurd hlen.1 (by decide)) (by omega) hbd
  have c2P : CB ps2 := ⟨by rw [← e2]; simp, fun q hq => by
    rcases hmem2 q hq with rfl | hq
    · trivial
    · exact (hbd q hq).1, by rw [en2]; exact cP.nb⟩
  obtain ⟨vc1, vc2, vc3, vc4⟩ := vp_congr en2 mode amount most
  obtain ⟨V2, eE2, eH2⟩ := c2P.vp hm hmost hgap (by rw [vc1]; exact ha)
  have hlen2 : ps2.length ≤ 10 := by
    have : B.length ≠ 0 := fun q => hBne (List.length_eq_zero_iff.mp q)
    have q := congrArg List.length eps
    rw [← e2]; simp only [List.length_append, List.length_cons, List.length_nil] at q ⊢; omega
  have NS2 : ∀ b', Up g b' → NodeAt w.params b' xw (.box 3 (natF B).W (natF B).nat (natF B).D 0) → NS w.params b' ps2 := fun b' k k2 q hq => by
    rcases hmem2 q hq with rfl | hq
    · exact k2
    · exact (HN q hq).up k
  repeat (first
   | ((with_reducible show wpAny _ _ (eval (Expr.Call (Expr.Name (Str.ofString "vpack") _) [_, _, _, _] _ _) _) _ _ _); (refine e_call4 (kp_vpack _) (n_vpack F G ⟨rfl, ?_⟩ (by rfl) (by rfl))))
   | ((with_reducible show wpAny _ _ (eval (Expr.Name (Str.ofString "begin") _) _) _ _ _); (refine e_cell (c := L + 1) N (by rfl) (List.mem_append_left _ c1) hc1 ?_))
   | ((with_reducible show wpAny _ _ (eval (Expr.Call (Expr.Name (Str.ofString "vpack") _) _ _ _) _) _ _ _); refine e_call1 (kp_vpack _) (n_vpack F G ⟨rfl, ?_⟩ (by rfl) (by rfl)))
   | walk_at "mS")
  refine st_slice F N W (lst_up hl u0) .none (.int _ _) ?_ (by omega)
  clear F N W; intro h D1 b F N W uu h1; walk_at "mU"; rw [pA] at h1; have u2 := up_refl b
  repeat (first
   | ((with_reducible show wpAny _ _ (newList _) _ _ _); (refine st_lst F N W ?_; clear F N W; intro h D2 b F N W uu h2; walk_at "mU"; have u3 := up_refl b))
   | walk_at "mS")
  refine st_add F N W (lst_up h1 u2) (lst_up h2 u3) ?_ (by have := run.1; have := run.2.1; rw [vals_len]; simp; omega)
  clear F N W; intro h D3 b F N W uu h3; walk_at "mU"; have u4 := up_refl b
  repeat (first
   | walk_at "mS")
  refine st_slice F N W (lst_up hl u0) (.int _ _) .none ?_ (by omega)
  clear F N W; intro h D4 b F N W uu h4; walk_at "mU"; rw [pC] at h4; have u5 := up_refl b
  refine st_add F N W (lst_up h3 u4) (lst_up h4 u5) ?_ (by have := congrArg List.length e2; simp only [List.length_append, vals_len, List.length_cons, List.length_nil] at this ⊢; omega)
  clear F N W; intro h D5 b F N W uu h5; walk_at "mU"
  have h5 : b.IsList D5 (vals ps2).toArray := by rw [← e2, vals_app, vals_app]; exact h5
  repeat (first
   | ((with_reducible show wpAny _ _ (call (Value.ref 605) _) _ _ _); (refine st_vpack (R.le (by decide)) G F N W h5 (NS2 _ u0 (nw.up u1)) V2 (.inl rfl) ?_; clear F N W; intro h tk tg xg rpg tag tbg sg og ug dg rg rbg b F N W uu htg pkg hrg esg; replace h5 := lst_up h5 uu; walk_at "mU"; have u6 := up_refl b))
   | walk_at "mS")
  rw [vc4, ← es] at esg
  obtain ⟨e31, e32, e33, e34, e35, e36⟩ : sg = s ∧ og = o ∧ ug = u ∧ dg = d ∧ rg = r ∧ rbg = rb := by injection esg with a1 a2 a3 a4 a5 a6; exact ⟨a1, a2, a3, a4, a5, a6⟩
  subst sg og ug dg rg rbg
  rw [en2, vc3, vc2] at pkg
  have hdd := sg_bd V2 (es.trans vc4.symm)
  obtain ⟨qs, hqs, hbl⟩ := HB
  have hql : qs.length = ps.length + 1 := by have := congrArg List.length hqs; rw [List.length_map, plF_len] at this; exact this
  have eB1 : natF B = natF B := rfl
  have ehd : (natF B).nat + (natF B).D = wholeF B := natF_whole B
  have gp : (plF s o u d ps2).fo = (plF s o u d ps).fo.take (bg + 1) ++ (plF s o u d ps).fo.drop en := by rw [← e2, eps]; exact grouped_places gB hBne ehd hA hBl
  repeat (first
   | ((with_reducible show wpAny _ _ (call (Value.ref 645) _) _ _ _); (refine st_told (R.le (by decide)) G F N W htg pkg hrg ?_; clear F N W; intro h tk tn b F N W uu hT2; walk_at "mU"; have u7 := up_refl b))
   | ((with_reducible show wpAny _ _ (compareOp CmpOp.NotEq (Value.ref _) (Value.ref tt)) _ _ _); (refine rd_ne (hT2.up (up_tr u7 (up_base F N W))) (HT.up F.keep) (by have := R.un; omega) ?_))
   | ((with_reducible show wpAny _ _ (subscriptTail _ _ (Value.ref _) (Value.int 0 _)) _ _ _); (refine i_tupA (up_tr u6 (up_base F N W) _ _ htg) (by decide) (by simp) (by simp) (by rfl) ?_))
   | ((with_reducible show wpAny _ _ (call (Value.ref 583) _) _ _ _); (refine st_places (R.le (by decide)) G F N W (pk_up pkg u6) hdd (lst_up h5 u6) (NS2 _ u0 (nw.up u1)) (by omega) ?_; clear F N W; intro h tk fg b F N W uu nfg hfg; walk_at "mU"; have u8 := up_refl b))
   | ((with_reducible show wpAny _ _ (eval (Expr.Name (Str.ofString "begin") _) _) _ _ _); (refine e_cell (c := L + 1) N (by rfl) (List.mem_append_left _ c1) hc1 ?_))
   | ((with_reducible show wpAny _ _ (eval (Expr.Name (Str.ofString "begins") _) _) _ _ _); (refine e_cell (c := L + 2) N (by rfl) (List.mem_append_left _ c2) hc2 ?_))
   | ((with_reducible show wpAny _ _ (eval (Expr.Call (Expr.Name (Str.ofString "_law_told") _) _ _ _) _) _ _ _); refine e_call1 (kp_law_told _) (n_law_told F G ⟨rfl, ?_⟩ (by rfl) (by rfl)))
   | ((with_reducible show wpAny _ _ (eval (Expr.Call (Expr.Name (Str.ofString "places") _) _ _ _) _) _ _ _); refine e_call1 (kp_places _) (n_places F G ⟨rfl, ?_⟩ (by rfl) (by rfl)))
   | walk_at "mS")
  refine st_slice F N W (lst_up hbl u0) .none (.int _ _) ?_ (by rw [List.length_map]; omega)
  clear F N W; intro h D6 b F N W uu h6; walk_at "mU"; have u9 := up_refl b
  have h6 : b.IsList D6 ((qs.map iV).take (bg + 1)).toArray := by
    rw [show ((bg : Int) + 1) = ((bg + 1 : Nat) : Int) from rfl, pick_to (by rw [List.length_map]; have := run.1; have := run.2.1; omega)] at h6; exact h6
  repeat (first
   | ((with_reducible show wpAny _ _ (eval (Expr.Name (Str.ofString "begins") _) _) _ _ _); (refine e_cell (c := L + 2) N (by rfl) (List.mem_append_left _ c2) hc2 ?_))
   | walk_at "mS")
  refine st_slice F N W (lst_up hbl u0) (.int _ _) .none ?_ (by rw [List.length_map]; omega)
  clear F N W; intro h D7 b F N W uu h7; walk_at "mU"
  have h7 : b.IsList D7 ((qs.map iV).drop en).toArray := by
    rw [pick_from (by rw [List.length_map]; have := run.1; have := run.2.1; omega)] at h7; exact h7
  refine st_add F N W (lst_up h6 u9) h7 ?_ (by simp only [List.length_take, List.length_drop, List.length_map]; omega)
  clear F N W; intro h D8 b F N W uu h8; walk_at "mU"
  have I8 : IL b D8 (plF s o u d ps2).fo := ⟨qs.take (bg + 1) ++ qs.drop en, by rw [List.map_append, List.map_take, List.map_drop, hqs, gp], by rw [List.map_append, List.map_take, List.map_drop]; exact h8⟩
  refine il_ne (hfg.up (up_tr u8 (up_base F N W))) (I8.up (up_base F N W)) R.ult ?_
  have u2 := up_refl b
  repeat (first
   | walk_at "mS")
  obtain ⟨z, hz, hrun⟩ := run_places (s := s) (o := o) (u := u) (d := d) (C := C) hdd.1 gB hA hBl
  rw [← eps] at hz hrun
  have hblh : ∀ {h' : Heap}, Up g h' → IL h' bl (plF s o u d ps).fo := fun k => ⟨qs, hqs, lst_up hbl k⟩
  have hlf : (plF s o u d ps).fo.length = ps.length + 1 := plF_len ps
  have hbg1 : (bg : Int) < ((plF s o u d ps).fo.length : Int) := by rw [hlf]; have := run.1; have := run.2.1; omega
  have hbg2 : (plF s o u d ps).fo.length < 1000 := by rw [hlf]; omega
  have hzD : (plF s o u d ps).fo.getD bg 0 = z := by rw [List.getD_eq_getElem?_getD, hz]; rfl
  refine e_compL (cl := [(Str.ofString "begins", L + 2), (Str.ofString "begin", L + 1)]) (J := fun ax its i ys led => ((L + 2, oc2) ∈ led ∧ (L + 1, oc1) ∈ led ∧ ∃ o, (ax, o) ∈ led ∧ o.cls = .type "list" ∧ ∃ n, o.data = .seq its.toArray n) ∧ ∃ ks rs : List (Int × Tok), its = ks.map iV ∧ ks.map (·.1) = (plF 0 0 0 1 B).fo ∧ ys = rs.map iV ∧ rs.map (·.1) = ((plF 0 0 0 1 B).fo.take i).map (z + ·)) R.hd F ?_ (fun _ _ _ _ _ j => .inr j.1.2.2) ?_ ?_ (by rfl) (by decide) (by rfl) (by decide) (by rfl)
  · repeat (first
   | ((with_reducible show wpAny _ _ (call (Value.ref 583) _) _ _ _); (refine st_places (R.le (by decide)) G F N W (pk_up pkw u1) ⟨by decide, by decide, ⟨by decide, by decide⟩⟩ (lst_up hD u1) (HNB.up u0) (by omega) ?_; clear F N W; intro h tk fw b F N W uu nfw hfw; walk_at "mU"))
   | ((with_reducible show wpAny _ _ (eval (Expr.Call (Expr.Name (Str.ofString "places") _) _ _ _) _) _ _ _); refine e_call1 (kp_places _) (n_places F G ⟨rfl, ?_⟩ (by rfl) (by rfl)))
   | walk_at "mS")
    obtain ⟨ks, hks, of_, hof, r⟩ := hfw
    have hof' : (fw, of_) ∈ fresh g b := mem_fresh.mpr ⟨nfw, hof⟩
    refine ⟨_, _, _, fw, ks.map iV, rfl, rfl, ?_, F, N, ⟨List.mem_append_left _ c2, List.mem_append_left _ c1, of_, List.mem_append_right _ hof', r⟩, ks, [], rfl, hks, rfl, rfl⟩
    have := congrArg List.length hks
    rw [List.length_map, plF_len] at this
    rw [List.length_map]; omega
  · intro ax its i v ys led I oI C' oC D m₂ h tk E' hv j hC hx F N off n1 n2 n3
    obtain ⟨⟨j1, j2, j3⟩, ks, rs, rfl, hks, rfl, hrs⟩ := j
    rw [List.getElem?_map] at hv
    obtain ⟨q, hq, rfl⟩ : ∃ q, ks[i]? = some q ∧ v = .int q.1 q.2 := by
      cases e : ks[i]? with
      | none => rw [e] at hv; cases hv
      | some q => rw [e] at hv; cases hv; exact ⟨q, rfl, rfl⟩
    have hCn := hC.ns (N _ (.tail _ (.head _))).1
    have hi : (plF 0 0 0 1 B).fo[i]? = some q.1 := by rw [← hks, List.getElem?_map, hq]; rfl
    refine e_bin (e_sub (c_cell (c := L + 2) N (by rfl) (.tail _ (.tail _ (.tail _ j1))) hc2 (c_cell (c := L + 1) N (by rfl) (.tail _ (.tail _ (.tail _ j2))) hc1 (i_lst (hblh F.keep) (Int.natCast_nonneg _) hbg1 hbg2 fun t => ?_))))
    refine c_loc hCn hx (b_add (elt_same F N off ⟨⟨j1, j2, j3⟩, ks, rs ++ [(z + q.1, tk)], rfl, hks, ?_, ?_⟩))
    · rw [Int.toNat_natCast, hzD]; simp [iV]
    · rw [List.map_append, hrs, List.take_add_one, hi]; simp
  · intro ax its D h tk ys led j F N
    obtain ⟨⟨j1, j2, j3⟩, ks, rs, rfl, hks, rfl, hrs⟩ := j
    have hkl : (ks.map iV).length = (plF 0 0 0 1 B).fo.length := by rw [List.length_map, ← hks, List.length_map]
    rw [hkl, List.take_length] at hrs
    have ID : IL h D (((plF s o u d ps).fo.take (en + 1)).drop bg) := ⟨rs, by rw [hrs, hrun], _, (N _ (.head _)).1, rfl, _, rfl⟩
    repeat (first
   | ((with_reducible show wpAny _ _ (eval (Expr.Name (Str.ofString "begin") _) _) _ _ _); (refine e_cell (c := L + 1) N (by rfl) (.tail _ j2) hc1 ?_))
   | ((with_reducible show wpAny _ _ (eval (Expr.Name (Str.ofString "begins") _) _) _ _ _); (refine e_cell (c := L + 2) N (by rfl) (.tail _ j1) hc2 ?_))
   | walk_at "mS")
    refine sl_list F N (lst_up hbl F.keep) (.int _ _) (.int _ _) ?_ (by rw [List.length_map]; omega)
    clear F N; intro h D9 F N lt
    have e9 : kms_pick (qs.map iV) (some (bg : Int)) (some ((en : Int) + 1)) = (((qs.take (en + 1)).drop bg)).map iV := by
      rw [show ((en : Int) + 1) = ((en + 1 : Nat) : Int) from rfl, pick_mid (by have := run.1; omega) (by rw [List.length_map]; have := run.2.1; omega), ← List.map_drop, ← List.map_take, List.drop_take]
    rw [e9] at N
    have I9 : IL h D9 (((plF s o u d ps).fo.take (en + 1)).drop bg) := ⟨(qs.take (en + 1)).drop bg, by rw [List.map_drop, List.map_take, hqs], _, (N _ (.head _)).1, rfl, _, rfl⟩
    have ID' : IL h D (((plF s o u d ps).fo.take (en + 1)).drop bg) := ⟨rs, by rw [hrs, hrun], _, (N _ (.tail _ (.head _))).1, rfl, _, rfl⟩
    refine il_eq ID' I9 R.ult ?_
    exact kq _ _ F.keep
end
end Mine
/-! Law8 -/
namespace Mine
open LCg
section
variable {prog : Program} {w : World} {A : Around} {E : Value → Shared → Prop} {h g b : Heap} {gs : Array GenState} {dr : Drawn} {tk : Nat} {os : OsState} {L a l c : Addr} {m : Str → Option Value} {led own rest pre post : List (Addr × Obj)}
  {cn : Str} {cs scope : Scope} {ccd : Value} {cl : List (Str × Addr)} {env : Env} {p : Program} {loose : List Str} {mg mb : Str → Option Value} {Q : Value → Shared → Prop} {pos : Pos} {x : Str} {v : Value} {o ob : Obj} {QU : Unit → Shared → Prop} {ps : List (Addr × Nd)} {vs ws : List Value} {P : Flow → Shared → Prop} {s : Shared}
  {i j k n many orders : Int} {ti tj tm : Tok}
/-- a store to a cell of the def's own -/
theorem s_cell {v₀ : Option Value} (F : Fr g L h m) (N : News g L h (own ++ (c, o) :: rest)) (hc : (cellsFrom (L + 1) cs.names []).lookup x = some c) (hd : o.data = .cell v₀) (h1 : ∀ q ∈ own, q.1 ≠ c) (h2 : ∀ q ∈ rest, q.1 ≠ c)
    (kq : ∀ h' o', Fr g L h' m → News g L h' (own ++ (c, o') :: rest) → o'.data = .cell (some v) → QU () ⟨h', gs, dr, tk, os⟩) (hk : cs.kind = .function := by rfl) (hl : (envX cn cs L a ccd (cellsFrom (L + 1) cs.names [])).kindOf x = some .cell := by rfl) :
    wpAny (model prog w) A (storeName (envX cn cs L a ccd (cellsFrom (L + 1) cs.names [])) x v) QU E ⟨h, gs, dr, tk, os⟩ :=
  stCN (name := cn) (scope := cs) (L := L) (a := a) (cd := ccd) (s := ⟨h, gs, dr, tk, os⟩) F N hc hd h1 h2 (fun h' o' F' N' e => kq h' o' F' N' e) hk hl
/-- the heap of digits among what is written -/
theorem map_mid {hp : Addr} {o o' : Obj} : (pre ++ (hp, o') :: post).map (·.1) = (pre ++ (hp, o) :: post).map (·.1) := by simp
theorem st_ext {hp : Addr} {o' : Obj} {h' : Heap} (F : Fr g L h m) (N : News g L h ((pre ++ (hp, o) :: post) ++ fresh g b)) (W : Lw g b (pre ++ (hp, o) :: post)) (h1 : ∀ q ∈ pre, q.1 ≠ hp) (h2 : ∀ q ∈ post, q.1 ≠ hp) (e : Ext [hp] h h') (eo : h'.get? hp = some o') :
    News g L h' ((pre ++ (hp, o') :: post) ++ fresh g (grow b h h')) ∧ Lw g (grow b h h') (pre ++ (hp, o') :: post) ∧ Up b (grow b h h') ∧ Fr g L h' m ∧ (∀ a o, Nw h h' a o → (grow b h h').get? a = some o) := by
  refine grow_led (Wr := [hp]) F N W e (fun a ha => ?_) map_mid fun q hq => ?_
  · rw [List.mem_singleton.mp ha]; simp
  · rcases List.mem_append.mp hq with hq | hq
    · exact e _ _ (N q (List.mem_append_left _ (List.mem_append_left _ hq))).1 fun hm => h1 q hq (List.mem_singleton.mp hm)
    · rcases List.mem_cons.mp hq with rfl | hq
      · exact eo
      · exact e _ _ (N q (List.mem_append_left _ (List.mem_append_right _ (.tail _ hq)))).1 fun hm => h2 q hq (List.mem_singleton.mp hm)
theorem mid_at {hp : Addr} (N : News g L h ((pre ++ (hp, o) :: post) ++ fresh g b)) : h.get? hp = some o ∧ hp ≠ L ∧ g.get? hp = none := N (hp, o) (List.mem_append_left _ (List.mem_append_right _ (.head _)))
theorem st_take {hp : Addr} {c : Int} (R : Rm 1 A) (Gg : Gd w p loose mg mb g) (F : Fr g L h m) (N : News g L h ((pre ++ (hp, o) :: post) ++ fresh g b)) (W : Lw g b (pre ++ (hp, o) :: post)) (h1 : ∀ q ∈ pre, q.1 ≠ hp) (h2 : ∀ q ∈ post, q.1 ≠ hp)
    (H : HO o c) (hc : 0 ≤ c ∧ c < 1000) (hm : 0 < many ∧ many < 1000)
    (kq : ∀ h' tk' o' r t b', Fr g L h' m → News g L h' ((pre ++ (hp, o') :: post) ++ fresh g b') → Lw g b' (pre ++ (hp, o') :: post) → Up b b' → HO o' (c + 1) → 0 ≤ r → r < many → Q (.int r t) ⟨h', gs, dr, tk', os⟩) :
    wpAny (model prog w) A (call (.ref 619) [.ref hp, .int many tm]) Q E ⟨h, gs, dr, tk, os⟩ :=
  take_c R (Gg.up F.keep) g Gg (mid_at N).1 (mid_at N).2.2 H hc hm fun h' tk' o' r t e eo H' r0 r1 => let Z := st_ext F N W h1 h2 e eo; kq h' tk' o' r t _ Z.2.2.2.1 Z.1 Z.2.1 Z.2.2.1 H' r0 r1
theorem st_part {hp : Addr} {c : Int} (R : Rm 6 A) (Gg : Gd w p loose mg mb g) (F : Fr g L h m) (N : News g L h ((pre ++ (hp, o) :: post) ++ fresh g b)) (W : Lw g b (pre ++ (hp, o) :: post)) (h1 : ∀ q ∈ pre, q.1 ≠ hp) (h2 : ∀ q ∈ post, q.1 ≠ hp)
    (H : HO o c) (hc : 0 ≤ c ∧ c < 900) (hor : 1 ≤ orders ∧ orders ≤ 4)
    (kq : ∀ h' tk' o' c' x n b', Fr g L h' m → News g L h' ((pre ++ (hp, o') :: post) ++ fresh g b') → Lw g b' (pre ++ (hp, o') :: post) → Up b b' → HO o' c' → c ≤ c' → c' ≤ c + 20 → DN w.params b' x n → n.ok → n.bd → Q (.ref x) ⟨h', gs, dr, tk', os⟩) :
    wpAny (model prog w) A (call (.ref 633) [.ref hp, .int orders tm]) Q E ⟨h, gs, dr, tk, os⟩ :=
  part_c R (Gg.up F.keep) g Gg (mid_at N).1 (mid_at N).2.2 H hc hor fun h' tk' o' c' x n e eo H' c0 c1 dn ok bd => let Z := st_ext F N W h1 h2 e eo; kq h' tk' o' c' x n _ Z.2.2.2.1 Z.1 Z.2.1 Z.2.2.1 H' c0 c1 (dn _ Z.2.2.2.2) ok bd
theorem st_run {hp : Addr} {c : Int} (R : Rm 2 A) (Gg : Gd w p loose mg mb g) (F : Fr g L h m) (N : News g L h ((pre ++ (hp, o) :: post) ++ fresh g b)) (W : Lw g b (pre ++ (hp, o) :: post)) (h1 : ∀ q ∈ pre, q.1 ≠ hp) (h2 : ∀ q ∈ post, q.1 ≠ hp)
    (H : HO o c) (hc : 0 ≤ c ∧ c < 900) (hl : b.IsList l (vals ps).toArray) (HN : NS w.params b ps) (hz : 1 ≤ ps.length ∧ ps.length ≤ 100)
    (kq : ∀ h' tk' t o' (bg en : Nat) t1 t2 b', Fr g L h' m → News g L h' ((pre ++ (hp, o') :: post) ++ fresh g b') → Lw g b' (pre ++ (hp, o') :: post) → Up b b' → b'.get? t = some (tupOf [.int (bg : Int) t1, .int (en : Int) t2]) → RunOk ps bg en → Q (.ref t) ⟨h', gs, dr, tk', os⟩) :
    wpAny (model prog w) A (call (.ref 652) [.ref hp, .ref l]) Q E ⟨h, gs, dr, tk, os⟩ := by
  have ub := up_base F N W
  have nb : b.get? hp = none := W.off (hp, o) (List.mem_append_right _ (.head _))
  have ne : ∀ {q : Addr} {o' : Obj}, b.get? q = some o' → q ≠ hp := fun e e' => by rw [e', nb] at e; cases e
  refine law_run_c R (Gg.up F.keep) g Gg (mid_at N).1 (mid_at N).2.2 H hc (lst_up hl ub) (by obtain ⟨_, e, _⟩ := hl; exact ne e) (fun b' k => HN.up fun q o' e => k _ _ (ub _ _ e) (ne e)) hz ?_
  intro h' tk' t o' bg en t1 t2 e nt et run eo
  have Z := st_ext F N W h1 h2 e eo
  exact kq h' tk' t o' bg en t1 t2 _ Z.2.2.2.1 Z.1 Z.2.1 Z.2.2.1 (Z.2.2.2.2 _ _ ⟨nt, et⟩) run
/-- at most k digits taken -/
noncomputable def HOb (o : Obj) (k : Nat) : Prop := ∃ c : Int, HO o c ∧ 0 ≤ c ∧ c ≤ k
theorem st_takeB {hp : Addr} {k : Nat} (R : Rm 1 A) (Gg : Gd w p loose mg mb g) (F : Fr g L h m) (N : News g L h ((pre ++ (hp, o) :: post) ++ fresh g b)) (W : Lw g b (pre ++ (hp, o) :: post)) (h1 : ∀ q ∈ pre, q.1 ≠ hp) (h2 : ∀ q ∈ post, q.1 ≠ hp)
    (H : HOb o k) (hc : k < 1000) (hm : 0 < many ∧ many < 1000)
    (kq : ∀ h' tk' o' r t b', Fr g L h' m → News g L h' ((pre ++ (hp, o') :: post) ++ fresh g b') → Lw g b' (pre ++ (hp, o') :: post) → Up b b' → HOb o' (k + 1) → 0 ≤ r → r < many → Q (.int r t) ⟨h', gs, dr, tk', os⟩) :
    wpAny (model prog w) A (call (.ref 619) [.ref hp, .int many tm]) Q E ⟨h, gs, dr, tk, os⟩ := by
  obtain ⟨c, H, c0, c1⟩ := H
  exact st_take R Gg F N W h1 h2 H ⟨c0, by omega⟩ hm fun h' tk' o' r t b' F N W u H r0 r1 => kq h' tk' o' r t b' F N W u ⟨c + 1, H, by omega, by push_cast; omega⟩ r0 r1
/-! attributes of a packed box -/
theorem g_pw {xb : Addr} {wd hh dd s o u d : Int} {ex : Bool} (X : (Mine.hd.heap_1_39 w.params).In h) (B : PkAt w.params h xb l wd hh dd s o u d) (kq : ∀ t, Q (.int wd t) ⟨h, gs, dr, tk + 1, os⟩) : wpAny (model prog w) A (getAttr (.ref xb) (Str.ofString "width") ex) Q E ⟨h, gs, dr, tk, os⟩ := by
  obtain ⟨rt, t1, t2, t3, t4, t5, t6, t7, t8, t9, I, _⟩ := B
  exact g_own (clsOk_ofA (ca_Box _) (fa_Box_width _)) X I (by rfl) (kq _)
theorem g_ph {xb : Addr} {wd hh dd s o u d : Int} {ex : Bool} (X : (Mine.hd.heap_1_39 w.params).In h) (B : PkAt w.params h xb l wd hh dd s o u d) (kq : ∀ t, Q (.int hh t) ⟨h, gs, dr, tk + 1, os⟩) : wpAny (model prog w) A (getAttr (.ref xb) (Str.ofString "height") ex) Q E ⟨h, gs, dr, tk, os⟩ := by
  obtain ⟨rt, t1, t2, t3, t4, t5, t6, t7, t8, t9, I, _⟩ := B
  exact g_own (clsOk_ofA (ca_Box _) (fa_Box_height _)) X I (by rfl) (kq _)
theorem g_pd {xb : Addr} {wd hh dd s o u d : Int} {ex : Bool} (X : (Mine.hd.heap_1_39 w.params).In h) (B : PkAt w.params h xb l wd hh dd s o u d) (kq : ∀ t, Q (.int dd t) ⟨h, gs, dr, tk + 1, os⟩) : wpAny (model prog w) A (getAttr (.ref xb) (Str.ofString "depth") ex) Q E ⟨h, gs, dr, tk, os⟩ := by
  obtain ⟨rt, t1, t2, t3, t4, t5, t6, t7, t8, t9, I, _⟩ := B
  exact g_own (clsOk_ofA (ca_Box _) (fa_Box_depth _)) X I (by rfl) (kq _)
theorem g_ps {xb : Addr} {wd hh dd s o u d : Int} {ex : Bool} (X : (Mine.hd.heap_1_39 w.params).In h) (B : PkAt w.params h xb l wd hh dd s o u d) (kq : ∀ t, Q (.int s t) ⟨h, gs, dr, tk + 1, os⟩) : wpAny (model prog w) A (getAttr (.ref xb) (Str.ofString "sign") ex) Q E ⟨h, gs, dr, tk, os⟩ := by
  obtain ⟨rt, t1, t2, t3, t4, t5, t6, t7, t8, t9, I, _⟩ := B
  exact g_own (clsOk_ofA (ca_Box _) (fa_Box_sign _)) X I (by rfl) (kq _)
theorem rep_rd {rp : Addr} {r rb : Int} {ta tb : Tok} (e : h.get? rp = some (tupOf [.int r ta, .int rb tb])) : Rd h 1 (.ref rp) (.t [.i r, .i rb]) := rd_t (k := 0) e ⟨.i, .i, trivial⟩
theorem i_t0 {value slice : Expr} {t : Addr} {v1 v2 : Value} {u : Tok} (ht : h.get? t = some (tupOf [v1, v2])) (kq : Q v1 ⟨h, gs, dr, tk, os⟩)
    (hs : subscripted slice false (.ref t) (.int 0 u) = operate [.ref t, .int 0 u] (getItem (.ref t) (.int 0 u)) := by with_unfolding_all rfl) : wpAny (model prog w) A (subscriptTail value slice (.ref t) (.int 0 u)) Q E ⟨h, gs, dr, tk, os⟩ := i_tupA ht (by decide) (by simp) (by simp) rfl kq hs
theorem i_t1 {value slice : Expr} {t : Addr} {v1 v2 : Value} {u : Tok} (ht : h.get? t = some (tupOf [v1, v2])) (kq : Q v2 ⟨h, gs, dr, tk, os⟩)
    (hs : subscripted slice false (.ref t) (.int 1 u) = operate [.ref t, .int 1 u] (getItem (.ref t) (.int 1 u)) := by with_unfolding_all rfl) : wpAny (model prog w) A (subscriptTail value slice (.ref t) (.int 1 u)) Q E ⟨h, gs, dr, tk, os⟩ := i_tupA ht (by decide) (by simp) (by simp) rfl kq hs
/-- a choice between two numbers -/
noncomputable def IntQ (h : Heap) (gs : Array GenState) (dr : Drawn) (os : OsState) (C : Int → Prop) (v : Value) (s' : Shared) : Prop := ∃ z t tk', v = .int z t ∧ s' = ⟨h, gs, dr, tk', os⟩ ∧ C z
theorem e_if_int {test body orelse : Expr} {C : Int → Prop} (k : wpAny (model prog w) A (isTrue test env (eval test env)) (fun b s₂ => Br b (wpAny (model prog w) A (eval body env) (IntQ h gs dr os C) E s₂) (wpAny (model prog w) A (eval orelse env) (IntQ h gs dr os C) E s₂)) E ⟨h, gs, dr, tk, os⟩)
    (kq : ∀ z t tk', C z → Q (.int z t) ⟨h, gs, dr, tk', os⟩) : wpAny (model prog w) A (eval (.IfExp test body orelse pos) env) Q E ⟨h, gs, dr, tk, os⟩ :=
  ev_mono (e_ifexp k) fun v s' ⟨z, t, tk', e1, e2, c⟩ => e1 ▸ e2 ▸ kq z t tk' c
/-- a call with any number of arguments -/
theorem e_callN {fe e : Expr} {es : List Expr} {v : Value} (hk : keepIn (Mine.hd.heap_1_39 w.params) v = true) (kq : wpAny (model prog w) A (eval fe env) (fun v' s₀ => v' = v ∧ wpAny (model prog w) A (spliced (backTo pos (starEach (e :: es) env))) (fun vs s₁ => Cal prog w A E Q v vs s₁) E s₀) E s)
    (he : eval (.Call fe (e :: es) [] pos) env = (do callWith pos (← eval fe env) [] (backTo pos (starEach (e :: es) env)) (backToKw pos (keywordEach [] env))) := by rfl)
    (st0 : starEach (e :: es) env = (false, eval e env) :: starEach es env := by rfl) (hp : (backTo pos (starEach es env)).any (·.1) = false := by rfl) :
    wpAny (model prog w) A (eval (.Call fe (e :: es) [] pos) env) Q E s :=
  Call_ (wpAny_mono kq (fun _ _ z => by
    obtain ⟨rfl, z⟩ := z
    exact callWith_of0 hk z st0 hp) fun _ _ x => x) he
/-! small steps -/
theorem b_pow230 (kq : Q (.int 1073741824 tk) ⟨h, gs, dr, tk + 1, os⟩) : wpAny (model prog w) A (binaryOp .Pow (.int 2 ti) (.int 30 tj)) Q E ⟨h, gs, dr, tk, os⟩ :=
  AutoIntOps.pow_4 (s := ⟨h, gs, dr, tk, os⟩) (a := 2) (b := 30) (by decide) (by decide) (by decide) (by decide) (by decide +kernel) kq
theorem c_ne_f (e : i = j) (kq : Q (.bool false) s) : wpAny (model prog w) A (compareOp .NotEq (.int i ti) (.int j tj)) Q E s := c_ne (by rw [show (i != j) = false by simp [e]]; exact kq)
theorem i_menu2 {value slice : Expr} {z1 z2 r : Int} {t1 t2 u : Tok} (hl : h.IsList l [Value.int z1 t1, Value.int z2 t2].toArray) (h0 : 0 ≤ r) (h1 : r < 2) (kq : ∀ z t, (z = z1 ∨ z = z2) → Q (.int z t) ⟨h, gs, dr, tk, os⟩)
    (hs : subscripted slice false (.ref l) (.int r u) = operate [.ref l, .int r u] (getItem (.ref l) (.int r u)) := by with_unfolding_all rfl) : wpAny (model prog w) A (subscriptTail value slice (.ref l) (.int r u)) Q E ⟨h, gs, dr, tk, os⟩ := by
  have : r = 0 ∨ r = 1 := by omega
  rcases this with rfl | rfl
  · exact i_list hl h0 (by decide) rfl (kq _ _ (.inl rfl)) hs
  · exact i_list hl h0 (by decide) rfl (kq _ _ (.inr rfl)) hs
theorem i_menu4 {value slice : Expr} {z1 z2 z3 z4 r : Int} {t1 t2 t3 t4 u : Tok} (hl : h.IsList l [Value.int z1 t1, Value.int z2 t2, Value.int z3 t3, Value.int z4 t4].toArray) (h0 : 0 ≤ r) (h1 : r < 4) (kq : ∀ z t, (z = z1 ∨ z = z2 ∨ z = z3 ∨ z = z4) → Q (.int z t) ⟨h, gs, dr, tk, os⟩)
    (hs : subscripted slice false (.ref l) (.int r u) = operate [.ref l, .int r u] (getItem (.ref l) (.int r u)) := by with_unfolding_all rfl) : wpAny (model prog w) A (subscriptTail value slice (.ref l) (.int r u)) Q E ⟨h, gs, dr, tk, os⟩ := by
  have : r = 0 ∨ r = 1 ∨ r = 2 ∨ r = 3 := by omega
  rcases this with rfl | rfl | rfl | rfl
  · exact i_list hl h0 (by decide) rfl (kq _ _ (.inl rfl)) hs
  · exact i_list hl h0 (by decide) rfl (kq _ _ (.inr (.inl rfl))) hs
  · exact i_list hl h0 (by decide) rfl (kq _ _ (.inr (.inr (.inl rfl)))) hs
  · exact i_list hl h0 (by decide) rfl (kq _ _ (.inr (.inr (.inr rfl)))) hs
theorem x_swap {elts : List Expr} {kk : Nat} {tpos pos : Pos} {value : Expr} {names : List Str} {rest : List Stmt}
    (k : wpAny (model prog w) A (eval value env) (fun v s₁ => wpAny (model prog w) A (unpackItems v names.length none) (fun items s₂ => wpAny (model prog w) A (assignInOrder (names.reverse.map fun n => bindName env n) items.reverse) (fun _ s₃ => wpAny (model prog w) A (execs rest env) P E s₃) E s₂) E s₁) E s)
    (hw : swappedStores [.Tuple elts kk tpos] value env = pure (some names)) (hs : swapsWithSole [.Tuple elts kk tpos] value pos.line env = pure false := by rfl) :
    wpAny (model prog w) A (execs (.Assign [.Tuple elts kk tpos] value pos :: rest) env) P E s := wpAny_execs_cons (Assign_Tuple_swapped (names := names) k hs hw)
theorem u_items2 {t : Addr} {v1 v2 : Value} {QL : List Value → Shared → Prop} (F : Fr g L h m) (N : News g L h led) (hh : A.handled = none) (ht : h.get? t = some (tupOf [v1, v2])) (kq : ∀ h', Fr g L h' m → News g L h' led → QL [v1, v2] ⟨h', gs, dr, tk, os⟩) :
    wpAny (model prog w) A (unpackItems (.ref t) 2 none) QL E ⟨h, gs, dr, tk, os⟩ := unpackItemsN_ (s := ⟨h, gs, dr, tk, os⟩) (items := [v1, v2].toArray) F N ⟨_, ht, rfl, 0, rfl⟩ hh rfl kq
theorem ao2 {x y : Str} {v1 v2 : Value} (kq : wpAny (model prog w) A (storeName env y v2) (fun _ s₁ => wpAny (model prog w) A (storeName env x v1) (fun _ s₂ => QU () s₂) E s₁) E s) :
    wpAny (model prog w) A (assignInOrder ([x, y].reverse.map fun n => bindName env n) [v1, v2].reverse) QU E s :=
  assignInOrder_cons (bindName_ (wpAny_mono kq (fun _ _ z => assignInOrder_cons (bindName_ (wpAny_mono z (fun _ _ z => assignInOrder_nil z) fun _ _ z => z))) fun _ _ z => z))
/-- a comprehension over range(n), n made by the source, bound to a name -/
theorem x_compRL {cl0 : List (Str × Addr)} {elt iter : Expr} {y : Str} {px py spos : Pos} {l0 : List (Str × Value)} {rest : List Stmt} (J : Nat → Nat → List Value → List (Addr × Obj) → Prop) (hh : A.handled = none) (F₀ : Fr g L h (lo l0 m))
    (hsrc : wpAny (model prog w) A (eval iter (envX cn cs L a ccd cl0)) (fun xv s₁ => ∃ h₁ tk₁ led r t u v n, s₁ = ⟨h₁, gs, dr, tk₁, os⟩ ∧ xv = .ref r ∧ n ≤ 1000 ∧ IsRange h₁ r 0 (n : Nat) 1 t u v ∧ Fr g L h₁ (lo l0 m) ∧ News g L h₁ led ∧ J n 0 [] led) E ⟨h, gs, dr, tk, os⟩)
    (turn : ∀ n i v ys led I oI C oC D m₂ h tk (E' : Value → Shared → Prop), i < n → J n i ys led → NsObj oC m₂ → m₂ x = some v → Fr g L h (lo l0 m) → News g L h ((I, oI) :: (C, oC) :: (D, lst ys) :: led) → Off3 I C D led → I ≠ C → I ≠ D → C ≠ D →
      wpAny (model prog w) A (eval elt (compEnvC scope cl C (envX cn cs L a ccd cl0))) (EltE g L (lo l0 m) gs dr os I C D oI oC (lst ys) (J n (i + 1)) ys) E' ⟨h, gs, dr, tk, os⟩)
    (fin : ∀ n D h tk ys led, J n n ys led → Fr g L h (lo ((y, .ref D) :: l0) m) → News g L h ((D, lst ys) :: led) → Off1 D led → wpAny (model prog w) A (execs rest (envX cn cs L a ccd cl0)) P E ⟨h, gs, dr, tk, os⟩)
    (hsw : swapsWith (.ListComp elt [⟨.Name x px, iter, [], 0⟩] scope pos) (some (.Name y py)) spos.line (envX cn cs L a ccd cl0) = pure true)
    (hclos : closureFor scope (envX cn cs L a ccd cl0) = pure cl) (hcell : ∀ y ∈ scope.names, y.2 ≠ .cell) (hkind : scope.kind = .function)
    (hnames : ∀ y ∈ scope.names, y.2 = .local → scope.names.lookup y.1 = some .local) (hx : scope.names.lookup x = some .local)
    (hy : (envX cn cs L a ccd cl0).kindOf y = some .local) (hp : (cs.kind == .class || (cs.kind == .module && (envX cn cs L a ccd cl0).locals != (envX cn cs L a ccd cl0).globals)) = false)
    (hs : ∀ x, foldedSetIterable iter (envX cn cs L a ccd cl0) x = pure x := by intro _; rfl) :
    wpAny (model prog w) A (execs (.Assign [.Name y py] (.ListComp elt [⟨.Name x px, iter, [], 0⟩] scope pos) spos :: rest) (envX cn cs L a ccd cl0)) P E ⟨h, gs, dr, tk, os⟩ := by
  refine wpAny_execs_cons (Assign_ListComp_U (s := ⟨h, gs, dr, tk, os⟩) F₀ rfl hsw hclos hcell hkind hnames hx hy hp (wpAny_mono hsrc (fun xv s₁ z => ?_) fun _ _ z => z) hs)
  obtain ⟨h₁, tk₁, led, r, t, u, v, n, rfl, rfl, hz, hr, F, N, j⟩ := z
  refine .inr ⟨r, 0, n, t, u, v, n, led, rfl, hh, F, N, hr, small_one (by decide) (by decide) (by omega) (by omega), by rw [rangeSize_one]; split <;> omega, Nat.le_trans hz (by decide +kernel), fun s₂ e => ?_⟩
  obtain ⟨h2, rfl⟩ := e
  exact compRest_of (n := n) (J n) h2 (fun _ _ _ _ => trivial) (fun i v ys led I oI C oC D m₂ h tk E' hi _ => turn n i v ys led I oI C oC D m₂ h tk E' hi) (fun ys led j D h tk F N o1 => fin n D h tk ys led j (lo_cons _ _ _ _ ▸ F) N o1) _ 0 [] led (by omega) j
theorem k_range (F : Fr g L h m) (N : News g L h led) (kq : ∀ h' tk' r t u v, Fr g L h' m → News g L h' led → IsRange h' r 0 n 1 t u v → Q (.ref r) ⟨h', gs, dr, tk', os⟩) :
    wpAny (model prog w) A (call (.type "range") [.int n ti]) Q E ⟨h, gs, dr, tk, os⟩ :=
  call_range_1 (s := ⟨h, gs, dr, tk, os⟩) (kq _ _ _ _ _ _ (F.keeps fun _ _ e => Heap.get?_push_of_some _ e) (N.grown fun _ _ e => Heap.get?_push_of_some _ e) (IsRange.new h 0 n 1 tk ti (tk + 1)))
/-- the comprehension's own objects stand apart from the base -/
theorem lw_pre {I C D : Addr} {oI oC oD : Obj} {mu : List (Addr × Obj)} (N : News g L h ((I, oI) :: (C, oC) :: (D, oD) :: (mu ++ fresh g b))) (W : Lw g b mu) (off : Off3 I C D (mu ++ fresh g b)) : Lw g b ((I, oI) :: (C, oC) :: (D, oD) :: mu) := by
  have k : ∀ X : Addr, g.get? X = none → (∀ q ∈ mu ++ fresh g b, q.1 ≠ X) → b.get? X = none := fun X gX hX => by
    cases e : b.get? X with
    | none => rfl
    | some o' => exact absurd rfl (hX (X, o') (List.mem_append_right _ (mem_fresh.mpr ⟨gX, e⟩)))
  refine ⟨W.up, fun q hq => ?_⟩
  rcases List.mem_cons.mp hq with rfl | hq
  · exact k _ (N _ (.head _)).2.2 fun q hq => (off.mem q hq).1
  · rcases List.mem_cons.mp hq with rfl | hq
    · exact k _ (N _ (.tail _ (.head _))).2.2 fun q hq => (off.mem q hq).2.1
    · rcases List.mem_cons.mp hq with rfl | hq
      · exact k _ (N _ (.tail _ (.tail _ (.head _)))).2.2 fun q hq => (off.mem q hq).2.2
      · exact W.off q hq
theorem off_post {I C D hp : Addr} {oI oC oD o o' : Obj} {b' : Heap} {MC : List (Addr × Obj)} (off : Off3 I C D (([] ++ (hp, o) :: MC) ++ fresh g b)) (W : Lw g b' ((I, oI) :: (C, oC) :: (D, oD) :: ([] ++ (hp, o') :: MC))) : Off3 I C D (([] ++ (hp, o') :: MC) ++ fresh g b') := Off3.of fun q hq => by
  rcases List.mem_append.mp hq with hq | hq
  · rcases List.mem_cons.mp hq with rfl | hq
    · exact off.mem (hp, o) (List.mem_append_left _ (.head _))
    · exact off.mem q (List.mem_append_left _ (.tail _ hq))
  · have z := (mem_fresh.mp (show (q.1, q.2) ∈ _ from hq)).2
    refine ⟨?_, ?_, ?_⟩
    · intro e; rw [e, W.off _ (.head _)] at z; cases z
    · intro e; rw [e, W.off _ (.tail _ (.head _))] at z; cases z
    · intro e; rw [e, W.off _ (.tail _ (.tail _ (.head _)))] at z; cases z
theorem off1_mem {D : Addr} : ∀ {l : List (Addr × Obj)}, Off1 D l → ∀ q ∈ l, q.1 ≠ D
  | [], _, q, hq => nomatch hq
  | r :: l, x, q, hq => by
    rcases List.mem_cons.mp hq with rfl | hq
    · exact x.1
    · exact off1_mem x.2 q hq
/-- a list that a comprehension has made goes over to the base -/
theorem absorb_off {D : Addr} {mu : List (Addr × Obj)} (F : Fr g L h m) (N : News g L h ((D, ob) :: (mu ++ fresh g b))) (W : Lw g b mu) (off : Off1 D (mu ++ fresh g b)) : ∃ b', News g L h (mu ++ fresh g b') ∧ Lw g b' mu ∧ Up b b' ∧ b'.get? D = some ob := by
  have nD : b.get? D = none := by
    cases e : b.get? D with
    | none => rfl
    | some o' => exact absurd rfl (off1_mem off (D, o') (List.mem_append_right _ (mem_fresh.mpr ⟨(N _ (.head _)).2.2, e⟩)))
  exact absorb F N ⟨W.up, fun q hq => by
    rcases List.mem_cons.mp hq with rfl | hq
    · exact nD
    · exact W.off q hq⟩ fun r hr => off1_mem off r (List.mem_append_left _ hr)
end
end Mine
/-! Law10 -/
namespace Mine
open LCg LCt
section
variable {prog : Program} {w : World} {A : Around} {E : Value → Shared → Prop} {h g : Heap} {gs : Array GenState} {dr : Drawn} {tk : Nat} {os : OsState} {L a : Addr} {m : Str → Option Value}
  {cn : Str} {cs : Scope} {ccd : Value} {cl : List (Str × Addr)} {p : Program} {loose : List Str} {mg mb : Str → Option Value} {Q : Value → Shared → Prop} {pos : Pos}

variable {l : Addr} {qs : List (Int × Tok)}
theorem law_c (R : Rm 11 A) (G : Gd w p loose mg mb h) (hl : h.IsList l (qs.map iV).toArray) (hz : qs.length ≤ 63)
    (kq : ∀ h' tk', Up h h' → Q (.bool true) ⟨h', gs, dr, tk', os⟩) :
    wpAny (model prog w) A (call (.ref 662) [.ref l]) Q E ⟨h, gs, dr, tk, os⟩ := by
  refine call_fnC (n := 10) (binds := [(Str.ofString "script", .ref l)]) R G h G [] (fun _ hq => nomatch hq) (fun _ hq => nomatch hq) (by k_is) (by k_is) (BindsTo.of_eq (by rfl)) (fun n => kinds_of (by kinds_ok)) (by decide +kernel) (fun A g L h1 tk cells R F N CA Gg ug _ => ?_)
  have CA' : CellsAre _ [(Str.ofString "orders", L + 2), (Str.ofString "heap", L + 1)] cells := CA
  obtain ⟨oc2, oc1, rfl, hc2, hc1⟩ := CellsAre.two CA'
  have hc2 : oc2.data = .cell none := hc2
  have hc1 : oc1.data = .cell none := hc1
  clear CA CA'
  have G := Gg
  have uh : Up h g := fun b o e => ug b o e (fun hm => nomatch hm)
  replace hl := lst_up hl uh
  replace kq : ∀ h' tk', Up g h' → Q (.bool true) ⟨h', gs, dr, tk', os⟩ := fun h' tk' k => kq h' tk' (up_tr uh k)
  clear uh ug Gg
  have N : News g L h1 [(L + 2, oc2), (L + 1, oc1)] := by rw [List.append_nil] at N; exact N
  repeat (first
   | ((with_reducible show wpAny _ _ (call (Value.ref 612) _) _ _ _); (refine law_heap_c (qs := qs) (R.le (by decide)) (G.fr F) (lst_up hl F.keep) hz ?_; intro h tk hp oh u nt et H; have d2 := ne_of_old (N _ (.head _)).1 nt; have d1 := ne_of_old (N _ (.tail _ (.head _))).1 nt; replace N := new_in F N u nt et; replace F := Fr.up F u; clear u nt et))
   | ((with_reducible show wpAny _ _ (eval (Expr.Call (Expr.Name (Str.ofString "_law_heap") _) _ _ _) _) _ _ _); refine e_call1 (kp_law_heap _) (n_law_heap F G ⟨rfl, ?_⟩ (by rfl) (by rfl)))
   | walk_at "mS")
  refine s_cell (own := [(hp, oh), (L + 2, oc2)]) (rest := []) F N (by rfl) hc1 ?_ (fun _ hq => nomatch hq) ?_
  · intro q hq
    simp only [List.mem_cons, List.not_mem_nil, or_false] at hq
    rcases hq with rfl | rfl
    · exact Ne.symm d1
    · exact Nat.succ_ne_self (L + 1)
  clear hc1 F N
  intro h oc1 F N hc1
  replace F : Fr g L h (lo [] _) := F
  have H : HOb oh 0 := ⟨0, H, by decide, by decide⟩
  have N : News g L h ([] ++ (hp, oh) :: [(L + 2, oc2), (L + 1, oc1)]) := N
  have W := lw_start N
  replace N := news_start N
  have hMC : ∀ q ∈ [(L + 2, oc2), (L + 1, oc1)], q.1 ≠ hp := by
    intro q hq
    simp only [List.mem_cons, List.not_mem_nil, or_false] at hq
    rcases hq with rfl | rfl
    · exact d2
    · exact d1
  have m1 : (L + 1, oc1) ∈ [(L + 2, oc2), (L + 1, oc1)] := .tail _ (.head _)
  repeat (first
   | ((with_reducible show wpAny _ _ (eval (Expr.Name (Str.ofString "heap") _) _) _ _ _); (refine e_cell (c := L + 1) N (by rfl) (List.mem_append_left _ (.tail _ m1)) hc1 ?_))
   | ((with_reducible show wpAny _ _ (eval (Expr.Call (Expr.Name (Str.ofString "_law_take") _) _ _ _) _) _ _ _); refine e_call2 (kp_law_take _) (n_law_take F G ⟨rfl, ?_⟩ (by rfl) (by rfl)))
   | walk_at "mS")
  refine st_takeB (pre := []) (R.le (by decide)) G F N W (fun _ hq => nomatch hq) hMC H (by decide) (by decide) ?_
  clear F N W H; intro h tk oh mode tmd b F N W uu H md0 md1
  repeat (first
   | ((with_reducible show wpAny _ _ (eval (Expr.Name (Str.ofString "heap") _) _) _ _ _); (refine e_cell (c := L + 1) N (by rfl) (List.mem_append_left _ (.tail _ m1)) hc1 ?_))
   | ((with_reducible show wpAny _ _ (newList _) _ _ _); (refine st_lst F N W ?_; clear F N W; intro h D b F N W uu hD; walk_at "mU"; have u1 := up_refl b))
   | ((with_reducible show wpAny _ _ (call (Value.ref 619) _) _ _ _); (refine st_takeB (pre := []) (R.le (by decide)) G F N W (fun _ hq => nomatch hq) hMC H (by decide) (by decide) ?_; clear F N W H; intro h tk oh r t b F N W uu H r0 r1; walk_at "mU"))
   | ((with_reducible show wpAny _ _ (subscriptTail _ _ (Value.ref _) (Value.int _ _)) _ _ _); (refine i_menu2 (lst_up hD (up_tr u1 (up_base F N W))) r0 r1 ?_; intro ords tor hor))
   | ((with_reducible show wpAny _ _ (newTuple _) _ _ _); (refine st_tup F N W ?_; clear F N W; intro h tt b F N W uu ht; walk_at "mU"))
   | ((with_reducible show wpAny _ _ (assign (Expr.Tuple _ _ _) _ (Value.ref _)) _ _ _); (refine as_tup R.hd (up_base F N W _ _ ht) (by rfl) (by rfl) (fun h u => ?_); replace F := Fr.up F u; replace N := News.up N u; clear u))
   | ((with_reducible show wpAny _ _ (eval (Expr.Call (Expr.Name (Str.ofString "_law_take") _) _ _ _) _) _ _ _); refine e_call2 (kp_law_take _) (n_law_take F G ⟨rfl, ?_⟩ (by rfl) (by rfl)))
   | walk_at "mS")
  refine s_cell (own := [(hp, oh)]) (rest := (L + 1, oc1) :: fresh g b) F N (by rfl) hc2 (fun q hq => by rw [List.mem_singleton.mp hq]; exact Ne.symm d2) ?_ ?_
  · intro q hq
    rcases List.mem_cons.mp hq with rfl | hq
    · exact Nat.ne_of_lt (Nat.lt_succ_self (L + 1))
    · intro e
      have z := (mem_fresh.mp (show (q.1, q.2) ∈ _ from hq)).2
      rw [e, W.off (L + 2, oc2) (.tail _ (.head _))] at z; cases z
  have W2 : ∀ o2, Lw g b ([] ++ (hp, oh) :: [(L + 2, o2), (L + 1, oc1)]) := fun o2 => ⟨W.up, fun q hq => by
    rcases List.mem_cons.mp hq with rfl | hq
    · exact W.off (hp, oh) (.head _)
    · rcases List.mem_cons.mp hq with rfl | hq
      · exact W.off (L + 2, oc2) (.tail _ (.head _))
      · rw [List.mem_singleton.mp hq]; exact W.off (L + 1, oc1) (.tail _ (.tail _ (.head _)))⟩
  clear hc2 F N W hMC m1 u1 ht hD
  intro h oc2 F N hc2
  have N : News g L h (([] ++ (hp, oh) :: [(L + 2, oc2), (L + 1, oc1)]) ++ fresh g b) := N
  have W := W2 oc2
  clear W2
  have hMC : ∀ q ∈ [(L + 2, oc2), (L + 1, oc1)], q.1 ≠ hp := by
    intro q hq
    simp only [List.mem_cons, List.not_mem_nil, or_false] at hq
    rcases hq with rfl | rfl
    · exact d2
    · exact d1
  have m1 : (L + 1, oc1) ∈ [(L + 2, oc2), (L + 1, oc1)] := .tail _ (.head _)
  have m2 : (L + 2, oc2) ∈ [(L + 2, oc2), (L + 1, oc1)] := .head _
  generalize [(L + 2, oc2), (L + 1, oc1)] = MC at N W hMC m1 m2
  clear d1 d2
  have hor1 : 1 ≤ ords ∧ ords ≤ 4 := by omega
  have hmd : mode = 0 ∨ mode = 1 := by omega
  repeat (first
   | walk_at "mS")
  refine x_compRL (cl := [(Str.ofString "orders", L + 2), (Str.ofString "heap", L + 1)]) (J := fun n i ys led => ∃ (b : Heap) (o : Obj) (c : Int) (ps : List (Addr × Nd)), led = ([] ++ (hp, o) :: MC) ++ fresh g b ∧ Lw g b ([] ++ (hp, o) :: MC) ∧ HO o c ∧ (0 ≤ c ∧ c ≤ 3 + 20 * (i : Int)) ∧ (2 ≤ n ∧ n ≤ 9) ∧ ys = vals ps ∧ ps.length = i ∧ DNs w.params b ps ∧ (∀ q ∈ ps, q.2.ok ∧ q.2.bd)) R.hd F ?_ ?_ ?_ (by rfl) (by rfl) (by decide) (by rfl) (by decide) (by rfl) (by rfl) (by rfl)
  · repeat (first
   | ((with_reducible show wpAny _ _ (eval (Expr.Call (Expr.Name (Str.ofString "range") _) _ _ _) _) _ _ _); (refine e_tcall1 (n_range F G ⟨rfl, ?_⟩ (by rfl) (by rfl))))
   | ((with_reducible show wpAny _ _ (eval (Expr.Name (Str.ofString "heap") _) _) _ _ _); (refine e_cell (c := L + 1) N (by rfl) (List.mem_append_left _ (.tail _ m1)) hc1 ?_))
   | ((with_reducible show wpAny _ _ (call (Value.ref 619) _) _ _ _); (refine st_takeB (pre := []) (R.le (by decide)) G F N W (fun _ hq => nomatch hq) hMC H (by decide) (by decide) ?_; clear F N W H; intro h tk oh rr t b F N W uu H r0 r1))
   | ((with_reducible show wpAny _ _ (eval (Expr.Call (Expr.Name (Str.ofString "_law_take") _) _ _ _) _) _ _ _); refine e_call2 (kp_law_take _) (n_law_take F G ⟨rfl, ?_⟩ (by rfl) (by rfl)))
   | walk_at "mS")
    obtain ⟨c, H, hcA, hcB⟩ := H
    have hcB : c ≤ 3 := hcB
    obtain ⟨n, hn⟩ := Int.eq_ofNat_of_zero_le (show 0 ≤ 2 + rr by omega)
    rw [hn]
    refine k_range F N (fun h tk r t u v F N hr => ?_)
    exact ⟨_, _, _, r, t, u, v, n, rfl, rfl, by omega, hr, F, N, b, oh, _, [], rfl, W, H, ⟨hcA, by omega⟩, by omega, rfl, rfl, (fun _ hq => nomatch hq), (fun _ hq => nomatch hq)⟩
  · intro n i v ys led I oI C oC D m₂ h tk E' hi j hC hx F N off n1 n2 n3
    obtain ⟨b, o, c, ps, rfl, W, H, hcc, hn, rfl, hlen, HD, hbd⟩ := j
    have hCn := hC.ns (N _ (.tail _ (.head _))).1
    have offh := off.mem (hp, o) (List.mem_append_left _ (.head _))
    have N3 : News g L h (([(I, oI), (C, oC), (D, lst (vals ps))] ++ (hp, o) :: MC) ++ fresh g b) := N
    have W3 : Lw g b ([(I, oI), (C, oC), (D, lst (vals ps))] ++ (hp, o) :: MC) := lw_pre N W off
    refine e_call2 (kp_law_part _) (c_glob F G (gl_law_part _) ⟨rfl, ?_⟩)
    refine c_cell (c := L + 1) N (by rfl) (.tail _ (.tail _ (.tail _ (List.mem_append_left _ (.tail _ m1))))) hc1 ?_
    refine c_cell (c := L + 2) N (by rfl) (.tail _ (.tail _ (.tail _ (List.mem_append_left _ (.tail _ m2))))) hc2 ?_
    refine cal F G ?_
    refine st_part (pre := [(I, oI), (C, oC), (D, lst (vals ps))]) (R.le (by decide)) G F N3 W3 ?_ hMC H (by omega) hor1 ?_
    · intro q hq
      simp only [List.mem_cons, List.not_mem_nil, or_false] at hq
      rcases hq with rfl | rfl | rfl
      · exact Ne.symm offh.1
      · exact Ne.symm offh.2.1
      · exact Ne.symm offh.2.2
    intro h' tk' o' c' x nd b' F' N' W' uu H' hc0 hc9 dn ok bd
    have N4 : News g L h' ((I, oI) :: (C, oC) :: (D, lst (vals ps)) :: (([] ++ (hp, o') :: MC) ++ fresh g b')) := fun q hq => N' q (by simpa using hq)
    have W' : Lw g b' ((I, oI) :: (C, oC) :: (D, lst (vals ps)) :: ([] ++ (hp, o') :: MC)) := ⟨W'.up, fun q hq => W'.off q (by simpa using hq)⟩
    refine ⟨h', tk', ([] ++ (hp, o') :: MC) ++ fresh g b', rfl, F', N4, off_post off W', b', o', c', ps ++ [(x, nd)], rfl, ⟨W'.up, fun q hq => W'.off q (.tail _ (.tail _ (.tail _ hq)))⟩, H', by push_cast; omega, hn, ?_, by simp [hlen], ?_, ?_⟩
    · rw [vals_app]; rfl
    · intro q hq
      rcases List.mem_append.mp hq with hq | hq
      · exact (HD q hq).up uu
      · rw [List.mem_singleton.mp hq]; exact dn
    · intro q hq
      rcases List.mem_append.mp hq with hq | hq
      · exact hbd q hq
      · rw [List.mem_singleton.mp hq]; exact ⟨ok, bd⟩
  clear F N W H
  intro n D h tk ys led j F N off
  obtain ⟨b0, oh, c, ps, rfl, W, H, hcc, hn, rfl, hlen, HD, hbd⟩ := j
  obtain ⟨b, N', W', ubb, hDD⟩ := absorb_off F N W off
  clear N W off
  have N := N'
  have W := W'
  clear N' W'
  replace HD := HD.up ubb
  have hit : b.IsList D (vals ps).toArray := ⟨_, hDD, rfl, _, rfl⟩
  clear hDD ubb
  have u0 := up_refl b
  have H : HOb oh 200 := ⟨c, H, hcc.1, by have := hcc.2; have := hn.2; omega⟩
  clear hcc m2 hc2 hor hor1
  repeat (first
   | ((with_reducible show wpAny _ _ (eval (Expr.Name (Str.ofString "heap") _) _) _ _ _); (refine e_cell (c := L + 1) N (by rfl) (List.mem_append_left _ (.tail _ m1)) hc1 ?_))
   | ((with_reducible show wpAny _ _ (call (Value.ref 619) _) _ _ _); (refine st_takeB (pre := []) (R.le (by decide)) G F N W (fun _ hq => nomatch hq) hMC H (by decide) (by decide) ?_; clear F N W H; intro h tk oh r t b F N W uu H r0 r1; walk_at "mU"))
   | ((with_reducible show wpAny _ _ (newList _) _ _ _); (refine st_lst F N W ?_; clear F N W; intro h D1 b F N W uu hD; walk_at "mU"; have u1 := up_refl b))
   | ((with_reducible show wpAny _ _ (binaryOp Operator.Pow _ _) _ _ _); (refine b_pow230 ?_))
   | ((with_reducible show wpAny _ _ (newTuple _) _ _ _); (refine st_tup F N W ?_; clear F N W; intro h tt b F N W uu ht; walk_at "mU"))
   | ((with_reducible show wpAny _ _ (eval (Expr.Call (Expr.Name (Str.ofString "_law_take") _) _ _ _) _) _ _ _); refine e_call2 (kp_law_take _) (n_law_take F G ⟨rfl, ?_⟩ (by rfl) (by rfl)))
   | walk_at "mS")
  refine i_menu4 (lst_up hD (up_tr u1 (up_base F N W))) r0 r1 ?_
  intro gap tgap hgap4
  have hgap : -10000000 ≤ gap ∧ gap ≤ 10000000 := by omega
  clear hgap4 hD u1
  repeat (first
   | ((with_reducible show wpAny _ _ (eval (Expr.Name (Str.ofString "heap") _) _) _ _ _); (refine e_cell (c := L + 1) N (by rfl) (List.mem_append_left _ (.tail _ m1)) hc1 ?_))
   | ((with_reducible show wpAny _ _ (call (Value.ref 619) _) _ _ _); (refine st_takeB (pre := []) (R.le (by decide)) G F N W (fun _ hq => nomatch hq) hMC H (by decide) (by decide) ?_; clear F N W H; intro h tk oh r t b F N W uu H r0 r1; walk_at "mU"))
   | ((with_reducible show wpAny _ _ (newList _) _ _ _); (refine st_lst F N W ?_; clear F N W; intro h D1 b F N W uu hD; walk_at "mU"; have u1 := up_refl b))
   | ((with_reducible show wpAny _ _ (binaryOp Operator.Pow _ _) _ _ _); (refine b_pow230 ?_))
   | ((with_reducible show wpAny _ _ (newTuple _) _ _ _); (refine st_tup F N W ?_; clear F N W; intro h tt b F N W uu ht; walk_at "mU"))
   | ((with_reducible show wpAny _ _ (eval (Expr.Call (Expr.Name (Str.ofString "_law_take") _) _ _ _) _) _ _ _); refine e_call2 (kp_law_take _) (n_law_take F G ⟨rfl, ?_⟩ (by rfl) (by rfl)))
   | walk_at "mS")
  refine x_swap (names := [Str.ofString "most", Str.ofString "other"]) ?_ (by rfl)
  repeat (first
   | ((with_reducible show wpAny _ _ (eval (Expr.Name (Str.ofString "heap") _) _) _ _ _); (refine e_cell (c := L + 1) N (by rfl) (List.mem_append_left _ (.tail _ m1)) hc1 ?_))
   | ((with_reducible show wpAny _ _ (call (Value.ref 619) _) _ _ _); (refine st_takeB (pre := []) (R.le (by decide)) G F N W (fun _ hq => nomatch hq) hMC H (by decide) (by decide) ?_; clear F N W H; intro h tk oh r t b F N W uu H r0 r1; walk_at "mU"))
   | ((with_reducible show wpAny _ _ (newList _) _ _ _); (refine st_lst F N W ?_; clear F N W; intro h D1 b F N W uu hD; walk_at "mU"; have u1 := up_refl b))
   | ((with_reducible show wpAny _ _ (binaryOp Operator.Pow _ _) _ _ _); (refine b_pow230 ?_))
   | ((with_reducible show wpAny _ _ (newTuple _) _ _ _); (refine st_tup F N W ?_; clear F N W; intro h tt b F N W uu ht; walk_at "mU"))
   | ((with_reducible show wpAny _ _ (eval (Expr.Call (Expr.Name (Str.ofString "_law_take") _) _ _ _) _) _ _ _); refine e_call2 (kp_law_take _) (n_law_take F G ⟨rfl, ?_⟩ (by rfl) (by rfl)))
   | walk_at "mS")
  refine i_menu4 (lst_up hD (up_tr u1 (up_base F N W))) r0 r1 ?_
  intro most tmo hmo
  have hmost : -2 ≤ most ∧ most ≤ 1073741823 := by omega
  clear hmo hD u1
  repeat (first
   | ((with_reducible show wpAny _ _ (eval (Expr.Name (Str.ofString "heap") _) _) _ _ _); (refine e_cell (c := L + 1) N (by rfl) (List.mem_append_left _ (.tail _ m1)) hc1 ?_))
   | ((with_reducible show wpAny _ _ (call (Value.ref 619) _) _ _ _); (refine st_takeB (pre := []) (R.le (by decide)) G F N W (fun _ hq => nomatch hq) hMC H (by decide) (by decide) ?_; clear F N W H; intro h tk oh r t b F N W uu H r0 r1; walk_at "mU"))
   | ((with_reducible show wpAny _ _ (newList _) _ _ _); (refine st_lst F N W ?_; clear F N W; intro h D1 b F N W uu hD; walk_at "mU"; have u1 := up_refl b))
   | ((with_reducible show wpAny _ _ (binaryOp Operator.Pow _ _) _ _ _); (refine b_pow230 ?_))
   | ((with_reducible show wpAny _ _ (newTuple _) _ _ _); (refine st_tup F N W ?_; clear F N W; intro h tt b F N W uu ht; walk_at "mU"))
   | ((with_reducible show wpAny _ _ (eval (Expr.Call (Expr.Name (Str.ofString "_law_take") _) _ _ _) _) _ _ _); refine e_call2 (kp_law_take _) (n_law_take F G ⟨rfl, ?_⟩ (by rfl) (by rfl)))
   | walk_at "mS")
  refine i_menu4 (lst_up hD (up_tr u1 (up_base F N W))) r0 r1 ?_
  intro other tot hot
  have hother : -2 ≤ other ∧ other ≤ 1073741823 := by omega
  clear hot hD u1
  repeat (first
   | ((with_reducible show wpAny _ _ (eval (Expr.Name (Str.ofString "heap") _) _) _ _ _); (refine e_cell (c := L + 1) N (by rfl) (List.mem_append_left _ (.tail _ m1)) hc1 ?_))
   | ((with_reducible show wpAny _ _ (call (Value.ref 619) _) _ _ _); (refine st_takeB (pre := []) (R.le (by decide)) G F N W (fun _ hq => nomatch hq) hMC H (by decide) (by decide) ?_; clear F N W H; intro h tk oh r t b F N W uu H r0 r1; walk_at "mU"))
   | ((with_reducible show wpAny _ _ (newList _) _ _ _); (refine st_lst F N W ?_; clear F N W; intro h D1 b F N W uu hD; walk_at "mU"; have u1 := up_refl b))
   | ((with_reducible show wpAny _ _ (binaryOp Operator.Pow _ _) _ _ _); (refine b_pow230 ?_))
   | ((with_reducible show wpAny _ _ (newTuple _) _ _ _); (refine st_tup F N W ?_; clear F N W; intro h tt b F N W uu ht; walk_at "mU"))
   | ((with_reducible show wpAny _ _ (eval (Expr.Call (Expr.Name (Str.ofString "_law_take") _) _ _ _) _) _ _ _); refine e_call2 (kp_law_take _) (n_law_take F G ⟨rfl, ?_⟩ (by rfl) (by rfl)))
   | walk_at "mS")
  refine u_items2 F N R.hd (up_base F N W _ _ ht) (fun h F N => ao2 ?_)
  clear ht
  have hps : 2 ≤ ps.length ∧ ps.length ≤ 9 := by rw [hlen]; exact hn
  clear hn hlen
  have hne : ps ≠ [] := by rintro rfl; exact absurd hps.1 (by decide)
  have cP : CB ps := CB.of hne (by omega) hbd
  have sP := vp_sum ps
  obtain ⟨V1, eE1, eH1⟩ := cP.vp (mode := 1) (amount := 0) (most := 1073741823) (gap := 0) (.inr rfl) (by decide) (by decide) (.inl ⟨rfl, rfl⟩)
  obtain ⟨V2, eE2, eH2⟩ := cP.vp (mode := 1) (amount := 0) (most := most) (gap := 0) (.inr rfl) hmost (by decide) (.inl ⟨rfl, rfl⟩)
  have E1 : vpH ps 1 0 1073741823 + vpD ps 1073741823 = wholeF ps := by rw [eH1, Int.add_zero]; exact sP _
  repeat (first
   | ((with_reducible show wpAny _ _ (getAttr (Value.ref _) (Str.ofString "width") _) _ _ _); ((first | refine g_pw (G.x.keeps F.keep) (pk_up pk1 (up_tr u1 (up_base F N W))) ?_ | refine g_pw (G.x.keeps F.keep) (pk_up pk2 (up_tr u2 (up_base F N W))) ?_ | refine g_pw (G.x.keeps F.keep) (pk_up pk3 (up_tr u3 (up_base F N W))) ?_ | refine g_pw (G.x.keeps F.keep) (pk_up pk4 (up_tr u4 (up_base F N W))) ?_ | refine g_pw (G.x.keeps F.keep) (pk_up pk5 (up_tr u5 (up_base F N W))) ?_ | refine g_pw (G.x.keeps F.keep) (pk_up pk6 (up_tr u6 (up_base F N W))) ?_); intro t))
   | ((with_reducible show wpAny _ _ (getAttr (Value.ref _) (Str.ofString "height") _) _ _ _); ((first | refine g_ph (G.x.keeps F.keep) (pk_up pk1 (up_tr u1 (up_base F N W))) ?_ | refine g_ph (G.x.keeps F.keep) (pk_up pk2 (up_tr u2 (up_base F N W))) ?_ | refine g_ph (G.x.keeps F.keep) (pk_up pk3 (up_tr u3 (up_base F N W))) ?_ | refine g_ph (G.x.keeps F.keep) (pk_up pk4 (up_tr u4 (up_base F N W))) ?_ | refine g_ph (G.x.keeps F.keep) (pk_up pk5 (up_tr u5 (up_base F N W))) ?_ | refine g_ph (G.x.keeps F.keep) (pk_up pk6 (up_tr u6 (up_base F N W))) ?_); intro t))
   | ((with_reducible show wpAny _ _ (getAttr (Value.ref _) (Str.ofString "depth") _) _ _ _); ((first | refine g_pd (G.x.keeps F.keep) (pk_up pk1 (up_tr u1 (up_base F N W))) ?_ | refine g_pd (G.x.keeps F.keep) (pk_up pk2 (up_tr u2 (up_base F N W))) ?_ | refine g_pd (G.x.keeps F.keep) (pk_up pk3 (up_tr u3 (up_base F N W))) ?_ | refine g_pd (G.x.keeps F.keep) (pk_up pk4 (up_tr u4 (up_base F N W))) ?_ | refine g_pd (G.x.keeps F.keep) (pk_up pk5 (up_tr u5 (up_base F N W))) ?_ | refine g_pd (G.x.keeps F.keep) (pk_up pk6 (up_tr u6 (up_base F N W))) ?_); intro t))
   | ((with_reducible show wpAny _ _ (getAttr (Value.ref _) (Str.ofString "sign") _) _ _ _); ((first | refine g_ps (G.x.keeps F.keep) (pk_up pk1 (up_tr u1 (up_base F N W))) ?_ | refine g_ps (G.x.keeps F.keep) (pk_up pk2 (up_tr u2 (up_base F N W))) ?_ | refine g_ps (G.x.keeps F.keep) (pk_up pk3 (up_tr u3 (up_base F N W))) ?_ | refine g_ps (G.x.keeps F.keep) (pk_up pk4 (up_tr u4 (up_base F N W))) ?_ | refine g_ps (G.x.keeps F.keep) (pk_up pk5 (up_tr u5 (up_base F N W))) ?_ | refine g_ps (G.x.keeps F.keep) (pk_up pk6 (up_tr u6 (up_base F N W))) ?_); intro t))
   | ((with_reducible show wpAny _ _ (subscriptTail _ _ (Value.ref _) (Value.int 0 _)) _ _ _); (first | refine i_t0 (up_tr u1 (up_base F N W) _ _ ht1) ?_ | refine i_t0 (up_tr u2 (up_base F N W) _ _ ht2) ?_ | refine i_t0 (up_tr u3 (up_base F N W) _ _ ht3) ?_ | refine i_t0 (up_tr u4 (up_base F N W) _ _ ht4) ?_ | refine i_t0 (up_tr u5 (up_base F N W) _ _ ht5) ?_ | refine i_t0 (up_tr u6 (up_base F N W) _ _ ht6) ?_))
   | ((with_reducible show wpAny _ _ (subscriptTail _ _ (Value.ref _) (Value.int 1 _)) _ _ _); (first | refine i_t1 (up_tr u1 (up_base F N W) _ _ ht1) ?_ | refine i_t1 (up_tr u2 (up_base F N W) _ _ ht2) ?_ | refine i_t1 (up_tr u3 (up_base F N W) _ _ ht3) ?_ | refine i_t1 (up_tr u4 (up_base F N W) _ _ ht4) ?_ | refine i_t1 (up_tr u5 (up_base F N W) _ _ ht5) ?_ | refine i_t1 (up_tr u6 (up_base F N W) _ _ ht6) ?_))
   | ((with_reducible show wpAny _ _ (eval (Expr.Call (Expr.Name (Str.ofString "vpack") _) [_, _, _, _] _ _) _) _ _ _); (refine e_call4 (kp_vpack _) (n_vpack F G ⟨rfl, ?_⟩ (by rfl) (by rfl))))
   | ((with_reducible show wpAny _ _ (eval (Expr.Call (Expr.Name (Str.ofString "described") _) [_] _ _) _) _ _ _); (refine e_call1 (kp_described _) (n_described F G ⟨rfl, ?_⟩ (by rfl) (by rfl))))
   | ((with_reducible show wpAny _ _ (eval (Expr.Call (Expr.Name (Str.ofString "list") _) _ _ _) _) _ _ _); (refine e_tcall1 (n_list F G ⟨rfl, ?_⟩ (by rfl) (by rfl))))
   | ((with_reducible show wpAny _ _ (call (Value.type "list") _) _ _ _); (refine st_copy F N W (lst_up hit u0) ?_ (by rw [vals_len]; omega); clear F N W; intro h lc b F N W uu hlc; walk_at "mU"))
   | ((with_reducible show wpAny _ _ (newTuple _) _ _ _); (refine st_tup F N W ?_; clear F N W; intro h tt b F N W uu ht; walk_at "mU"))
   | ((with_reducible show wpAny _ _ (compareOp CmpOp.NotEq (Value.int _ _) (Value.int _ _)) _ _ _); (refine c_ne_f (by first | assumption | rfl) ?_))
   | ((with_reducible show wpAny _ _ (eval (Expr.Call (Expr.Name (Str.ofString "_law_whole") _) _ _ _) _) _ _ _); refine e_call1 (kp_law_whole _) (n_law_whole F G ⟨rfl, ?_⟩ (by rfl) (by rfl)))
   | ((with_reducible show wpAny _ _ (eval (Expr.Call (Expr.Name (Str.ofString "min") _) _ _ _) _) _ _ _); refine e_bcall2 (n_min F G ⟨rfl, ?_⟩ (by rfl) (by rfl)))
   | ((with_reducible show wpAny _ _ (call (Value.builtin "min") _) _ _ _); (with_reducible refine k_min R.hd ?_; intro h tk t u; replace F := Fr.up F u; replace N := News.up N u; clear u))
   | ((with_reducible show wpAny _ _ (eval (Expr.Call (Expr.Name (Str.ofString "vpack") _) _ _ _) _) _ _ _); refine e_call1 (kp_vpack _) (n_vpack F G ⟨rfl, ?_⟩ (by rfl) (by rfl)))
   | ((with_reducible show wpAny _ _ (eval (Expr.Call (Expr.Name (Str.ofString "places") _) _ _ _) _) _ _ _); refine e_call1 (kp_places _) (n_places F G ⟨rfl, ?_⟩ (by rfl) (by rfl)))
   | ((with_reducible show wpAny _ _ (eval (Expr.Call (Expr.Name (Str.ofString "_law_told") _) _ _ _) _) _ _ _); refine e_call1 (kp_law_told _) (n_law_told F G ⟨rfl, ?_⟩ (by rfl) (by rfl)))
   | ((with_reducible show wpAny _ _ (eval (Expr.Call (Expr.Name (Str.ofString "_law_run") _) _ _ _) _) _ _ _); refine e_call2 (kp_law_run _) (n_law_run F G ⟨rfl, ?_⟩ (by rfl) (by rfl)))
   | walk_at "mS")
  refine st_vpack (ps := ps) (R.le (by decide)) G F N W hlc (HD.ns.up u0) V1 (.inr ⟨rfl, rfl, rfl, rfl, rfl, rfl, rfl⟩) ?_
  clear F N W; intro h tk t1 x1 rp1 ta1 tb1 s1 o1 v1 d1 r1 rb1 b F N W uu ht1 pk1 hr1 es1
  have hl1 := lst_up hlc uu
  walk_at "mU"
  have u1 := up_refl b
  clear hlc
  obtain ⟨rfl, rfl, rfl, rfl⟩ := sg_nat es1
  repeat (first
   | ((with_reducible show wpAny _ _ (call (Value.ref 638) _) _ _ _); (refine law_whole_c (R.le (by decide)) (G.fr F) (lst_up hit (up_tr u0 (up_base F N W))) (HD.ns.up (up_tr u0 (up_base F N W))) ?_; intro h tk t u; replace F := Fr.up F u; replace N := News.up N u; clear u))
   | ((with_reducible show wpAny _ _ (getAttr (Value.ref _) (Str.ofString "width") _) _ _ _); ((first | refine g_pw (G.x.keeps F.keep) (pk_up pk1 (up_tr u1 (up_base F N W))) ?_ | refine g_pw (G.x.keeps F.keep) (pk_up pk2 (up_tr u2 (up_base F N W))) ?_ | refine g_pw (G.x.keeps F.keep) (pk_up pk3 (up_tr u3 (up_base F N W))) ?_ | refine g_pw (G.x.keeps F.keep) (pk_up pk4 (up_tr u4 (up_base F N W))) ?_ | refine g_pw (G.x.keeps F.keep) (pk_up pk5 (up_tr u5 (up_base F N W))) ?_ | refine g_pw (G.x.keeps F.keep) (pk_up pk6 (up_tr u6 (up_base F N W))) ?_); intro t))
   | ((with_reducible show wpAny _ _ (getAttr (Value.ref _) (Str.ofString "height") _) _ _ _); ((first | refine g_ph (G.x.keeps F.keep) (pk_up pk1 (up_tr u1 (up_base F N W))) ?_ | refine g_ph (G.x.keeps F.keep) (pk_up pk2 (up_tr u2 (up_base F N W))) ?_ | refine g_ph (G.x.keeps F.keep) (pk_up pk3 (up_tr u3 (up_base F N W))) ?_ | refine g_ph (G.x.keeps F.keep) (pk_up pk4 (up_tr u4 (up_base F N W))) ?_ | refine g_ph (G.x.keeps F.keep) (pk_up pk5 (up_tr u5 (up_base F N W))) ?_ | refine g_ph (G.x.keeps F.keep) (pk_up pk6 (up_tr u6 (up_base F N W))) ?_); intro t))
   | ((with_reducible show wpAny _ _ (getAttr (Value.ref _) (Str.ofString "depth") _) _ _ _); ((first | refine g_pd (G.x.keeps F.keep) (pk_up pk1 (up_tr u1 (up_base F N W))) ?_ | refine g_pd (G.x.keeps F.keep) (pk_up pk2 (up_tr u2 (up_base F N W))) ?_ | refine g_pd (G.x.keeps F.keep) (pk_up pk3 (up_tr u3 (up_base F N W))) ?_ | refine g_pd (G.x.keeps F.keep) (pk_up pk4 (up_tr u4 (up_base F N W))) ?_ | refine g_pd (G.x.keeps F.keep) (pk_up pk5 (up_tr u5 (up_base F N W))) ?_ | refine g_pd (G.x.keeps F.keep) (pk_up pk6 (up_tr u6 (up_base F N W))) ?_); intro t))
   | ((with_reducible show wpAny _ _ (getAttr (Value.ref _) (Str.ofString "sign") _) _ _ _); ((first | refine g_ps (G.x.keeps F.keep) (pk_up pk1 (up_tr u1 (up_base F N W))) ?_ | refine g_ps (G.x.keeps F.keep) (pk_up pk2 (up_tr u2 (up_base F N W))) ?_ | refine g_ps (G.x.keeps F.keep) (pk_up pk3 (up_tr u3 (up_base F N W))) ?_ | refine g_ps (G.x.keeps F.keep) (pk_up pk4 (up_tr u4 (up_base F N W))) ?_ | refine g_ps (G.x.keeps F.keep) (pk_up pk5 (up_tr u5 (up_base F N W))) ?_ | refine g_ps (G.x.keeps F.keep) (pk_up pk6 (up_tr u6 (up_base F N W))) ?_); intro t))
   | ((with_reducible show wpAny _ _ (subscriptTail _ _ (Value.ref _) (Value.int 0 _)) _ _ _); (first | refine i_t0 (up_tr u1 (up_base F N W) _ _ ht1) ?_ | refine i_t0 (up_tr u2 (up_base F N W) _ _ ht2) ?_ | refine i_t0 (up_tr u3 (up_base F N W) _ _ ht3) ?_ | refine i_t0 (up_tr u4 (up_base F N W) _ _ ht4) ?_ | refine i_t0 (up_tr u5 (up_base F N W) _ _ ht5) ?_ | refine i_t0 (up_tr u6 (up_base F N W) _ _ ht6) ?_))
   | ((with_reducible show wpAny _ _ (subscriptTail _ _ (Value.ref _) (Value.int 1 _)) _ _ _); (first | refine i_t1 (up_tr u1 (up_base F N W) _ _ ht1) ?_ | refine i_t1 (up_tr u2 (up_base F N W) _ _ ht2) ?_ | refine i_t1 (up_tr u3 (up_base F N W) _ _ ht3) ?_ | refine i_t1 (up_tr u4 (up_base F N W) _ _ ht4) ?_ | refine i_t1 (up_tr u5 (up_base F N W) _ _ ht5) ?_ | refine i_t1 (up_tr u6 (up_base F N W) _ _ ht6) ?_))
   | ((with_reducible show wpAny _ _ (eval (Expr.Call (Expr.Name (Str.ofString "vpack") _) [_, _, _, _] _ _) _) _ _ _); (refine e_call4 (kp_vpack _) (n_vpack F G ⟨rfl, ?_⟩ (by rfl) (by rfl))))
   | ((with_reducible show wpAny _ _ (eval (Expr.Call (Expr.Name (Str.ofString "described") _) [_] _ _) _) _ _ _); (refine e_call1 (kp_described _) (n_described F G ⟨rfl, ?_⟩ (by rfl) (by rfl))))
   | ((with_reducible show wpAny _ _ (eval (Expr.Call (Expr.Name (Str.ofString "list") _) _ _ _) _) _ _ _); (refine e_tcall1 (n_list F G ⟨rfl, ?_⟩ (by rfl) (by rfl))))
   | ((with_reducible show wpAny _ _ (call (Value.type "list") _) _ _ _); (refine st_copy F N W (lst_up hit u0) ?_ (by rw [vals_len]; omega); clear F N W; intro h lc b F N W uu hlc; walk_at "mU"))
   | ((with_reducible show wpAny _ _ (newTuple _) _ _ _); (refine st_tup F N W ?_; clear F N W; intro h tt b F N W uu ht; walk_at "mU"))
   | ((with_reducible show wpAny _ _ (compareOp CmpOp.NotEq (Value.int _ _) (Value.int _ _)) _ _ _); (refine c_ne_f (by first | assumption | rfl) ?_))
   | ((with_reducible show wpAny _ _ (eval (Expr.Call (Expr.Name (Str.ofString "_law_whole") _) _ _ _) _) _ _ _); refine e_call1 (kp_law_whole _) (n_law_whole F G ⟨rfl, ?_⟩ (by rfl) (by rfl)))
   | ((with_reducible show wpAny _ _ (eval (Expr.Call (Expr.Name (Str.ofString "min") _) _ _ _) _) _ _ _); refine e_bcall2 (n_min F G ⟨rfl, ?_⟩ (by rfl) (by rfl)))
   | ((with_reducible show wpAny _ _ (call (Value.builtin "min") _) _ _ _); (with_reducible refine k_min R.hd ?_; intro h tk t u; replace F := Fr.up F u; replace N := News.up N u; clear u))
   | ((with_reducible show wpAny _ _ (eval (Expr.Call (Expr.Name (Str.ofString "vpack") _) _ _ _) _) _ _ _); refine e_call1 (kp_vpack _) (n_vpack F G ⟨rfl, ?_⟩ (by rfl) (by rfl)))
   | ((with_reducible show wpAny _ _ (eval (Expr.Call (Expr.Name (Str.ofString "places") _) _ _ _) _) _ _ _); refine e_call1 (kp_places _) (n_places F G ⟨rfl, ?_⟩ (by rfl) (by rfl)))
   | ((with_reducible show wpAny _ _ (eval (Expr.Call (Expr.Name (Str.ofString "_law_told") _) _ _ _) _) _ _ _); refine e_call1 (kp_law_told _) (n_law_told F G ⟨rfl, ?_⟩ (by rfl) (by rfl)))
   | ((with_reducible show wpAny _ _ (eval (Expr.Call (Expr.Name (Str.ofString "_law_run") _) _ _ _) _) _ _ _); refine e_call2 (kp_law_run _) (n_law_run F G ⟨rfl, ?_⟩ (by rfl) (by rfl)))
   | walk_at "mS")
  refine st_vpack (ps := ps) (R.le (by decide)) G F N W hlc (HD.ns.up u0) V2 (.inl rfl) ?_
  clear F N W; intro h tk t2 x2 rp2 ta2 tb2 s2 o2 v2 d2 r2 rb2 b F N W uu ht2 pk2 hr2 es2
  have hl2 := lst_up hlc uu
  walk_at "mU"
  have u2 := up_refl b
  clear hlc
  repeat (first
   | ((with_reducible show wpAny _ _ (eval (Expr.IfExp _ _ _ _) _) _ _ _); (refine e_if_int (C := fun z => (mode = 1 ∧ z = gap) ∨ (mode = 0 ∧ z = vpH ps 1 0 most + gap)) ?_ ?_))
   | ((with_reducible show wpAny _ _ (getAttr (Value.ref _) (Str.ofString "width") _) _ _ _); ((first | refine g_pw (G.x.keeps F.keep) (pk_up pk1 (up_tr u1 (up_base F N W))) ?_ | refine g_pw (G.x.keeps F.keep) (pk_up pk2 (up_tr u2 (up_base F N W))) ?_ | refine g_pw (G.x.keeps F.keep) (pk_up pk3 (up_tr u3 (up_base F N W))) ?_ | refine g_pw (G.x.keeps F.keep) (pk_up pk4 (up_tr u4 (up_base F N W))) ?_ | refine g_pw (G.x.keeps F.keep) (pk_up pk5 (up_tr u5 (up_base F N W))) ?_ | refine g_pw (G.x.keeps F.keep) (pk_up pk6 (up_tr u6 (up_base F N W))) ?_); intro t))
   | ((with_reducible show wpAny _ _ (getAttr (Value.ref _) (Str.ofString "height") _) _ _ _); ((first | refine g_ph (G.x.keeps F.keep) (pk_up pk1 (up_tr u1 (up_base F N W))) ?_ | refine g_ph (G.x.keeps F.keep) (pk_up pk2 (up_tr u2 (up_base F N W))) ?_ | refine g_ph (G.x.keeps F.keep) (pk_up pk3 (up_tr u3 (up_base F N W))) ?_ | refine g_ph (G.x.keeps F.keep) (pk_up pk4 (up_tr u4 (up_base F N W))) ?_ | refine g_ph (G.x.keeps F.keep) (pk_up pk5 (up_tr u5 (up_base F N W))) ?_ | refine g_ph (G.x.keeps F.keep) (pk_up pk6 (up_tr u6 (up_base F N W))) ?_); intro t))
   | ((with_reducible show wpAny _ _ (getAttr (Value.ref _) (Str.ofString "depth") _) _ _ _); ((first | refine g_pd (G.x.keeps F.keep) (pk_up pk1 (up_tr u1 (up_base F N W))) ?_ | refine g_pd (G.x.keeps F.keep) (pk_up pk2 (up_tr u2 (up_base F N W))) ?_ | refine g_pd (G.x.keeps F.keep) (pk_up pk3 (up_tr u3 (up_base F N W))) ?_ | refine g_pd (G.x.keeps F.keep) (pk_up pk4 (up_tr u4 (up_base F N W))) ?_ | refine g_pd (G.x.keeps F.keep) (pk_up pk5 (up_tr u5 (up_base F N W))) ?_ | refine g_pd (G.x.keeps F.keep) (pk_up pk6 (up_tr u6 (up_base F N W))) ?_); intro t))
   | ((with_reducible show wpAny _ _ (getAttr (Value.ref _) (Str.ofString "sign") _) _ _ _); ((first | refine g_ps (G.x.keeps F.keep) (pk_up pk1 (up_tr u1 (up_base F N W))) ?_ | refine g_ps (G.x.keeps F.keep) (pk_up pk2 (up_tr u2 (up_base F N W))) ?_ | refine g_ps (G.x.keeps F.keep) (pk_up pk3 (up_tr u3 (up_base F N W))) ?_ | refine g_ps (G.x.keeps F.keep) (pk_up pk4 (up_tr u4 (up_base F N W))) ?_ | refine g_ps (G.x.keeps F.keep) (pk_up pk5 (up_tr u5 (up_base F N W))) ?_ | refine g_ps (G.x.keeps F.keep) (pk_up pk6 (up_tr u6 (up_base F N W))) ?_); intro t))
   | ((with_reducible show wpAny _ _ (subscriptTail _ _ (Value.ref _) (Value.int 0 _)) _ _ _); (first | refine i_t0 (up_tr u1 (up_base F N W) _ _ ht1) ?_ | refine i_t0 (up_tr u2 (up_base F N W) _ _ ht2) ?_ | refine i_t0 (up_tr u3 (up_base F N W) _ _ ht3) ?_ | refine i_t0 (up_tr u4 (up_base F N W) _ _ ht4) ?_ | refine i_t0 (up_tr u5 (up_base F N W) _ _ ht5) ?_ | refine i_t0 (up_tr u6 (up_base F N W) _ _ ht6) ?_))
   | ((with_reducible show wpAny _ _ (subscriptTail _ _ (Value.ref _) (Value.int 1 _)) _ _ _); (first | refine i_t1 (up_tr u1 (up_base F N W) _ _ ht1) ?_ | refine i_t1 (up_tr u2 (up_base F N W) _ _ ht2) ?_ | refine i_t1 (up_tr u3 (up_base F N W) _ _ ht3) ?_ | refine i_t1 (up_tr u4 (up_base F N W) _ _ ht4) ?_ | refine i_t1 (up_tr u5 (up_base F N W) _ _ ht5) ?_ | refine i_t1 (up_tr u6 (up_base F N W) _ _ ht6) ?_))
   | ((with_reducible show wpAny _ _ (eval (Expr.Call (Expr.Name (Str.ofString "vpack") _) [_, _, _, _] _ _) _) _ _ _); (refine e_call4 (kp_vpack _) (n_vpack F G ⟨rfl, ?_⟩ (by rfl) (by rfl))))
   | ((with_reducible show wpAny _ _ (eval (Expr.Call (Expr.Name (Str.ofString "described") _) [_] _ _) _) _ _ _); (refine e_call1 (kp_described _) (n_described F G ⟨rfl, ?_⟩ (by rfl) (by rfl))))
   | ((with_reducible show wpAny _ _ (eval (Expr.Call (Expr.Name (Str.ofString "list") _) _ _ _) _) _ _ _); (refine e_tcall1 (n_list F G ⟨rfl, ?_⟩ (by rfl) (by rfl))))
   | ((with_reducible show wpAny _ _ (call (Value.type "list") _) _ _ _); (refine st_copy F N W (lst_up hit u0) ?_ (by rw [vals_len]; omega); clear F N W; intro h lc b F N W uu hlc; walk_at "mU"))
   | ((with_reducible show wpAny _ _ (newTuple _) _ _ _); (refine st_tup F N W ?_; clear F N W; intro h tt b F N W uu ht; walk_at "mU"))
   | ((with_reducible show wpAny _ _ (compareOp CmpOp.NotEq (Value.int _ _) (Value.int _ _)) _ _ _); (refine c_ne_f (by first | assumption | rfl) ?_))
   | ((with_reducible show wpAny _ _ (eval (Expr.Call (Expr.Name (Str.ofString "_law_whole") _) _ _ _) _) _ _ _); refine e_call1 (kp_law_whole _) (n_law_whole F G ⟨rfl, ?_⟩ (by rfl) (by rfl)))
   | ((with_reducible show wpAny _ _ (eval (Expr.Call (Expr.Name (Str.ofString "min") _) _ _ _) _) _ _ _); refine e_bcall2 (n_min F G ⟨rfl, ?_⟩ (by rfl) (by rfl)))
   | ((with_reducible show wpAny _ _ (call (Value.builtin "min") _) _ _ _); (with_reducible refine k_min R.hd ?_; intro h tk t u; replace F := Fr.up F u; replace N := News.up N u; clear u))
   | ((with_reducible show wpAny _ _ (eval (Expr.Call (Expr.Name (Str.ofString "vpack") _) _ _ _) _) _ _ _); refine e_call1 (kp_vpack _) (n_vpack F G ⟨rfl, ?_⟩ (by rfl) (by rfl)))
   | ((with_reducible show wpAny _ _ (eval (Expr.Call (Expr.Name (Str.ofString "places") _) _ _ _) _) _ _ _); refine e_call1 (kp_places _) (n_places F G ⟨rfl, ?_⟩ (by rfl) (by rfl)))
   | ((with_reducible show wpAny _ _ (eval (Expr.Call (Expr.Name (Str.ofString "_law_told") _) _ _ _) _) _ _ _); refine e_call1 (kp_law_told _) (n_law_told F G ⟨rfl, ?_⟩ (by rfl) (by rfl)))
   | ((with_reducible show wpAny _ _ (eval (Expr.Call (Expr.Name (Str.ofString "_law_run") _) _ _ _) _) _ _ _); refine e_call2 (kp_law_run _) (n_law_run F G ⟨rfl, ?_⟩ (by rfl) (by rfl)))
   | walk_at "mS")
  all_goals try exact ⟨_, _, _, rfl, rfl, .inl ⟨by assumption, rfl⟩⟩
  all_goals try exact ⟨_, _, _, rfl, rfl, .inr ⟨by omega, rfl⟩⟩
  intro am tam tk ham
  have e2n : vpH ps 1 0 most = vpNat ps most := by rw [eH2, Int.add_zero]
  have ham2 : (mode = 1 ∧ am = gap) ∨ (mode = 0 ∧ am = vpNat ps most + gap) := by rw [← e2n]; exact ham
  obtain ⟨V3, eE3, eH3⟩ := cP.vp hmd hmost hgap ham2
  repeat (first
   | ((with_reducible show wpAny _ _ (getAttr (Value.ref _) (Str.ofString "width") _) _ _ _); ((first | refine g_pw (G.x.keeps F.keep) (pk_up pk1 (up_tr u1 (up_base F N W))) ?_ | refine g_pw (G.x.keeps F.keep) (pk_up pk2 (up_tr u2 (up_base F N W))) ?_ | refine g_pw (G.x.keeps F.keep) (pk_up pk3 (up_tr u3 (up_base F N W))) ?_ | refine g_pw (G.x.keeps F.keep) (pk_up pk4 (up_tr u4 (up_base F N W))) ?_ | refine g_pw (G.x.keeps F.keep) (pk_up pk5 (up_tr u5 (up_base F N W))) ?_ | refine g_pw (G.x.keeps F.keep) (pk_up pk6 (up_tr u6 (up_base F N W))) ?_); intro t))
   | ((with_reducible show wpAny _ _ (getAttr (Value.ref _) (Str.ofString "height") _) _ _ _); ((first | refine g_ph (G.x.keeps F.keep) (pk_up pk1 (up_tr u1 (up_base F N W))) ?_ | refine g_ph (G.x.keeps F.keep) (pk_up pk2 (up_tr u2 (up_base F N W))) ?_ | refine g_ph (G.x.keeps F.keep) (pk_up pk3 (up_tr u3 (up_base F N W))) ?_ | refine g_ph (G.x.keeps F.keep) (pk_up pk4 (up_tr u4 (up_base F N W))) ?_ | refine g_ph (G.x.keeps F.keep) (pk_up pk5 (up_tr u5 (up_base F N W))) ?_ | refine g_ph (G.x.keeps F.keep) (pk_up pk6 (up_tr u6 (up_base F N W))) ?_); intro t))
   | ((with_reducible show wpAny _ _ (getAttr (Value.ref _) (Str.ofString "depth") _) _ _ _); ((first | refine g_pd (G.x.keeps F.keep) (pk_up pk1 (up_tr u1 (up_base F N W))) ?_ | refine g_pd (G.x.keeps F.keep) (pk_up pk2 (up_tr u2 (up_base F N W))) ?_ | refine g_pd (G.x.keeps F.keep) (pk_up pk3 (up_tr u3 (up_base F N W))) ?_ | refine g_pd (G.x.keeps F.keep) (pk_up pk4 (up_tr u4 (up_base F N W))) ?_ | refine g_pd (G.x.keeps F.keep) (pk_up pk5 (up_tr u5 (up_base F N W))) ?_ | refine g_pd (G.x.keeps F.keep) (pk_up pk6 (up_tr u6 (up_base F N W))) ?_); intro t))
   | ((with_reducible show wpAny _ _ (getAttr (Value.ref _) (Str.ofString "sign") _) _ _ _); ((first | refine g_ps (G.x.keeps F.keep) (pk_up pk1 (up_tr u1 (up_base F N W))) ?_ | refine g_ps (G.x.keeps F.keep) (pk_up pk2 (up_tr u2 (up_base F N W))) ?_ | refine g_ps (G.x.keeps F.keep) (pk_up pk3 (up_tr u3 (up_base F N W))) ?_ | refine g_ps (G.x.keeps F.keep) (pk_up pk4 (up_tr u4 (up_base F N W))) ?_ | refine g_ps (G.x.keeps F.keep) (pk_up pk5 (up_tr u5 (up_base F N W))) ?_ | refine g_ps (G.x.keeps F.keep) (pk_up pk6 (up_tr u6 (up_base F N W))) ?_); intro t))
   | ((with_reducible show wpAny _ _ (subscriptTail _ _ (Value.ref _) (Value.int 0 _)) _ _ _); (first | refine i_t0 (up_tr u1 (up_base F N W) _ _ ht1) ?_ | refine i_t0 (up_tr u2 (up_base F N W) _ _ ht2) ?_ | refine i_t0 (up_tr u3 (up_base F N W) _ _ ht3) ?_ | refine i_t0 (up_tr u4 (up_base F N W) _ _ ht4) ?_ | refine i_t0 (up_tr u5 (up_base F N W) _ _ ht5) ?_ | refine i_t0 (up_tr u6 (up_base F N W) _ _ ht6) ?_))
   | ((with_reducible show wpAny _ _ (subscriptTail _ _ (Value.ref _) (Value.int 1 _)) _ _ _); (first | refine i_t1 (up_tr u1 (up_base F N W) _ _ ht1) ?_ | refine i_t1 (up_tr u2 (up_base F N W) _ _ ht2) ?_ | refine i_t1 (up_tr u3 (up_base F N W) _ _ ht3) ?_ | refine i_t1 (up_tr u4 (up_base F N W) _ _ ht4) ?_ | refine i_t1 (up_tr u5 (up_base F N W) _ _ ht5) ?_ | refine i_t1 (up_tr u6 (up_base F N W) _ _ ht6) ?_))
   | ((with_reducible show wpAny _ _ (eval (Expr.Call (Expr.Name (Str.ofString "vpack") _) [_, _, _, _] _ _) _) _ _ _); (refine e_call4 (kp_vpack _) (n_vpack F G ⟨rfl, ?_⟩ (by rfl) (by rfl))))
   | ((with_reducible show wpAny _ _ (eval (Expr.Call (Expr.Name (Str.ofString "described") _) [_] _ _) _) _ _ _); (refine e_call1 (kp_described _) (n_described F G ⟨rfl, ?_⟩ (by rfl) (by rfl))))
   | ((with_reducible show wpAny _ _ (eval (Expr.Call (Expr.Name (Str.ofString "list") _) _ _ _) _) _ _ _); (refine e_tcall1 (n_list F G ⟨rfl, ?_⟩ (by rfl) (by rfl))))
   | ((with_reducible show wpAny _ _ (call (Value.type "list") _) _ _ _); (refine st_copy F N W (lst_up hit u0) ?_ (by rw [vals_len]; omega); clear F N W; intro h lc b F N W uu hlc; walk_at "mU"))
   | ((with_reducible show wpAny _ _ (newTuple _) _ _ _); (refine st_tup F N W ?_; clear F N W; intro h tt b F N W uu ht; walk_at "mU"))
   | ((with_reducible show wpAny _ _ (compareOp CmpOp.NotEq (Value.int _ _) (Value.int _ _)) _ _ _); (refine c_ne_f (by first | assumption | rfl) ?_))
   | ((with_reducible show wpAny _ _ (eval (Expr.Call (Expr.Name (Str.ofString "_law_whole") _) _ _ _) _) _ _ _); refine e_call1 (kp_law_whole _) (n_law_whole F G ⟨rfl, ?_⟩ (by rfl) (by rfl)))
   | ((with_reducible show wpAny _ _ (eval (Expr.Call (Expr.Name (Str.ofString "min") _) _ _ _) _) _ _ _); refine e_bcall2 (n_min F G ⟨rfl, ?_⟩ (by rfl) (by rfl)))
   | ((with_reducible show wpAny _ _ (call (Value.builtin "min") _) _ _ _); (with_reducible refine k_min R.hd ?_; intro h tk t u; replace F := Fr.up F u; replace N := News.up N u; clear u))
   | ((with_reducible show wpAny _ _ (eval (Expr.Call (Expr.Name (Str.ofString "vpack") _) _ _ _) _) _ _ _); refine e_call1 (kp_vpack _) (n_vpack F G ⟨rfl, ?_⟩ (by rfl) (by rfl)))
   | ((with_reducible show wpAny _ _ (eval (Expr.Call (Expr.Name (Str.ofString "places") _) _ _ _) _) _ _ _); refine e_call1 (kp_places _) (n_places F G ⟨rfl, ?_⟩ (by rfl) (by rfl)))
   | ((with_reducible show wpAny _ _ (eval (Expr.Call (Expr.Name (Str.ofString "_law_told") _) _ _ _) _) _ _ _); refine e_call1 (kp_law_told _) (n_law_told F G ⟨rfl, ?_⟩ (by rfl) (by rfl)))
   | ((with_reducible show wpAny _ _ (eval (Expr.Call (Expr.Name (Str.ofString "_law_run") _) _ _ _) _) _ _ _); refine e_call2 (kp_law_run _) (n_law_run F G ⟨rfl, ?_⟩ (by rfl) (by rfl)))
   | walk_at "mS")
  refine st_vpack (ps := ps) (R.le (by decide)) G F N W hlc (HD.ns.up u0) V3 (.inl rfl) ?_
  clear F N W; intro h tk t3 x3 rp3 ta3 tb3 s3 o3 v3 d3 r3 rb3 b F N W uu ht3 pk3 hr3 es3
  have hl3 := lst_up hlc uu
  walk_at "mU"
  have u3 := up_refl b
  clear hlc
  repeat (first
   | ((with_reducible show wpAny _ _ (eval (Expr.IfExp _ _ _ _) _) _ _ _); (refine e_if_int (C := fun z => (mode = 1 ∧ z = vpH ps 1 0 most + gap) ∨ (mode = 0 ∧ z = gap)) ?_ ?_))
   | ((with_reducible show wpAny _ _ (getAttr (Value.ref _) (Str.ofString "width") _) _ _ _); ((first | refine g_pw (G.x.keeps F.keep) (pk_up pk1 (up_tr u1 (up_base F N W))) ?_ | refine g_pw (G.x.keeps F.keep) (pk_up pk2 (up_tr u2 (up_base F N W))) ?_ | refine g_pw (G.x.keeps F.keep) (pk_up pk3 (up_tr u3 (up_base F N W))) ?_ | refine g_pw (G.x.keeps F.keep) (pk_up pk4 (up_tr u4 (up_base F N W))) ?_ | refine g_pw (G.x.keeps F.keep) (pk_up pk5 (up_tr u5 (up_base F N W))) ?_ | refine g_pw (G.x.keeps F.keep) (pk_up pk6 (up_tr u6 (up_base F N W))) ?_); intro t))
   | ((with_reducible show wpAny _ _ (getAttr (Value.ref _) (Str.ofString "height") _) _ _ _); ((first | refine g_ph (G.x.keeps F.keep) (pk_up pk1 (up_tr u1 (up_base F N W))) ?_ | refine g_ph (G.x.keeps F.keep) (pk_up pk2 (up_tr u2 (up_base F N W))) ?_ | refine g_ph (G.x.keeps F.keep) (pk_up pk3 (up_tr u3 (up_base F N W))) ?_ | refine g_ph (G.x.keeps F.keep) (pk_up pk4 (up_tr u4 (up_base F N W))) ?_ | refine g_ph (G.x.keeps F.keep) (pk_up pk5 (up_tr u5 (up_base F N W))) ?_ | refine g_ph (G.x.keeps F.keep) (pk_up pk6 (up_tr u6 (up_base F N W))) ?_); intro t))
   | ((with_reducible show wpAny _ _ (getAttr (Value.ref _) (Str.ofString "depth") _) _ _ _); ((first | refine g_pd (G.x.keeps F.keep) (pk_up pk1 (up_tr u1 (up_base F N W))) ?_ | refine g_pd (G.x.keeps F.keep) (pk_up pk2 (up_tr u2 (up_base F N W))) ?_ | refine g_pd (G.x.keeps F.keep) (pk_up pk3 (up_tr u3 (up_base F N W))) ?_ | refine g_pd (G.x.keeps F.keep) (pk_up pk4 (up_tr u4 (up_base F N W))) ?_ | refine g_pd (G.x.keeps F.keep) (pk_up pk5 (up_tr u5 (up_base F N W))) ?_ | refine g_pd (G.x.keeps F.keep) (pk_up pk6 (up_tr u6 (up_base F N W))) ?_); intro t))
   | ((with_reducible show wpAny _ _ (getAttr (Value.ref _) (Str.ofString "sign") _) _ _ _); ((first | refine g_ps (G.x.keeps F.keep) (pk_up pk1 (up_tr u1 (up_base F N W))) ?_ | refine g_ps (G.x.keeps F.keep) (pk_up pk2 (up_tr u2 (up_base F N W))) ?_ | refine g_ps (G.x.keeps F.keep) (pk_up pk3 (up_tr u3 (up_base F N W))) ?_ | refine g_ps (G.x.keeps F.keep) (pk_up pk4 (up_tr u4 (up_base F N W))) ?_ | refine g_ps (G.x.keeps F.keep) (pk_up pk5 (up_tr u5 (up_base F N W))) ?_ | refine g_ps (G.x.keeps F.keep) (pk_up pk6 (up_tr u6 (up_base F N W))) ?_); intro t))
   | ((with_reducible show wpAny _ _ (subscriptTail _ _ (Value.ref _) (Value.int 0 _)) _ _ _); (first | refine i_t0 (up_tr u1 (up_base F N W) _ _ ht1) ?_ | refine i_t0 (up_tr u2 (up_base F N W) _ _ ht2) ?_ | refine i_t0 (up_tr u3 (up_base F N W) _ _ ht3) ?_ | refine i_t0 (up_tr u4 (up_base F N W) _ _ ht4) ?_ | refine i_t0 (up_tr u5 (up_base F N W) _ _ ht5) ?_ | refine i_t0 (up_tr u6 (up_base F N W) _ _ ht6) ?_))
   | ((with_reducible show wpAny _ _ (subscriptTail _ _ (Value.ref _) (Value.int 1 _)) _ _ _); (first | refine i_t1 (up_tr u1 (up_base F N W) _ _ ht1) ?_ | refine i_t1 (up_tr u2 (up_base F N W) _ _ ht2) ?_ | refine i_t1 (up_tr u3 (up_base F N W) _ _ ht3) ?_ | refine i_t1 (up_tr u4 (up_base F N W) _ _ ht4) ?_ | refine i_t1 (up_tr u5 (up_base F N W) _ _ ht5) ?_ | refine i_t1 (up_tr u6 (up_base F N W) _ _ ht6) ?_))
   | ((with_reducible show wpAny _ _ (eval (Expr.Call (Expr.Name (Str.ofString "vpack") _) [_, _, _, _] _ _) _) _ _ _); (refine e_call4 (kp_vpack _) (n_vpack F G ⟨rfl, ?_⟩ (by rfl) (by rfl))))
   | ((with_reducible show wpAny _ _ (eval (Expr.Call (Expr.Name (Str.ofString "described") _) [_] _ _) _) _ _ _); (refine e_call1 (kp_described _) (n_described F G ⟨rfl, ?_⟩ (by rfl) (by rfl))))
   | ((with_reducible show wpAny _ _ (eval (Expr.Call (Expr.Name (Str.ofString "list") _) _ _ _) _) _ _ _); (refine e_tcall1 (n_list F G ⟨rfl, ?_⟩ (by rfl) (by rfl))))
   | ((with_reducible show wpAny _ _ (call (Value.type "list") _) _ _ _); (refine st_copy F N W (lst_up hit u0) ?_ (by rw [vals_len]; omega); clear F N W; intro h lc b F N W uu hlc; walk_at "mU"))
   | ((with_reducible show wpAny _ _ (newTuple _) _ _ _); (refine st_tup F N W ?_; clear F N W; intro h tt b F N W uu ht; walk_at "mU"))
   | ((with_reducible show wpAny _ _ (compareOp CmpOp.NotEq (Value.int _ _) (Value.int _ _)) _ _ _); (refine c_ne_f (by first | assumption | rfl) ?_))
   | ((with_reducible show wpAny _ _ (eval (Expr.Call (Expr.Name (Str.ofString "_law_whole") _) _ _ _) _) _ _ _); refine e_call1 (kp_law_whole _) (n_law_whole F G ⟨rfl, ?_⟩ (by rfl) (by rfl)))
   | ((with_reducible show wpAny _ _ (eval (Expr.Call (Expr.Name (Str.ofString "min") _) _ _ _) _) _ _ _); refine e_bcall2 (n_min F G ⟨rfl, ?_⟩ (by rfl) (by rfl)))
   | ((with_reducible show wpAny _ _ (call (Value.builtin "min") _) _ _ _); (with_reducible refine k_min R.hd ?_; intro h tk t u; replace F := Fr.up F u; replace N := News.up N u; clear u))
   | ((with_reducible show wpAny _ _ (eval (Expr.Call (Expr.Name (Str.ofString "vpack") _) _ _ _) _) _ _ _); refine e_call1 (kp_vpack _) (n_vpack F G ⟨rfl, ?_⟩ (by rfl) (by rfl)))
   | ((with_reducible show wpAny _ _ (eval (Expr.Call (Expr.Name (Str.ofString "places") _) _ _ _) _) _ _ _); refine e_call1 (kp_places _) (n_places F G ⟨rfl, ?_⟩ (by rfl) (by rfl)))
   | ((with_reducible show wpAny _ _ (eval (Expr.Call (Expr.Name (Str.ofString "_law_told") _) _ _ _) _) _ _ _); refine e_call1 (kp_law_told _) (n_law_told F G ⟨rfl, ?_⟩ (by rfl) (by rfl)))
   | ((with_reducible show wpAny _ _ (eval (Expr.Call (Expr.Name (Str.ofString "_law_run") _) _ _ _) _) _ _ _); refine e_call2 (kp_law_run _) (n_law_run F G ⟨rfl, ?_⟩ (by rfl) (by rfl)))
   | walk_at "mS")
  all_goals try exact ⟨_, _, _, rfl, rfl, .inl ⟨by assumption, rfl⟩⟩
  all_goals try exact ⟨_, _, _, rfl, rfl, .inr ⟨by omega, rfl⟩⟩
  intro aw taw tk haw
  obtain ⟨V4, eE4, eH4⟩ := cP.vp (mode := 1 - mode) (amount := aw) (by omega) hmost hgap (by rw [← e2n]; omega)
  repeat (first
   | ((with_reducible show wpAny _ _ (getAttr (Value.ref _) (Str.ofString "width") _) _ _ _); ((first | refine g_pw (G.x.keeps F.keep) (pk_up pk1 (up_tr u1 (up_base F N W))) ?_ | refine g_pw (G.x.keeps F.keep) (pk_up pk2 (up_tr u2 (up_base F N W))) ?_ | refine g_pw (G.x.keeps F.keep) (pk_up pk3 (up_tr u3 (up_base F N W))) ?_ | refine g_pw (G.x.keeps F.keep) (pk_up pk4 (up_tr u4 (up_base F N W))) ?_ | refine g_pw (G.x.keeps F.keep) (pk_up pk5 (up_tr u5 (up_base F N W))) ?_ | refine g_pw (G.x.keeps F.keep) (pk_up pk6 (up_tr u6 (up_base F N W))) ?_); intro t))
   | ((with_reducible show wpAny _ _ (getAttr (Value.ref _) (Str.ofString "height") _) _ _ _); ((first | refine g_ph (G.x.keeps F.keep) (pk_up pk1 (up_tr u1 (up_base F N W))) ?_ | refine g_ph (G.x.keeps F.keep) (pk_up pk2 (up_tr u2 (up_base F N W))) ?_ | refine g_ph (G.x.keeps F.keep) (pk_up pk3 (up_tr u3 (up_base F N W))) ?_ | refine g_ph (G.x.keeps F.keep) (pk_up pk4 (up_tr u4 (up_base F N W))) ?_ | refine g_ph (G.x.keeps F.keep) (pk_up pk5 (up_tr u5 (up_base F N W))) ?_ | refine g_ph (G.x.keeps F.keep) (pk_up pk6 (up_tr u6 (up_base F N W))) ?_); intro t))
   | ((with_reducible show wpAny _ _ (getAttr (Value.ref _) (Str.ofString "depth") _) _ _ _); ((first | refine g_pd (G.x.keeps F.keep) (pk_up pk1 (up_tr u1 (up_base F N W))) ?_ | refine g_pd (G.x.keeps F.keep) (pk_up pk2 (up_tr u2 (up_base F N W))) ?_ | refine g_pd (G.x.keeps F.keep) (pk_up pk3 (up_tr u3 (up_base F N W))) ?_ | refine g_pd (G.x.keeps F.keep) (pk_up pk4 (up_tr u4 (up_base F N W))) ?_ | refine g_pd (G.x.keeps F.keep) (pk_up pk5 (up_tr u5 (up_base F N W))) ?_ | refine g_pd (G.x.keeps F.keep) (pk_up pk6 (up_tr u6 (up_base F N W))) ?_); intro t))
   | ((with_reducible show wpAny _ _ (getAttr (Value.ref _) (Str.ofString "sign") _) _ _ _); ((first | refine g_ps (G.x.keeps F.keep) (pk_up pk1 (up_tr u1 (up_base F N W))) ?_ | refine g_ps (G.x.keeps F.keep) (pk_up pk2 (up_tr u2 (up_base F N W))) ?_ | refine g_ps (G.x.keeps F.keep) (pk_up pk3 (up_tr u3 (up_base F N W))) ?_ | refine g_ps (G.x.keeps F.keep) (pk_up pk4 (up_tr u4 (up_base F N W))) ?_ | refine g_ps (G.x.keeps F.keep) (pk_up pk5 (up_tr u5 (up_base F N W))) ?_ | refine g_ps (G.x.keeps F.keep) (pk_up pk6 (up_tr u6 (up_base F N W))) ?_); intro t))
   | ((with_reducible show wpAny _ _ (subscriptTail _ _ (Value.ref _) (Value.int 0 _)) _ _ _); (first | refine i_t0 (up_tr u1 (up_base F N W) _ _ ht1) ?_ | refine i_t0 (up_tr u2 (up_base F N W) _ _ ht2) ?_ | refine i_t0 (up_tr u3 (up_base F N W) _ _ ht3) ?_ | refine i_t0 (up_tr u4 (up_base F N W) _ _ ht4) ?_ | refine i_t0 (up_tr u5 (up_base F N W) _ _ ht5) ?_ | refine i_t0 (up_tr u6 (up_base F N W) _ _ ht6) ?_))
   | ((with_reducible show wpAny _ _ (subscriptTail _ _ (Value.ref _) (Value.int 1 _)) _ _ _); (first | refine i_t1 (up_tr u1 (up_base F N W) _ _ ht1) ?_ | refine i_t1 (up_tr u2 (up_base F N W) _ _ ht2) ?_ | refine i_t1 (up_tr u3 (up_base F N W) _ _ ht3) ?_ | refine i_t1 (up_tr u4 (up_base F N W) _ _ ht4) ?_ | refine i_t1 (up_tr u5 (up_base F N W) _ _ ht5) ?_ | refine i_t1 (up_tr u6 (up_base F N W) _ _ ht6) ?_))
   | ((with_reducible show wpAny _ _ (eval (Expr.Call (Expr.Name (Str.ofString "vpack") _) [_, _, _, _] _ _) _) _ _ _); (refine e_call4 (kp_vpack _) (n_vpack F G ⟨rfl, ?_⟩ (by rfl) (by rfl))))
   | ((with_reducible show wpAny _ _ (eval (Expr.Call (Expr.Name (Str.ofString "described") _) [_] _ _) _) _ _ _); (refine e_call1 (kp_described _) (n_described F G ⟨rfl, ?_⟩ (by rfl) (by rfl))))
   | ((with_reducible show wpAny _ _ (eval (Expr.Call (Expr.Name (Str.ofString "list") _) _ _ _) _) _ _ _); (refine e_tcall1 (n_list F G ⟨rfl, ?_⟩ (by rfl) (by rfl))))
   | ((with_reducible show wpAny _ _ (call (Value.type "list") _) _ _ _); (refine st_copy F N W (lst_up hit u0) ?_ (by rw [vals_len]; omega); clear F N W; intro h lc b F N W uu hlc; walk_at "mU"))
   | ((with_reducible show wpAny _ _ (newTuple _) _ _ _); (refine st_tup F N W ?_; clear F N W; intro h tt b F N W uu ht; walk_at "mU"))
   | ((with_reducible show wpAny _ _ (compareOp CmpOp.NotEq (Value.int _ _) (Value.int _ _)) _ _ _); (refine c_ne_f (by first | assumption | rfl) ?_))
   | ((with_reducible show wpAny _ _ (eval (Expr.Call (Expr.Name (Str.ofString "_law_whole") _) _ _ _) _) _ _ _); refine e_call1 (kp_law_whole _) (n_law_whole F G ⟨rfl, ?_⟩ (by rfl) (by rfl)))
   | ((with_reducible show wpAny _ _ (eval (Expr.Call (Expr.Name (Str.ofString "min") _) _ _ _) _) _ _ _); refine e_bcall2 (n_min F G ⟨rfl, ?_⟩ (by rfl) (by rfl)))
   | ((with_reducible show wpAny _ _ (call (Value.builtin "min") _) _ _ _); (with_reducible refine k_min R.hd ?_; intro h tk t u; replace F := Fr.up F u; replace N := News.up N u; clear u))
   | ((with_reducible show wpAny _ _ (eval (Expr.Call (Expr.Name (Str.ofString "vpack") _) _ _ _) _) _ _ _); refine e_call1 (kp_vpack _) (n_vpack F G ⟨rfl, ?_⟩ (by rfl) (by rfl)))
   | ((with_reducible show wpAny _ _ (eval (Expr.Call (Expr.Name (Str.ofString "places") _) _ _ _) _) _ _ _); refine e_call1 (kp_places _) (n_places F G ⟨rfl, ?_⟩ (by rfl) (by rfl)))
   | ((with_reducible show wpAny _ _ (eval (Expr.Call (Expr.Name (Str.ofString "_law_told") _) _ _ _) _) _ _ _); refine e_call1 (kp_law_told _) (n_law_told F G ⟨rfl, ?_⟩ (by rfl) (by rfl)))
   | ((with_reducible show wpAny _ _ (eval (Expr.Call (Expr.Name (Str.ofString "_law_run") _) _ _ _) _) _ _ _); refine e_call2 (kp_law_run _) (n_law_run F G ⟨rfl, ?_⟩ (by rfl) (by rfl)))
   | walk_at "mS")
  refine st_vpack (ps := ps) (R.le (by decide)) G F N W hlc (HD.ns.up u0) V4 (.inl rfl) ?_
  clear F N W; intro h tk t4 x4 rp4 ta4 tb4 s4 o4 v4 d4 r4 rb4 b F N W uu ht4 pk4 hr4 es4
  have hl4 := lst_up hlc uu
  walk_at "mU"
  have u4 := up_refl b
  clear hlc
  have e43 : vpS ps (1 - mode) aw most = vpS ps mode am most := by unfold vpS; rw [eE3, eE4]
  rw [e43, ← es3] at es4
  obtain ⟨w1, w2, w3, w4, w5, w6⟩ : s4 = s3 ∧ o4 = o3 ∧ v4 = v3 ∧ d4 = d3 ∧ r4 = r3 ∧ rb4 = rb3 := by injection es4 with a1 a2 a3 a4 a5 a6; exact ⟨a1, a2, a3, a4, a5, a6⟩
  subst s4 o4 v4 d4 r4 rb4
  rw [eH4, ← eH3] at pk4
  clear es4 e43
  have E4 : vpH ps mode am most = vpH ps 1 0 most + gap := by rw [eH3, e2n]
  have hd3 := sg_bd V3 es3
  have E5 : vpH ps mode am most + vpD ps most = vpH ps 1 0 1073741823 + vpD ps 1073741823 + gap := by rw [E1, eH3, ← sP most]; omega
  have D0 : vpD ps 1073741823 = (natF ps).D := (vp_big cP).2
  have E6 : vpD ps most = if most < vpD ps 1073741823 then most else vpD ps 1073741823 := by rw [D0]; rfl
  repeat (first
   | ((with_reducible show wpAny _ _ (getAttr (Value.ref _) (Str.ofString "width") _) _ _ _); ((first | refine g_pw (G.x.keeps F.keep) (pk_up pk1 (up_tr u1 (up_base F N W))) ?_ | refine g_pw (G.x.keeps F.keep) (pk_up pk2 (up_tr u2 (up_base F N W))) ?_ | refine g_pw (G.x.keeps F.keep) (pk_up pk3 (up_tr u3 (up_base F N W))) ?_ | refine g_pw (G.x.keeps F.keep) (pk_up pk4 (up_tr u4 (up_base F N W))) ?_ | refine g_pw (G.x.keeps F.keep) (pk_up pk5 (up_tr u5 (up_base F N W))) ?_ | refine g_pw (G.x.keeps F.keep) (pk_up pk6 (up_tr u6 (up_base F N W))) ?_); intro t))
   | ((with_reducible show wpAny _ _ (getAttr (Value.ref _) (Str.ofString "height") _) _ _ _); ((first | refine g_ph (G.x.keeps F.keep) (pk_up pk1 (up_tr u1 (up_base F N W))) ?_ | refine g_ph (G.x.keeps F.keep) (pk_up pk2 (up_tr u2 (up_base F N W))) ?_ | refine g_ph (G.x.keeps F.keep) (pk_up pk3 (up_tr u3 (up_base F N W))) ?_ | refine g_ph (G.x.keeps F.keep) (pk_up pk4 (up_tr u4 (up_base F N W))) ?_ | refine g_ph (G.x.keeps F.keep) (pk_up pk5 (up_tr u5 (up_base F N W))) ?_ | refine g_ph (G.x.keeps F.keep) (pk_up pk6 (up_tr u6 (up_base F N W))) ?_); intro t))
   | ((with_reducible show wpAny _ _ (getAttr (Value.ref _) (Str.ofString "depth") _) _ _ _); ((first | refine g_pd (G.x.keeps F.keep) (pk_up pk1 (up_tr u1 (up_base F N W))) ?_ | refine g_pd (G.x.keeps F.keep) (pk_up pk2 (up_tr u2 (up_base F N W))) ?_ | refine g_pd (G.x.keeps F.keep) (pk_up pk3 (up_tr u3 (up_base F N W))) ?_ | refine g_pd (G.x.keeps F.keep) (pk_up pk4 (up_tr u4 (up_base F N W))) ?_ | refine g_pd (G.x.keeps F.keep) (pk_up pk5 (up_tr u5 (up_base F N W))) ?_ | refine g_pd (G.x.keeps F.keep) (pk_up pk6 (up_tr u6 (up_base F N W))) ?_); intro t))
   | ((with_reducible show wpAny _ _ (getAttr (Value.ref _) (Str.ofString "sign") _) _ _ _); ((first | refine g_ps (G.x.keeps F.keep) (pk_up pk1 (up_tr u1 (up_base F N W))) ?_ | refine g_ps (G.x.keeps F.keep) (pk_up pk2 (up_tr u2 (up_base F N W))) ?_ | refine g_ps (G.x.keeps F.keep) (pk_up pk3 (up_tr u3 (up_base F N W))) ?_ | refine g_ps (G.x.keeps F.keep) (pk_up pk4 (up_tr u4 (up_base F N W))) ?_ | refine g_ps (G.x.keeps F.keep) (pk_up pk5 (up_tr u5 (up_base F N W))) ?_ | refine g_ps (G.x.keeps F.keep) (pk_up pk6 (up_tr u6 (up_base F N W))) ?_); intro t))
   | ((with_reducible show wpAny _ _ (subscriptTail _ _ (Value.ref _) (Value.int 0 _)) _ _ _); (first | refine i_t0 (up_tr u1 (up_base F N W) _ _ ht1) ?_ | refine i_t0 (up_tr u2 (up_base F N W) _ _ ht2) ?_ | refine i_t0 (up_tr u3 (up_base F N W) _ _ ht3) ?_ | refine i_t0 (up_tr u4 (up_base F N W) _ _ ht4) ?_ | refine i_t0 (up_tr u5 (up_base F N W) _ _ ht5) ?_ | refine i_t0 (up_tr u6 (up_base F N W) _ _ ht6) ?_))
   | ((with_reducible show wpAny _ _ (subscriptTail _ _ (Value.ref _) (Value.int 1 _)) _ _ _); (first | refine i_t1 (up_tr u1 (up_base F N W) _ _ ht1) ?_ | refine i_t1 (up_tr u2 (up_base F N W) _ _ ht2) ?_ | refine i_t1 (up_tr u3 (up_base F N W) _ _ ht3) ?_ | refine i_t1 (up_tr u4 (up_base F N W) _ _ ht4) ?_ | refine i_t1 (up_tr u5 (up_base F N W) _ _ ht5) ?_ | refine i_t1 (up_tr u6 (up_base F N W) _ _ ht6) ?_))
   | ((with_reducible show wpAny _ _ (eval (Expr.Call (Expr.Name (Str.ofString "vpack") _) [_, _, _, _] _ _) _) _ _ _); (refine e_call4 (kp_vpack _) (n_vpack F G ⟨rfl, ?_⟩ (by rfl) (by rfl))))
   | ((with_reducible show wpAny _ _ (eval (Expr.Call (Expr.Name (Str.ofString "described") _) [_] _ _) _) _ _ _); (refine e_call1 (kp_described _) (n_described F G ⟨rfl, ?_⟩ (by rfl) (by rfl))))
   | ((with_reducible show wpAny _ _ (eval (Expr.Call (Expr.Name (Str.ofString "list") _) _ _ _) _) _ _ _); (refine e_tcall1 (n_list F G ⟨rfl, ?_⟩ (by rfl) (by rfl))))
   | ((with_reducible show wpAny _ _ (call (Value.type "list") _) _ _ _); (refine st_copy F N W (lst_up hit u0) ?_ (by rw [vals_len]; omega); clear F N W; intro h lc b F N W uu hlc; walk_at "mU"))
   | ((with_reducible show wpAny _ _ (newTuple _) _ _ _); (refine st_tup F N W ?_; clear F N W; intro h tt b F N W uu ht; walk_at "mU"))
   | ((with_reducible show wpAny _ _ (compareOp CmpOp.NotEq (Value.int _ _) (Value.int _ _)) _ _ _); (refine c_ne_f (by first | assumption | rfl) ?_))
   | ((with_reducible show wpAny _ _ (eval (Expr.Call (Expr.Name (Str.ofString "_law_whole") _) _ _ _) _) _ _ _); refine e_call1 (kp_law_whole _) (n_law_whole F G ⟨rfl, ?_⟩ (by rfl) (by rfl)))
   | ((with_reducible show wpAny _ _ (eval (Expr.Call (Expr.Name (Str.ofString "min") _) _ _ _) _) _ _ _); refine e_bcall2 (n_min F G ⟨rfl, ?_⟩ (by rfl) (by rfl)))
   | ((with_reducible show wpAny _ _ (call (Value.builtin "min") _) _ _ _); (with_reducible refine k_min R.hd ?_; intro h tk t u; replace F := Fr.up F u; replace N := News.up N u; clear u))
   | ((with_reducible show wpAny _ _ (eval (Expr.Call (Expr.Name (Str.ofString "vpack") _) _ _ _) _) _ _ _); refine e_call1 (kp_vpack _) (n_vpack F G ⟨rfl, ?_⟩ (by rfl) (by rfl)))
   | ((with_reducible show wpAny _ _ (eval (Expr.Call (Expr.Name (Str.ofString "places") _) _ _ _) _) _ _ _); refine e_call1 (kp_places _) (n_places F G ⟨rfl, ?_⟩ (by rfl) (by rfl)))
   | ((with_reducible show wpAny _ _ (eval (Expr.Call (Expr.Name (Str.ofString "_law_told") _) _ _ _) _) _ _ _); refine e_call1 (kp_law_told _) (n_law_told F G ⟨rfl, ?_⟩ (by rfl) (by rfl)))
   | ((with_reducible show wpAny _ _ (eval (Expr.Call (Expr.Name (Str.ofString "_law_run") _) _ _ _) _) _ _ _); refine e_call2 (kp_law_run _) (n_law_run F G ⟨rfl, ?_⟩ (by rfl) (by rfl)))
   | walk_at "mS")
  refine st_desc (R.le (by decide)) G F N W (pk_up pk4 u4) (lst_up hl4 u4) (HD.up u0) (by omega) ?_
  clear F N W; intro h tk td4 b F N W uu hT4
  walk_at "mU"
  have u7 := up_refl b
  repeat (first
   | ((with_reducible show wpAny _ _ (getAttr (Value.ref _) (Str.ofString "width") _) _ _ _); ((first | refine g_pw (G.x.keeps F.keep) (pk_up pk1 (up_tr u1 (up_base F N W))) ?_ | refine g_pw (G.x.keeps F.keep) (pk_up pk2 (up_tr u2 (up_base F N W))) ?_ | refine g_pw (G.x.keeps F.keep) (pk_up pk3 (up_tr u3 (up_base F N W))) ?_ | refine g_pw (G.x.keeps F.keep) (pk_up pk4 (up_tr u4 (up_base F N W))) ?_ | refine g_pw (G.x.keeps F.keep) (pk_up pk5 (up_tr u5 (up_base F N W))) ?_ | refine g_pw (G.x.keeps F.keep) (pk_up pk6 (up_tr u6 (up_base F N W))) ?_); intro t))
   | ((with_reducible show wpAny _ _ (getAttr (Value.ref _) (Str.ofString "height") _) _ _ _); ((first | refine g_ph (G.x.keeps F.keep) (pk_up pk1 (up_tr u1 (up_base F N W))) ?_ | refine g_ph (G.x.keeps F.keep) (pk_up pk2 (up_tr u2 (up_base F N W))) ?_ | refine g_ph (G.x.keeps F.keep) (pk_up pk3 (up_tr u3 (up_base F N W))) ?_ | refine g_ph (G.x.keeps F.keep) (pk_up pk4 (up_tr u4 (up_base F N W))) ?_ | refine g_ph (G.x.keeps F.keep) (pk_up pk5 (up_tr u5 (up_base F N W))) ?_ | refine g_ph (G.x.keeps F.keep) (pk_up pk6 (up_tr u6 (up_base F N W))) ?_); intro t))
   | ((with_reducible show wpAny _ _ (getAttr (Value.ref _) (Str.ofString "depth") _) _ _ _); ((first | refine g_pd (G.x.keeps F.keep) (pk_up pk1 (up_tr u1 (up_base F N W))) ?_ | refine g_pd (G.x.keeps F.keep) (pk_up pk2 (up_tr u2 (up_base F N W))) ?_ | refine g_pd (G.x.keeps F.keep) (pk_up pk3 (up_tr u3 (up_base F N W))) ?_ | refine g_pd (G.x.keeps F.keep) (pk_up pk4 (up_tr u4 (up_base F N W))) ?_ | refine g_pd (G.x.keeps F.keep) (pk_up pk5 (up_tr u5 (up_base F N W))) ?_ | refine g_pd (G.x.keeps F.keep) (pk_up pk6 (up_tr u6 (up_base F N W))) ?_); intro t))
   | ((with_reducible show wpAny _ _ (getAttr (Value.ref _) (Str.ofString "sign") _) _ _ _); ((first | refine g_ps (G.x.keeps F.keep) (pk_up pk1 (up_tr u1 (up_base F N W))) ?_ | refine g_ps (G.x.keeps F.keep) (pk_up pk2 (up_tr u2 (up_base F N W))) ?_ | refine g_ps (G.x.keeps F.keep) (pk_up pk3 (up_tr u3 (up_base F N W))) ?_ | refine g_ps (G.x.keeps F.keep) (pk_up pk4 (up_tr u4 (up_base F N W))) ?_ | refine g_ps (G.x.keeps F.keep) (pk_up pk5 (up_tr u5 (up_base F N W))) ?_ | refine g_ps (G.x.keeps F.keep) (pk_up pk6 (up_tr u6 (up_base F N W))) ?_); intro t))
   | ((with_reducible show wpAny _ _ (subscriptTail _ _ (Value.ref _) (Value.int 0 _)) _ _ _); (first | refine i_t0 (up_tr u1 (up_base F N W) _ _ ht1) ?_ | refine i_t0 (up_tr u2 (up_base F N W) _ _ ht2) ?_ | refine i_t0 (up_tr u3 (up_base F N W) _ _ ht3) ?_ | refine i_t0 (up_tr u4 (up_base F N W) _ _ ht4) ?_ | refine i_t0 (up_tr u5 (up_base F N W) _ _ ht5) ?_ | refine i_t0 (up_tr u6 (up_base F N W) _ _ ht6) ?_))
   | ((with_reducible show wpAny _ _ (subscriptTail _ _ (Value.ref _) (Value.int 1 _)) _ _ _); (first | refine i_t1 (up_tr u1 (up_base F N W) _ _ ht1) ?_ | refine i_t1 (up_tr u2 (up_base F N W) _ _ ht2) ?_ | refine i_t1 (up_tr u3 (up_base F N W) _ _ ht3) ?_ | refine i_t1 (up_tr u4 (up_base F N W) _ _ ht4) ?_ | refine i_t1 (up_tr u5 (up_base F N W) _ _ ht5) ?_ | refine i_t1 (up_tr u6 (up_base F N W) _ _ ht6) ?_))
   | ((with_reducible show wpAny _ _ (eval (Expr.Call (Expr.Name (Str.ofString "vpack") _) [_, _, _, _] _ _) _) _ _ _); (refine e_call4 (kp_vpack _) (n_vpack F G ⟨rfl, ?_⟩ (by rfl) (by rfl))))
   | ((with_reducible show wpAny _ _ (eval (Expr.Call (Expr.Name (Str.ofString "described") _) [_] _ _) _) _ _ _); (refine e_call1 (kp_described _) (n_described F G ⟨rfl, ?_⟩ (by rfl) (by rfl))))
   | ((with_reducible show wpAny _ _ (eval (Expr.Call (Expr.Name (Str.ofString "list") _) _ _ _) _) _ _ _); (refine e_tcall1 (n_list F G ⟨rfl, ?_⟩ (by rfl) (by rfl))))
   | ((with_reducible show wpAny _ _ (call (Value.type "list") _) _ _ _); (refine st_copy F N W (lst_up hit u0) ?_ (by rw [vals_len]; omega); clear F N W; intro h lc b F N W uu hlc; walk_at "mU"))
   | ((with_reducible show wpAny _ _ (newTuple _) _ _ _); (refine st_tup F N W ?_; clear F N W; intro h tt b F N W uu ht; walk_at "mU"))
   | ((with_reducible show wpAny _ _ (compareOp CmpOp.NotEq (Value.int _ _) (Value.int _ _)) _ _ _); (refine c_ne_f (by first | assumption | rfl) ?_))
   | ((with_reducible show wpAny _ _ (eval (Expr.Call (Expr.Name (Str.ofString "_law_whole") _) _ _ _) _) _ _ _); refine e_call1 (kp_law_whole _) (n_law_whole F G ⟨rfl, ?_⟩ (by rfl) (by rfl)))
   | ((with_reducible show wpAny _ _ (eval (Expr.Call (Expr.Name (Str.ofString "min") _) _ _ _) _) _ _ _); refine e_bcall2 (n_min F G ⟨rfl, ?_⟩ (by rfl) (by rfl)))
   | ((with_reducible show wpAny _ _ (call (Value.builtin "min") _) _ _ _); (with_reducible refine k_min R.hd ?_; intro h tk t u; replace F := Fr.up F u; replace N := News.up N u; clear u))
   | ((with_reducible show wpAny _ _ (eval (Expr.Call (Expr.Name (Str.ofString "vpack") _) _ _ _) _) _ _ _); refine e_call1 (kp_vpack _) (n_vpack F G ⟨rfl, ?_⟩ (by rfl) (by rfl)))
   | ((with_reducible show wpAny _ _ (eval (Expr.Call (Expr.Name (Str.ofString "places") _) _ _ _) _) _ _ _); refine e_call1 (kp_places _) (n_places F G ⟨rfl, ?_⟩ (by rfl) (by rfl)))
   | ((with_reducible show wpAny _ _ (eval (Expr.Call (Expr.Name (Str.ofString "_law_told") _) _ _ _) _) _ _ _); refine e_call1 (kp_law_told _) (n_law_told F G ⟨rfl, ?_⟩ (by rfl) (by rfl)))
   | ((with_reducible show wpAny _ _ (eval (Expr.Call (Expr.Name (Str.ofString "_law_run") _) _ _ _) _) _ _ _); refine e_call2 (kp_law_run _) (n_law_run F G ⟨rfl, ?_⟩ (by rfl) (by rfl)))
   | walk_at "mS")
  refine st_desc (R.le (by decide)) G F N W (pk_up pk3 u3) (lst_up hl3 u3) (HD.up u0) (by omega) ?_
  clear F N W; intro h tk td3 b F N W uu hT3
  walk_at "mU"
  refine rd_ne (hT4.up (up_tr u7 (up_base F N W))) (hT3.up (up_base F N W)) (by have := R.un; omega) ?_
  clear hT3 hT4 u7
  repeat (first
   | ((with_reducible show wpAny _ _ (compareOp CmpOp.NotEq (Value.ref _) (Value.ref _)) _ _ _); (refine rd_ne (rep_rd (up_tr u4 (up_base F N W) _ _ hr4)) (rep_rd (up_tr u3 (up_base F N W) _ _ hr3)) (by have := R.un; omega) ?_))
   | ((with_reducible show wpAny _ _ (getAttr (Value.ref _) (Str.ofString "width") _) _ _ _); ((first | refine g_pw (G.x.keeps F.keep) (pk_up pk1 (up_tr u1 (up_base F N W))) ?_ | refine g_pw (G.x.keeps F.keep) (pk_up pk2 (up_tr u2 (up_base F N W))) ?_ | refine g_pw (G.x.keeps F.keep) (pk_up pk3 (up_tr u3 (up_base F N W))) ?_ | refine g_pw (G.x.keeps F.keep) (pk_up pk4 (up_tr u4 (up_base F N W))) ?_ | refine g_pw (G.x.keeps F.keep) (pk_up pk5 (up_tr u5 (up_base F N W))) ?_ | refine g_pw (G.x.keeps F.keep) (pk_up pk6 (up_tr u6 (up_base F N W))) ?_); intro t))
   | ((with_reducible show wpAny _ _ (getAttr (Value.ref _) (Str.ofString "height") _) _ _ _); ((first | refine g_ph (G.x.keeps F.keep) (pk_up pk1 (up_tr u1 (up_base F N W))) ?_ | refine g_ph (G.x.keeps F.keep) (pk_up pk2 (up_tr u2 (up_base F N W))) ?_ | refine g_ph (G.x.keeps F.keep) (pk_up pk3 (up_tr u3 (up_base F N W))) ?_ | refine g_ph (G.x.keeps F.keep) (pk_up pk4 (up_tr u4 (up_base F N W))) ?_ | refine g_ph (G.x.keeps F.keep) (pk_up pk5 (up_tr u5 (up_base F N W))) ?_ | refine g_ph (G.x.keeps F.keep) (pk_up pk6 (up_tr u6 (up_base F N W))) ?_); intro t))
   | ((with_reducible show wpAny _ _ (getAttr (Value.ref _) (Str.ofString "depth") _) _ _ _); ((first | refine g_pd (G.x.keeps F.keep) (pk_up pk1 (up_tr u1 (up_base F N W))) ?_ | refine g_pd (G.x.keeps F.keep) (pk_up pk2 (up_tr u2 (up_base F N W))) ?_ | refine g_pd (G.x.keeps F.keep) (pk_up pk3 (up_tr u3 (up_base F N W))) ?_ | refine g_pd (G.x.keeps F.keep) (pk_up pk4 (up_tr u4 (up_base F N W))) ?_ | refine g_pd (G.x.keeps F.keep) (pk_up pk5 (up_tr u5 (up_base F N W))) ?_ | refine g_pd (G.x.keeps F.keep) (pk_up pk6 (up_tr u6 (up_base F N W))) ?_); intro t))
   | ((with_reducible show wpAny _ _ (getAttr (Value.ref _) (Str.ofString "sign") _) _ _ _); ((first | refine g_ps (G.x.keeps F.keep) (pk_up pk1 (up_tr u1 (up_base F N W))) ?_ | refine g_ps (G.x.keeps F.keep) (pk_up pk2 (up_tr u2 (up_base F N W))) ?_ | refine g_ps (G.x.keeps F.keep) (pk_up pk3 (up_tr u3 (up_base F N W))) ?_ | refine g_ps (G.x.keeps F.keep) (pk_up pk4 (up_tr u4 (up_base F N W))) ?_ | refine g_ps (G.x.keeps F.keep) (pk_up pk5 (up_tr u5 (up_base F N W))) ?_ | refine g_ps (G.x.keeps F.keep) (pk_up pk6 (up_tr u6 (up_base F N W))) ?_); intro t))
   | ((with_reducible show wpAny _ _ (subscriptTail _ _ (Value.ref _) (Value.int 0 _)) _ _ _); (first | refine i_t0 (up_tr u1 (up_base F N W) _ _ ht1) ?_ | refine i_t0 (up_tr u2 (up_base F N W) _ _ ht2) ?_ | refine i_t0 (up_tr u3 (up_base F N W) _ _ ht3) ?_ | refine i_t0 (up_tr u4 (up_base F N W) _ _ ht4) ?_ | refine i_t0 (up_tr u5 (up_base F N W) _ _ ht5) ?_ | refine i_t0 (up_tr u6 (up_base F N W) _ _ ht6) ?_))
   | ((with_reducible show wpAny _ _ (subscriptTail _ _ (Value.ref _) (Value.int 1 _)) _ _ _); (first | refine i_t1 (up_tr u1 (up_base F N W) _ _ ht1) ?_ | refine i_t1 (up_tr u2 (up_base F N W) _ _ ht2) ?_ | refine i_t1 (up_tr u3 (up_base F N W) _ _ ht3) ?_ | refine i_t1 (up_tr u4 (up_base F N W) _ _ ht4) ?_ | refine i_t1 (up_tr u5 (up_base F N W) _ _ ht5) ?_ | refine i_t1 (up_tr u6 (up_base F N W) _ _ ht6) ?_))
   | ((with_reducible show wpAny _ _ (eval (Expr.Call (Expr.Name (Str.ofString "vpack") _) [_, _, _, _] _ _) _) _ _ _); (refine e_call4 (kp_vpack _) (n_vpack F G ⟨rfl, ?_⟩ (by rfl) (by rfl))))
   | ((with_reducible show wpAny _ _ (eval (Expr.Call (Expr.Name (Str.ofString "described") _) [_] _ _) _) _ _ _); (refine e_call1 (kp_described _) (n_described F G ⟨rfl, ?_⟩ (by rfl) (by rfl))))
   | ((with_reducible show wpAny _ _ (eval (Expr.Call (Expr.Name (Str.ofString "list") _) _ _ _) _) _ _ _); (refine e_tcall1 (n_list F G ⟨rfl, ?_⟩ (by rfl) (by rfl))))
   | ((with_reducible show wpAny _ _ (call (Value.type "list") _) _ _ _); (refine st_copy F N W (lst_up hit u0) ?_ (by rw [vals_len]; omega); clear F N W; intro h lc b F N W uu hlc; walk_at "mU"))
   | ((with_reducible show wpAny _ _ (newTuple _) _ _ _); (refine st_tup F N W ?_; clear F N W; intro h tt b F N W uu ht; walk_at "mU"))
   | ((with_reducible show wpAny _ _ (compareOp CmpOp.NotEq (Value.int _ _) (Value.int _ _)) _ _ _); (refine c_ne_f (by first | assumption | rfl) ?_))
   | ((with_reducible show wpAny _ _ (eval (Expr.Call (Expr.Name (Str.ofString "_law_whole") _) _ _ _) _) _ _ _); refine e_call1 (kp_law_whole _) (n_law_whole F G ⟨rfl, ?_⟩ (by rfl) (by rfl)))
   | ((with_reducible show wpAny _ _ (eval (Expr.Call (Expr.Name (Str.ofString "min") _) _ _ _) _) _ _ _); refine e_bcall2 (n_min F G ⟨rfl, ?_⟩ (by rfl) (by rfl)))
   | ((with_reducible show wpAny _ _ (call (Value.builtin "min") _) _ _ _); (with_reducible refine k_min R.hd ?_; intro h tk t u; replace F := Fr.up F u; replace N := News.up N u; clear u))
   | ((with_reducible show wpAny _ _ (eval (Expr.Call (Expr.Name (Str.ofString "vpack") _) _ _ _) _) _ _ _); refine e_call1 (kp_vpack _) (n_vpack F G ⟨rfl, ?_⟩ (by rfl) (by rfl)))
   | ((with_reducible show wpAny _ _ (eval (Expr.Call (Expr.Name (Str.ofString "places") _) _ _ _) _) _ _ _); refine e_call1 (kp_places _) (n_places F G ⟨rfl, ?_⟩ (by rfl) (by rfl)))
   | ((with_reducible show wpAny _ _ (eval (Expr.Call (Expr.Name (Str.ofString "_law_told") _) _ _ _) _) _ _ _); refine e_call1 (kp_law_told _) (n_law_told F G ⟨rfl, ?_⟩ (by rfl) (by rfl)))
   | ((with_reducible show wpAny _ _ (eval (Expr.Call (Expr.Name (Str.ofString "_law_run") _) _ _ _) _) _ _ _); refine e_call2 (kp_law_run _) (n_law_run F G ⟨rfl, ?_⟩ (by rfl) (by rfl)))
   | walk_at "mS")
  clear pk4 ht4 hr4 hl4 u4
  refine x_swap (names := [Str.ofString "told", Str.ofString "begins"]) ?_ (by rfl)
  repeat (first
   | ((with_reducible show wpAny _ _ (getAttr (Value.ref _) (Str.ofString "width") _) _ _ _); ((first | refine g_pw (G.x.keeps F.keep) (pk_up pk1 (up_tr u1 (up_base F N W))) ?_ | refine g_pw (G.x.keeps F.keep) (pk_up pk2 (up_tr u2 (up_base F N W))) ?_ | refine g_pw (G.x.keeps F.keep) (pk_up pk3 (up_tr u3 (up_base F N W))) ?_ | refine g_pw (G.x.keeps F.keep) (pk_up pk4 (up_tr u4 (up_base F N W))) ?_ | refine g_pw (G.x.keeps F.keep) (pk_up pk5 (up_tr u5 (up_base F N W))) ?_ | refine g_pw (G.x.keeps F.keep) (pk_up pk6 (up_tr u6 (up_base F N W))) ?_); intro t))
   | ((with_reducible show wpAny _ _ (getAttr (Value.ref _) (Str.ofString "height") _) _ _ _); ((first | refine g_ph (G.x.keeps F.keep) (pk_up pk1 (up_tr u1 (up_base F N W))) ?_ | refine g_ph (G.x.keeps F.keep) (pk_up pk2 (up_tr u2 (up_base F N W))) ?_ | refine g_ph (G.x.keeps F.keep) (pk_up pk3 (up_tr u3 (up_base F N W))) ?_ | refine g_ph (G.x.keeps F.keep) (pk_up pk4 (up_tr u4 (up_base F N W))) ?_ | refine g_ph (G.x.keeps F.keep) (pk_up pk5 (up_tr u5 (up_base F N W))) ?_ | refine g_ph (G.x.keeps F.keep) (pk_up pk6 (up_tr u6 (up_base F N W))) ?_); intro t))
   | ((with_reducible show wpAny _ _ (getAttr (Value.ref _) (Str.ofString "depth") _) _ _ _); ((first | refine g_pd (G.x.keeps F.keep) (pk_up pk1 (up_tr u1 (up_base F N W))) ?_ | refine g_pd (G.x.keeps F.keep) (pk_up pk2 (up_tr u2 (up_base F N W))) ?_ | refine g_pd (G.x.keeps F.keep) (pk_up pk3 (up_tr u3 (up_base F N W))) ?_ | refine g_pd (G.x.keeps F.keep) (pk_up pk4 (up_tr u4 (up_base F N W))) ?_ | refine g_pd (G.x.keeps F.keep) (pk_up pk5 (up_tr u5 (up_base F N W))) ?_ | refine g_pd (G.x.keeps F.keep) (pk_up pk6 (up_tr u6 (up_base F N W))) ?_); intro t))
   | ((with_reducible show wpAny _ _ (getAttr (Value.ref _) (Str.ofString "sign") _) _ _ _); ((first | refine g_ps (G.x.keeps F.keep) (pk_up pk1 (up_tr u1 (up_base F N W))) ?_ | refine g_ps (G.x.keeps F.keep) (pk_up pk2 (up_tr u2 (up_base F N W))) ?_ | refine g_ps (G.x.keeps F.keep) (pk_up pk3 (up_tr u3 (up_base F N W))) ?_ | refine g_ps (G.x.keeps F.keep) (pk_up pk4 (up_tr u4 (up_base F N W))) ?_ | refine g_ps (G.x.keeps F.keep) (pk_up pk5 (up_tr u5 (up_base F N W))) ?_ | refine g_ps (G.x.keeps F.keep) (pk_up pk6 (up_tr u6 (up_base F N W))) ?_); intro t))
   | ((with_reducible show wpAny _ _ (subscriptTail _ _ (Value.ref _) (Value.int 0 _)) _ _ _); (first | refine i_t0 (up_tr u1 (up_base F N W) _ _ ht1) ?_ | refine i_t0 (up_tr u2 (up_base F N W) _ _ ht2) ?_ | refine i_t0 (up_tr u3 (up_base F N W) _ _ ht3) ?_ | refine i_t0 (up_tr u4 (up_base F N W) _ _ ht4) ?_ | refine i_t0 (up_tr u5 (up_base F N W) _ _ ht5) ?_ | refine i_t0 (up_tr u6 (up_base F N W) _ _ ht6) ?_))
   | ((with_reducible show wpAny _ _ (subscriptTail _ _ (Value.ref _) (Value.int 1 _)) _ _ _); (first | refine i_t1 (up_tr u1 (up_base F N W) _ _ ht1) ?_ | refine i_t1 (up_tr u2 (up_base F N W) _ _ ht2) ?_ | refine i_t1 (up_tr u3 (up_base F N W) _ _ ht3) ?_ | refine i_t1 (up_tr u4 (up_base F N W) _ _ ht4) ?_ | refine i_t1 (up_tr u5 (up_base F N W) _ _ ht5) ?_ | refine i_t1 (up_tr u6 (up_base F N W) _ _ ht6) ?_))
   | ((with_reducible show wpAny _ _ (eval (Expr.Call (Expr.Name (Str.ofString "vpack") _) [_, _, _, _] _ _) _) _ _ _); (refine e_call4 (kp_vpack _) (n_vpack F G ⟨rfl, ?_⟩ (by rfl) (by rfl))))
   | ((with_reducible show wpAny _ _ (eval (Expr.Call (Expr.Name (Str.ofString "described") _) [_] _ _) _) _ _ _); (refine e_call1 (kp_described _) (n_described F G ⟨rfl, ?_⟩ (by rfl) (by rfl))))
   | ((with_reducible show wpAny _ _ (eval (Expr.Call (Expr.Name (Str.ofString "list") _) _ _ _) _) _ _ _); (refine e_tcall1 (n_list F G ⟨rfl, ?_⟩ (by rfl) (by rfl))))
   | ((with_reducible show wpAny _ _ (call (Value.type "list") _) _ _ _); (refine st_copy F N W (lst_up hit u0) ?_ (by rw [vals_len]; omega); clear F N W; intro h lc b F N W uu hlc; walk_at "mU"))
   | ((with_reducible show wpAny _ _ (newTuple _) _ _ _); (refine st_tup F N W ?_; clear F N W; intro h tt b F N W uu ht; walk_at "mU"))
   | ((with_reducible show wpAny _ _ (compareOp CmpOp.NotEq (Value.int _ _) (Value.int _ _)) _ _ _); (refine c_ne_f (by first | assumption | rfl) ?_))
   | ((with_reducible show wpAny _ _ (eval (Expr.Call (Expr.Name (Str.ofString "_law_whole") _) _ _ _) _) _ _ _); refine e_call1 (kp_law_whole _) (n_law_whole F G ⟨rfl, ?_⟩ (by rfl) (by rfl)))
   | ((with_reducible show wpAny _ _ (eval (Expr.Call (Expr.Name (Str.ofString "min") _) _ _ _) _) _ _ _); refine e_bcall2 (n_min F G ⟨rfl, ?_⟩ (by rfl) (by rfl)))
   | ((with_reducible show wpAny _ _ (call (Value.builtin "min") _) _ _ _); (with_reducible refine k_min R.hd ?_; intro h tk t u; replace F := Fr.up F u; replace N := News.up N u; clear u))
   | ((with_reducible show wpAny _ _ (eval (Expr.Call (Expr.Name (Str.ofString "vpack") _) _ _ _) _) _ _ _); refine e_call1 (kp_vpack _) (n_vpack F G ⟨rfl, ?_⟩ (by rfl) (by rfl)))
   | ((with_reducible show wpAny _ _ (eval (Expr.Call (Expr.Name (Str.ofString "places") _) _ _ _) _) _ _ _); refine e_call1 (kp_places _) (n_places F G ⟨rfl, ?_⟩ (by rfl) (by rfl)))
   | ((with_reducible show wpAny _ _ (eval (Expr.Call (Expr.Name (Str.ofString "_law_told") _) _ _ _) _) _ _ _); refine e_call1 (kp_law_told _) (n_law_told F G ⟨rfl, ?_⟩ (by rfl) (by rfl)))
   | ((with_reducible show wpAny _ _ (eval (Expr.Call (Expr.Name (Str.ofString "_law_run") _) _ _ _) _) _ _ _); refine e_call2 (kp_law_run _) (n_law_run F G ⟨rfl, ?_⟩ (by rfl) (by rfl)))
   | walk_at "mS")
  refine st_told (R.le (by decide)) G F N W (u3 _ _ ht3) (pk_up pk3 u3) (u3 _ _ hr3) ?_
  clear F N W; intro h tk told b F N W uu hTold
  walk_at "mU"
  have u8 := up_refl b
  repeat (first
   | ((with_reducible show wpAny _ _ (getAttr (Value.ref _) (Str.ofString "width") _) _ _ _); ((first | refine g_pw (G.x.keeps F.keep) (pk_up pk1 (up_tr u1 (up_base F N W))) ?_ | refine g_pw (G.x.keeps F.keep) (pk_up pk2 (up_tr u2 (up_base F N W))) ?_ | refine g_pw (G.x.keeps F.keep) (pk_up pk3 (up_tr u3 (up_base F N W))) ?_ | refine g_pw (G.x.keeps F.keep) (pk_up pk4 (up_tr u4 (up_base F N W))) ?_ | refine g_pw (G.x.keeps F.keep) (pk_up pk5 (up_tr u5 (up_base F N W))) ?_ | refine g_pw (G.x.keeps F.keep) (pk_up pk6 (up_tr u6 (up_base F N W))) ?_); intro t))
   | ((with_reducible show wpAny _ _ (getAttr (Value.ref _) (Str.ofString "height") _) _ _ _); ((first | refine g_ph (G.x.keeps F.keep) (pk_up pk1 (up_tr u1 (up_base F N W))) ?_ | refine g_ph (G.x.keeps F.keep) (pk_up pk2 (up_tr u2 (up_base F N W))) ?_ | refine g_ph (G.x.keeps F.keep) (pk_up pk3 (up_tr u3 (up_base F N W))) ?_ | refine g_ph (G.x.keeps F.keep) (pk_up pk4 (up_tr u4 (up_base F N W))) ?_ | refine g_ph (G.x.keeps F.keep) (pk_up pk5 (up_tr u5 (up_base F N W))) ?_ | refine g_ph (G.x.keeps F.keep) (pk_up pk6 (up_tr u6 (up_base F N W))) ?_); intro t))
   | ((with_reducible show wpAny _ _ (getAttr (Value.ref _) (Str.ofString "depth") _) _ _ _); ((first | refine g_pd (G.x.keeps F.keep) (pk_up pk1 (up_tr u1 (up_base F N W))) ?_ | refine g_pd (G.x.keeps F.keep) (pk_up pk2 (up_tr u2 (up_base F N W))) ?_ | refine g_pd (G.x.keeps F.keep) (pk_up pk3 (up_tr u3 (up_base F N W))) ?_ | refine g_pd (G.x.keeps F.keep) (pk_up pk4 (up_tr u4 (up_base F N W))) ?_ | refine g_pd (G.x.keeps F.keep) (pk_up pk5 (up_tr u5 (up_base F N W))) ?_ | refine g_pd (G.x.keeps F.keep) (pk_up pk6 (up_tr u6 (up_base F N W))) ?_); intro t))
   | ((with_reducible show wpAny _ _ (getAttr (Value.ref _) (Str.ofString "sign") _) _ _ _); ((first | refine g_ps (G.x.keeps F.keep) (pk_up pk1 (up_tr u1 (up_base F N W))) ?_ | refine g_ps (G.x.keeps F.keep) (pk_up pk2 (up_tr u2 (up_base F N W))) ?_ | refine g_ps (G.x.keeps F.keep) (pk_up pk3 (up_tr u3 (up_base F N W))) ?_ | refine g_ps (G.x.keeps F.keep) (pk_up pk4 (up_tr u4 (up_base F N W))) ?_ | refine g_ps (G.x.keeps F.keep) (pk_up pk5 (up_tr u5 (up_base F N W))) ?_ | refine g_ps (G.x.keeps F.keep) (pk_up pk6 (up_tr u6 (up_base F N W))) ?_); intro t))
   | ((with_reducible show wpAny _ _ (subscriptTail _ _ (Value.ref _) (Value.int 0 _)) _ _ _); (first | refine i_t0 (up_tr u1 (up_base F N W) _ _ ht1) ?_ | refine i_t0 (up_tr u2 (up_base F N W) _ _ ht2) ?_ | refine i_t0 (up_tr u3 (up_base F N W) _ _ ht3) ?_ | refine i_t0 (up_tr u4 (up_base F N W) _ _ ht4) ?_ | refine i_t0 (up_tr u5 (up_base F N W) _ _ ht5) ?_ | refine i_t0 (up_tr u6 (up_base F N W) _ _ ht6) ?_))
   | ((with_reducible show wpAny _ _ (subscriptTail _ _ (Value.ref _) (Value.int 1 _)) _ _ _); (first | refine i_t1 (up_tr u1 (up_base F N W) _ _ ht1) ?_ | refine i_t1 (up_tr u2 (up_base F N W) _ _ ht2) ?_ | refine i_t1 (up_tr u3 (up_base F N W) _ _ ht3) ?_ | refine i_t1 (up_tr u4 (up_base F N W) _ _ ht4) ?_ | refine i_t1 (up_tr u5 (up_base F N W) _ _ ht5) ?_ | refine i_t1 (up_tr u6 (up_base F N W) _ _ ht6) ?_))
   | ((with_reducible show wpAny _ _ (eval (Expr.Call (Expr.Name (Str.ofString "vpack") _) [_, _, _, _] _ _) _) _ _ _); (refine e_call4 (kp_vpack _) (n_vpack F G ⟨rfl, ?_⟩ (by rfl) (by rfl))))
   | ((with_reducible show wpAny _ _ (eval (Expr.Call (Expr.Name (Str.ofString "described") _) [_] _ _) _) _ _ _); (refine e_call1 (kp_described _) (n_described F G ⟨rfl, ?_⟩ (by rfl) (by rfl))))
   | ((with_reducible show wpAny _ _ (eval (Expr.Call (Expr.Name (Str.ofString "list") _) _ _ _) _) _ _ _); (refine e_tcall1 (n_list F G ⟨rfl, ?_⟩ (by rfl) (by rfl))))
   | ((with_reducible show wpAny _ _ (call (Value.type "list") _) _ _ _); (refine st_copy F N W (lst_up hit u0) ?_ (by rw [vals_len]; omega); clear F N W; intro h lc b F N W uu hlc; walk_at "mU"))
   | ((with_reducible show wpAny _ _ (newTuple _) _ _ _); (refine st_tup F N W ?_; clear F N W; intro h tt b F N W uu ht; walk_at "mU"))
   | ((with_reducible show wpAny _ _ (compareOp CmpOp.NotEq (Value.int _ _) (Value.int _ _)) _ _ _); (refine c_ne_f (by first | assumption | rfl) ?_))
   | ((with_reducible show wpAny _ _ (eval (Expr.Call (Expr.Name (Str.ofString "_law_whole") _) _ _ _) _) _ _ _); refine e_call1 (kp_law_whole _) (n_law_whole F G ⟨rfl, ?_⟩ (by rfl) (by rfl)))
   | ((with_reducible show wpAny _ _ (eval (Expr.Call (Expr.Name (Str.ofString "min") _) _ _ _) _) _ _ _); refine e_bcall2 (n_min F G ⟨rfl, ?_⟩ (by rfl) (by rfl)))
   | ((with_reducible show wpAny _ _ (call (Value.builtin "min") _) _ _ _); (with_reducible refine k_min R.hd ?_; intro h tk t u; replace F := Fr.up F u; replace N := News.up N u; clear u))
   | ((with_reducible show wpAny _ _ (eval (Expr.Call (Expr.Name (Str.ofString "vpack") _) _ _ _) _) _ _ _); refine e_call1 (kp_vpack _) (n_vpack F G ⟨rfl, ?_⟩ (by rfl) (by rfl)))
   | ((with_reducible show wpAny _ _ (eval (Expr.Call (Expr.Name (Str.ofString "places") _) _ _ _) _) _ _ _); refine e_call1 (kp_places _) (n_places F G ⟨rfl, ?_⟩ (by rfl) (by rfl)))
   | ((with_reducible show wpAny _ _ (eval (Expr.Call (Expr.Name (Str.ofString "_law_told") _) _ _ _) _) _ _ _); refine e_call1 (kp_law_told _) (n_law_told F G ⟨rfl, ?_⟩ (by rfl) (by rfl)))
   | ((with_reducible show wpAny _ _ (eval (Expr.Call (Expr.Name (Str.ofString "_law_run") _) _ _ _) _) _ _ _); refine e_call2 (kp_law_run _) (n_law_run F G ⟨rfl, ?_⟩ (by rfl) (by rfl)))
   | walk_at "mS")
  refine st_places (R.le (by decide)) G F N W (pk_up pk3 u3) hd3 (lst_up hl3 u3) (HD.ns.up u0) (by omega) ?_
  clear F N W; intro h tk begs b F N W uu nbeg hBeg
  walk_at "mU"
  have u9 := up_refl b
  repeat (first
   | ((with_reducible show wpAny _ _ (getAttr (Value.ref _) (Str.ofString "width") _) _ _ _); ((first | refine g_pw (G.x.keeps F.keep) (pk_up pk1 (up_tr u1 (up_base F N W))) ?_ | refine g_pw (G.x.keeps F.keep) (pk_up pk2 (up_tr u2 (up_base F N W))) ?_ | refine g_pw (G.x.keeps F.keep) (pk_up pk3 (up_tr u3 (up_base F N W))) ?_ | refine g_pw (G.x.keeps F.keep) (pk_up pk4 (up_tr u4 (up_base F N W))) ?_ | refine g_pw (G.x.keeps F.keep) (pk_up pk5 (up_tr u5 (up_base F N W))) ?_ | refine g_pw (G.x.keeps F.keep) (pk_up pk6 (up_tr u6 (up_base F N W))) ?_); intro t))
   | ((with_reducible show wpAny _ _ (getAttr (Value.ref _) (Str.ofString "height") _) _ _ _); ((first | refine g_ph (G.x.keeps F.keep) (pk_up pk1 (up_tr u1 (up_base F N W))) ?_ | refine g_ph (G.x.keeps F.keep) (pk_up pk2 (up_tr u2 (up_base F N W))) ?_ | refine g_ph (G.x.keeps F.keep) (pk_up pk3 (up_tr u3 (up_base F N W))) ?_ | refine g_ph (G.x.keeps F.keep) (pk_up pk4 (up_tr u4 (up_base F N W))) ?_ | refine g_ph (G.x.keeps F.keep) (pk_up pk5 (up_tr u5 (up_base F N W))) ?_ | refine g_ph (G.x.keeps F.keep) (pk_up pk6 (up_tr u6 (up_base F N W))) ?_); intro t))
   | ((with_reducible show wpAny _ _ (getAttr (Value.ref _) (Str.ofString "depth") _) _ _ _); ((first | refine g_pd (G.x.keeps F.keep) (pk_up pk1 (up_tr u1 (up_base F N W))) ?_ | refine g_pd (G.x.keeps F.keep) (pk_up pk2 (up_tr u2 (up_base F N W))) ?_ | refine g_pd (G.x.keeps F.keep) (pk_up pk3 (up_tr u3 (up_base F N W))) ?_ | refine g_pd (G.x.keeps F.keep) (pk_up pk4 (up_tr u4 (up_base F N W))) ?_ | refine g_pd (G.x.keeps F.keep) (pk_up pk5 (up_tr u5 (up_base F N W))) ?_ | refine g_pd (G.x.keeps F.keep) (pk_up pk6 (up_tr u6 (up_base F N W))) ?_); intro t))
   | ((with_reducible show wpAny _ _ (getAttr (Value.ref _) (Str.ofString "sign") _) _ _ _); ((first | refine g_ps (G.x.keeps F.keep) (pk_up pk1 (up_tr u1 (up_base F N W))) ?_ | refine g_ps (G.x.keeps F.keep) (pk_up pk2 (up_tr u2 (up_base F N W))) ?_ | refine g_ps (G.x.keeps F.keep) (pk_up pk3 (up_tr u3 (up_base F N W))) ?_ | refine g_ps (G.x.keeps F.keep) (pk_up pk4 (up_tr u4 (up_base F N W))) ?_ | refine g_ps (G.x.keeps F.keep) (pk_up pk5 (up_tr u5 (up_base F N W))) ?_ | refine g_ps (G.x.keeps F.keep) (pk_up pk6 (up_tr u6 (up_base F N W))) ?_); intro t))
   | ((with_reducible show wpAny _ _ (subscriptTail _ _ (Value.ref _) (Value.int 0 _)) _ _ _); (first | refine i_t0 (up_tr u1 (up_base F N W) _ _ ht1) ?_ | refine i_t0 (up_tr u2 (up_base F N W) _ _ ht2) ?_ | refine i_t0 (up_tr u3 (up_base F N W) _ _ ht3) ?_ | refine i_t0 (up_tr u4 (up_base F N W) _ _ ht4) ?_ | refine i_t0 (up_tr u5 (up_base F N W) _ _ ht5) ?_ | refine i_t0 (up_tr u6 (up_base F N W) _ _ ht6) ?_))
   | ((with_reducible show wpAny _ _ (subscriptTail _ _ (Value.ref _) (Value.int 1 _)) _ _ _); (first | refine i_t1 (up_tr u1 (up_base F N W) _ _ ht1) ?_ | refine i_t1 (up_tr u2 (up_base F N W) _ _ ht2) ?_ | refine i_t1 (up_tr u3 (up_base F N W) _ _ ht3) ?_ | refine i_t1 (up_tr u4 (up_base F N W) _ _ ht4) ?_ | refine i_t1 (up_tr u5 (up_base F N W) _ _ ht5) ?_ | refine i_t1 (up_tr u6 (up_base F N W) _ _ ht6) ?_))
   | ((with_reducible show wpAny _ _ (eval (Expr.Call (Expr.Name (Str.ofString "vpack") _) [_, _, _, _] _ _) _) _ _ _); (refine e_call4 (kp_vpack _) (n_vpack F G ⟨rfl, ?_⟩ (by rfl) (by rfl))))
   | ((with_reducible show wpAny _ _ (eval (Expr.Call (Expr.Name (Str.ofString "described") _) [_] _ _) _) _ _ _); (refine e_call1 (kp_described _) (n_described F G ⟨rfl, ?_⟩ (by rfl) (by rfl))))
   | ((with_reducible show wpAny _ _ (eval (Expr.Call (Expr.Name (Str.ofString "list") _) _ _ _) _) _ _ _); (refine e_tcall1 (n_list F G ⟨rfl, ?_⟩ (by rfl) (by rfl))))
   | ((with_reducible show wpAny _ _ (call (Value.type "list") _) _ _ _); (refine st_copy F N W (lst_up hit u0) ?_ (by rw [vals_len]; omega); clear F N W; intro h lc b F N W uu hlc; walk_at "mU"))
   | ((with_reducible show wpAny _ _ (newTuple _) _ _ _); (refine st_tup F N W ?_; clear F N W; intro h tt b F N W uu ht; walk_at "mU"))
   | ((with_reducible show wpAny _ _ (compareOp CmpOp.NotEq (Value.int _ _) (Value.int _ _)) _ _ _); (refine c_ne_f (by first | assumption | rfl) ?_))
   | ((with_reducible show wpAny _ _ (eval (Expr.Call (Expr.Name (Str.ofString "_law_whole") _) _ _ _) _) _ _ _); refine e_call1 (kp_law_whole _) (n_law_whole F G ⟨rfl, ?_⟩ (by rfl) (by rfl)))
   | ((with_reducible show wpAny _ _ (eval (Expr.Call (Expr.Name (Str.ofString "min") _) _ _ _) _) _ _ _); refine e_bcall2 (n_min F G ⟨rfl, ?_⟩ (by rfl) (by rfl)))
   | ((with_reducible show wpAny _ _ (call (Value.builtin "min") _) _ _ _); (with_reducible refine k_min R.hd ?_; intro h tk t u; replace F := Fr.up F u; replace N := News.up N u; clear u))
   | ((with_reducible show wpAny _ _ (eval (Expr.Call (Expr.Name (Str.ofString "vpack") _) _ _ _) _) _ _ _); refine e_call1 (kp_vpack _) (n_vpack F G ⟨rfl, ?_⟩ (by rfl) (by rfl)))
   | ((with_reducible show wpAny _ _ (eval (Expr.Call (Expr.Name (Str.ofString "places") _) _ _ _) _) _ _ _); refine e_call1 (kp_places _) (n_places F G ⟨rfl, ?_⟩ (by rfl) (by rfl)))
   | ((with_reducible show wpAny _ _ (eval (Expr.Call (Expr.Name (Str.ofString "_law_told") _) _ _ _) _) _ _ _); refine e_call1 (kp_law_told _) (n_law_told F G ⟨rfl, ?_⟩ (by rfl) (by rfl)))
   | ((with_reducible show wpAny _ _ (eval (Expr.Call (Expr.Name (Str.ofString "_law_run") _) _ _ _) _) _ _ _); refine e_call2 (kp_law_run _) (n_law_run F G ⟨rfl, ?_⟩ (by rfl) (by rfl)))
   | walk_at "mS")
  refine u_items2 F N R.hd (up_base F N W _ _ ht) (fun h F N => ao2 ?_)
  clear ht
  repeat (first
   | ((with_reducible show wpAny _ _ (getAttr (Value.ref _) (Str.ofString "width") _) _ _ _); ((first | refine g_pw (G.x.keeps F.keep) (pk_up pk1 (up_tr u1 (up_base F N W))) ?_ | refine g_pw (G.x.keeps F.keep) (pk_up pk2 (up_tr u2 (up_base F N W))) ?_ | refine g_pw (G.x.keeps F.keep) (pk_up pk3 (up_tr u3 (up_base F N W))) ?_ | refine g_pw (G.x.keeps F.keep) (pk_up pk4 (up_tr u4 (up_base F N W))) ?_ | refine g_pw (G.x.keeps F.keep) (pk_up pk5 (up_tr u5 (up_base F N W))) ?_ | refine g_pw (G.x.keeps F.keep) (pk_up pk6 (up_tr u6 (up_base F N W))) ?_); intro t))
   | ((with_reducible show wpAny _ _ (getAttr (Value.ref _) (Str.ofString "height") _) _ _ _); ((first | refine g_ph (G.x.keeps F.keep) (pk_up pk1 (up_tr u1 (up_base F N W))) ?_ | refine g_ph (G.x.keeps F.keep) (pk_up pk2 (up_tr u2 (up_base F N W))) ?_ | refine g_ph (G.x.keeps F.keep) (pk_up pk3 (up_tr u3 (up_base F N W))) ?_ | refine g_ph (G.x.keeps F.keep) (pk_up pk4 (up_tr u4 (up_base F N W))) ?_ | refine g_ph (G.x.keeps F.keep) (pk_up pk5 (up_tr u5 (up_base F N W))) ?_ | refine g_ph (G.x.keeps F.keep) (pk_up pk6 (up_tr u6 (up_base F N W))) ?_); intro t))
   | ((with_reducible show wpAny _ _ (getAttr (Value.ref _) (Str.ofString "depth") _) _ _ _); ((first | refine g_pd (G.x.keeps F.keep) (pk_up pk1 (up_tr u1 (up_base F N W))) ?_ | refine g_pd (G.x.keeps F.keep) (pk_up pk2 (up_tr u2 (up_base F N W))) ?_ | refine g_pd (G.x.keeps F.keep) (pk_up pk3 (up_tr u3 (up_base F N W))) ?_ | refine g_pd (G.x.keeps F.keep) (pk_up pk4 (up_tr u4 (up_base F N W))) ?_ | refine g_pd (G.x.keeps F.keep) (pk_up pk5 (up_tr u5 (up_base F N W))) ?_ | refine g_pd (G.x.keeps F.keep) (pk_up pk6 (up_tr u6 (up_base F N W))) ?_); intro t))
   | ((with_reducible show wpAny _ _ (getAttr (Value.ref _) (Str.ofString "sign") _) _ _ _); ((first | refine g_ps (G.x.keeps F.keep) (pk_up pk1 (up_tr u1 (up_base F N W))) ?_ | refine g_ps (G.x.keeps F.keep) (pk_up pk2 (up_tr u2 (up_base F N W))) ?_ | refine g_ps (G.x.keeps F.keep) (pk_up pk3 (up_tr u3 (up_base F N W))) ?_ | refine g_ps (G.x.keeps F.keep) (pk_up pk4 (up_tr u4 (up_base F N W))) ?_ | refine g_ps (G.x.keeps F.keep) (pk_up pk5 (up_tr u5 (up_base F N W))) ?_ | refine g_ps (G.x.keeps F.keep) (pk_up pk6 (up_tr u6 (up_base F N W))) ?_); intro t))
   | ((with_reducible show wpAny _ _ (subscriptTail _ _ (Value.ref _) (Value.int 0 _)) _ _ _); (first | refine i_t0 (up_tr u1 (up_base F N W) _ _ ht1) ?_ | refine i_t0 (up_tr u2 (up_base F N W) _ _ ht2) ?_ | refine i_t0 (up_tr u3 (up_base F N W) _ _ ht3) ?_ | refine i_t0 (up_tr u4 (up_base F N W) _ _ ht4) ?_ | refine i_t0 (up_tr u5 (up_base F N W) _ _ ht5) ?_ | refine i_t0 (up_tr u6 (up_base F N W) _ _ ht6) ?_))
   | ((with_reducible show wpAny _ _ (subscriptTail _ _ (Value.ref _) (Value.int 1 _)) _ _ _); (first | refine i_t1 (up_tr u1 (up_base F N W) _ _ ht1) ?_ | refine i_t1 (up_tr u2 (up_base F N W) _ _ ht2) ?_ | refine i_t1 (up_tr u3 (up_base F N W) _ _ ht3) ?_ | refine i_t1 (up_tr u4 (up_base F N W) _ _ ht4) ?_ | refine i_t1 (up_tr u5 (up_base F N W) _ _ ht5) ?_ | refine i_t1 (up_tr u6 (up_base F N W) _ _ ht6) ?_))
   | ((with_reducible show wpAny _ _ (eval (Expr.Call (Expr.Name (Str.ofString "vpack") _) [_, _, _, _] _ _) _) _ _ _); (refine e_call4 (kp_vpack _) (n_vpack F G ⟨rfl, ?_⟩ (by rfl) (by rfl))))
   | ((with_reducible show wpAny _ _ (eval (Expr.Call (Expr.Name (Str.ofString "described") _) [_] _ _) _) _ _ _); (refine e_call1 (kp_described _) (n_described F G ⟨rfl, ?_⟩ (by rfl) (by rfl))))
   | ((with_reducible show wpAny _ _ (eval (Expr.Call (Expr.Name (Str.ofString "list") _) _ _ _) _) _ _ _); (refine e_tcall1 (n_list F G ⟨rfl, ?_⟩ (by rfl) (by rfl))))
   | ((with_reducible show wpAny _ _ (call (Value.type "list") _) _ _ _); (refine st_copy F N W (lst_up hit u0) ?_ (by rw [vals_len]; omega); clear F N W; intro h lc b F N W uu hlc; walk_at "mU"))
   | ((with_reducible show wpAny _ _ (newTuple _) _ _ _); (refine st_tup F N W ?_; clear F N W; intro h tt b F N W uu ht; walk_at "mU"))
   | ((with_reducible show wpAny _ _ (compareOp CmpOp.NotEq (Value.int _ _) (Value.int _ _)) _ _ _); (refine c_ne_f (by first | assumption | rfl) ?_))
   | ((with_reducible show wpAny _ _ (eval (Expr.Call (Expr.Name (Str.ofString "_law_whole") _) _ _ _) _) _ _ _); refine e_call1 (kp_law_whole _) (n_law_whole F G ⟨rfl, ?_⟩ (by rfl) (by rfl)))
   | ((with_reducible show wpAny _ _ (eval (Expr.Call (Expr.Name (Str.ofString "min") _) _ _ _) _) _ _ _); refine e_bcall2 (n_min F G ⟨rfl, ?_⟩ (by rfl) (by rfl)))
   | ((with_reducible show wpAny _ _ (call (Value.builtin "min") _) _ _ _); (with_reducible refine k_min R.hd ?_; intro h tk t u; replace F := Fr.up F u; replace N := News.up N u; clear u))
   | ((with_reducible show wpAny _ _ (eval (Expr.Call (Expr.Name (Str.ofString "vpack") _) _ _ _) _) _ _ _); refine e_call1 (kp_vpack _) (n_vpack F G ⟨rfl, ?_⟩ (by rfl) (by rfl)))
   | ((with_reducible show wpAny _ _ (eval (Expr.Call (Expr.Name (Str.ofString "places") _) _ _ _) _) _ _ _); refine e_call1 (kp_places _) (n_places F G ⟨rfl, ?_⟩ (by rfl) (by rfl)))
   | ((with_reducible show wpAny _ _ (eval (Expr.Call (Expr.Name (Str.ofString "_law_told") _) _ _ _) _) _ _ _); refine e_call1 (kp_law_told _) (n_law_told F G ⟨rfl, ?_⟩ (by rfl) (by rfl)))
   | ((with_reducible show wpAny _ _ (eval (Expr.Call (Expr.Name (Str.ofString "_law_run") _) _ _ _) _) _ _ _); refine e_call2 (kp_law_run _) (n_law_run F G ⟨rfl, ?_⟩ (by rfl) (by rfl)))
   | walk_at "mS")
  obtain ⟨V5, eE5, eH5⟩ := cP.vp (mode := 1) (amount := gap) (most := other) (.inr rfl) hother hgap (.inl ⟨rfl, rfl⟩)
  refine st_vpack (ps := ps) (R.le (by decide)) G F N W hlc (HD.ns.up u0) V5 (.inl rfl) ?_
  clear F N W; intro h tk t5 x5 rp5 ta5 tb5 s5 o5 v5 d5 r5 rb5 b F N W uu ht5 pk5 hr5 es5
  have hl5 := lst_up hlc uu
  walk_at "mU"
  have u5 := up_refl b
  clear hlc
  have e53 : vpS ps 1 gap other = vpS ps mode am most := by unfold vpS; rw [eE3, eE5]
  rw [e53, ← es3] at es5
  obtain ⟨w1, w2, w3, w4, w5, w6⟩ : s5 = s3 ∧ o5 = o3 ∧ v5 = v3 ∧ d5 = d3 ∧ r5 = r3 ∧ rb5 = rb3 := by injection es5 with a1 a2 a3 a4 a5 a6; exact ⟨a1, a2, a3, a4, a5, a6⟩
  subst s5 o5 v5 d5 r5 rb5
  clear es5 e53
  have E8 : vpH ps 1 gap other + vpD ps other = vpH ps 1 0 1073741823 + vpD ps 1073741823 + gap := by rw [E1, eH5, ← sP other]; omega
  have E9 : vpD ps other = if other < vpD ps 1073741823 then other else vpD ps 1073741823 := by rw [D0]; rfl
  repeat (first
   | ((with_reducible show wpAny _ _ (assign (Expr.Tuple _ _ _) _ (Value.ref _)) _ _ _); (refine as_tup R.hd (up_tr u5 (up_base F N W) _ _ ht5) (by rfl) (by rfl) (fun h u => ?_); replace F := Fr.up F u; replace N := News.up N u; clear u))
   | ((with_reducible show wpAny _ _ (compareOp CmpOp.NotEq (Value.ref _) (Value.ref _)) _ _ _); (refine rd_ne (rep_rd (up_tr u5 (up_base F N W) _ _ hr5)) (rep_rd (up_tr u3 (up_base F N W) _ _ hr3)) (by have := R.un; omega) ?_))
   | ((with_reducible show wpAny _ _ (getAttr (Value.ref _) (Str.ofString "width") _) _ _ _); ((first | refine g_pw (G.x.keeps F.keep) (pk_up pk1 (up_tr u1 (up_base F N W))) ?_ | refine g_pw (G.x.keeps F.keep) (pk_up pk2 (up_tr u2 (up_base F N W))) ?_ | refine g_pw (G.x.keeps F.keep) (pk_up pk3 (up_tr u3 (up_base F N W))) ?_ | refine g_pw (G.x.keeps F.keep) (pk_up pk4 (up_tr u4 (up_base F N W))) ?_ | refine g_pw (G.x.keeps F.keep) (pk_up pk5 (up_tr u5 (up_base F N W))) ?_ | refine g_pw (G.x.keeps F.keep) (pk_up pk6 (up_tr u6 (up_base F N W))) ?_); intro t))
   | ((with_reducible show wpAny _ _ (getAttr (Value.ref _) (Str.ofString "height") _) _ _ _); ((first | refine g_ph (G.x.keeps F.keep) (pk_up pk1 (up_tr u1 (up_base F N W))) ?_ | refine g_ph (G.x.keeps F.keep) (pk_up pk2 (up_tr u2 (up_base F N W))) ?_ | refine g_ph (G.x.keeps F.keep) (pk_up pk3 (up_tr u3 (up_base F N W))) ?_ | refine g_ph (G.x.keeps F.keep) (pk_up pk4 (up_tr u4 (up_base F N W))) ?_ | refine g_ph (G.x.keeps F.keep) (pk_up pk5 (up_tr u5 (up_base F N W))) ?_ | refine g_ph (G.x.keeps F.keep) (pk_up pk6 (up_tr u6 (up_base F N W))) ?_); intro t))
   | ((with_reducible show wpAny _ _ (getAttr (Value.ref _) (Str.ofString "depth") _) _ _ _); ((first | refine g_pd (G.x.keeps F.keep) (pk_up pk1 (up_tr u1 (up_base F N W))) ?_ | refine g_pd (G.x.keeps F.keep) (pk_up pk2 (up_tr u2 (up_base F N W))) ?_ | refine g_pd (G.x.keeps F.keep) (pk_up pk3 (up_tr u3 (up_base F N W))) ?_ | refine g_pd (G.x.keeps F.keep) (pk_up pk4 (up_tr u4 (up_base F N W))) ?_ | refine g_pd (G.x.keeps F.keep) (pk_up pk5 (up_tr u5 (up_base F N W))) ?_ | refine g_pd (G.x.keeps F.keep) (pk_up pk6 (up_tr u6 (up_base F N W))) ?_); intro t))
   | ((with_reducible show wpAny _ _ (getAttr (Value.ref _) (Str.ofString "sign") _) _ _ _); ((first | refine g_ps (G.x.keeps F.keep) (pk_up pk1 (up_tr u1 (up_base F N W))) ?_ | refine g_ps (G.x.keeps F.keep) (pk_up pk2 (up_tr u2 (up_base F N W))) ?_ | refine g_ps (G.x.keeps F.keep) (pk_up pk3 (up_tr u3 (up_base F N W))) ?_ | refine g_ps (G.x.keeps F.keep) (pk_up pk4 (up_tr u4 (up_base F N W))) ?_ | refine g_ps (G.x.keeps F.keep) (pk_up pk5 (up_tr u5 (up_base F N W))) ?_ | refine g_ps (G.x.keeps F.keep) (pk_up pk6 (up_tr u6 (up_base F N W))) ?_); intro t))
   | ((with_reducible show wpAny _ _ (subscriptTail _ _ (Value.ref _) (Value.int 0 _)) _ _ _); (first | refine i_t0 (up_tr u1 (up_base F N W) _ _ ht1) ?_ | refine i_t0 (up_tr u2 (up_base F N W) _ _ ht2) ?_ | refine i_t0 (up_tr u3 (up_base F N W) _ _ ht3) ?_ | refine i_t0 (up_tr u4 (up_base F N W) _ _ ht4) ?_ | refine i_t0 (up_tr u5 (up_base F N W) _ _ ht5) ?_ | refine i_t0 (up_tr u6 (up_base F N W) _ _ ht6) ?_))
   | ((with_reducible show wpAny _ _ (subscriptTail _ _ (Value.ref _) (Value.int 1 _)) _ _ _); (first | refine i_t1 (up_tr u1 (up_base F N W) _ _ ht1) ?_ | refine i_t1 (up_tr u2 (up_base F N W) _ _ ht2) ?_ | refine i_t1 (up_tr u3 (up_base F N W) _ _ ht3) ?_ | refine i_t1 (up_tr u4 (up_base F N W) _ _ ht4) ?_ | refine i_t1 (up_tr u5 (up_base F N W) _ _ ht5) ?_ | refine i_t1 (up_tr u6 (up_base F N W) _ _ ht6) ?_))
   | ((with_reducible show wpAny _ _ (eval (Expr.Call (Expr.Name (Str.ofString "vpack") _) [_, _, _, _] _ _) _) _ _ _); (refine e_call4 (kp_vpack _) (n_vpack F G ⟨rfl, ?_⟩ (by rfl) (by rfl))))
   | ((with_reducible show wpAny _ _ (eval (Expr.Call (Expr.Name (Str.ofString "described") _) [_] _ _) _) _ _ _); (refine e_call1 (kp_described _) (n_described F G ⟨rfl, ?_⟩ (by rfl) (by rfl))))
   | ((with_reducible show wpAny _ _ (eval (Expr.Call (Expr.Name (Str.ofString "list") _) _ _ _) _) _ _ _); (refine e_tcall1 (n_list F G ⟨rfl, ?_⟩ (by rfl) (by rfl))))
   | ((with_reducible show wpAny _ _ (call (Value.type "list") _) _ _ _); (refine st_copy F N W (lst_up hit u0) ?_ (by rw [vals_len]; omega); clear F N W; intro h lc b F N W uu hlc; walk_at "mU"))
   | ((with_reducible show wpAny _ _ (newTuple _) _ _ _); (refine st_tup F N W ?_; clear F N W; intro h tt b F N W uu ht; walk_at "mU"))
   | ((with_reducible show wpAny _ _ (compareOp CmpOp.NotEq (Value.int _ _) (Value.int _ _)) _ _ _); (refine c_ne_f (by first | assumption | rfl) ?_))
   | ((with_reducible show wpAny _ _ (eval (Expr.Call (Expr.Name (Str.ofString "_law_whole") _) _ _ _) _) _ _ _); refine e_call1 (kp_law_whole _) (n_law_whole F G ⟨rfl, ?_⟩ (by rfl) (by rfl)))
   | ((with_reducible show wpAny _ _ (eval (Expr.Call (Expr.Name (Str.ofString "min") _) _ _ _) _) _ _ _); refine e_bcall2 (n_min F G ⟨rfl, ?_⟩ (by rfl) (by rfl)))
   | ((with_reducible show wpAny _ _ (call (Value.builtin "min") _) _ _ _); (with_reducible refine k_min R.hd ?_; intro h tk t u; replace F := Fr.up F u; replace N := News.up N u; clear u))
   | ((with_reducible show wpAny _ _ (eval (Expr.Call (Expr.Name (Str.ofString "vpack") _) _ _ _) _) _ _ _); refine e_call1 (kp_vpack _) (n_vpack F G ⟨rfl, ?_⟩ (by rfl) (by rfl)))
   | ((with_reducible show wpAny _ _ (eval (Expr.Call (Expr.Name (Str.ofString "places") _) _ _ _) _) _ _ _); refine e_call1 (kp_places _) (n_places F G ⟨rfl, ?_⟩ (by rfl) (by rfl)))
   | ((with_reducible show wpAny _ _ (eval (Expr.Call (Expr.Name (Str.ofString "_law_told") _) _ _ _) _) _ _ _); refine e_call1 (kp_law_told _) (n_law_told F G ⟨rfl, ?_⟩ (by rfl) (by rfl)))
   | ((with_reducible show wpAny _ _ (eval (Expr.Call (Expr.Name (Str.ofString "_law_run") _) _ _ _) _) _ _ _); refine e_call2 (kp_law_run _) (n_law_run F G ⟨rfl, ?_⟩ (by rfl) (by rfl)))
   | walk_at "mS")
  refine st_places (R.le (by decide)) G F N W (pk_up pk5 u5) hd3 (lst_up hl5 u5) (HD.ns.up u0) (by omega) ?_
  clear F N W; intro h tk pl5 b F N W uu npl hB5
  walk_at "mU"
  repeat (first
   | ((with_reducible show wpAny _ _ (getAttr (Value.ref _) (Str.ofString "width") _) _ _ _); ((first | refine g_pw (G.x.keeps F.keep) (pk_up pk1 (up_tr u1 (up_base F N W))) ?_ | refine g_pw (G.x.keeps F.keep) (pk_up pk2 (up_tr u2 (up_base F N W))) ?_ | refine g_pw (G.x.keeps F.keep) (pk_up pk3 (up_tr u3 (up_base F N W))) ?_ | refine g_pw (G.x.keeps F.keep) (pk_up pk4 (up_tr u4 (up_base F N W))) ?_ | refine g_pw (G.x.keeps F.keep) (pk_up pk5 (up_tr u5 (up_base F N W))) ?_ | refine g_pw (G.x.keeps F.keep) (pk_up pk6 (up_tr u6 (up_base F N W))) ?_); intro t))
   | ((with_reducible show wpAny _ _ (getAttr (Value.ref _) (Str.ofString "height") _) _ _ _); ((first | refine g_ph (G.x.keeps F.keep) (pk_up pk1 (up_tr u1 (up_base F N W))) ?_ | refine g_ph (G.x.keeps F.keep) (pk_up pk2 (up_tr u2 (up_base F N W))) ?_ | refine g_ph (G.x.keeps F.keep) (pk_up pk3 (up_tr u3 (up_base F N W))) ?_ | refine g_ph (G.x.keeps F.keep) (pk_up pk4 (up_tr u4 (up_base F N W))) ?_ | refine g_ph (G.x.keeps F.keep) (pk_up pk5 (up_tr u5 (up_base F N W))) ?_ | refine g_ph (G.x.keeps F.keep) (pk_up pk6 (up_tr u6 (up_base F N W))) ?_); intro t))
   | ((with_reducible show wpAny _ _ (getAttr (Value.ref _) (Str.ofString "depth") _) _ _ _); ((first | refine g_pd (G.x.keeps F.keep) (pk_up pk1 (up_tr u1 (up_base F N W))) ?_ | refine g_pd (G.x.keeps F.keep) (pk_up pk2 (up_tr u2 (up_base F N W))) ?_ | refine g_pd (G.x.keeps F.keep) (pk_up pk3 (up_tr u3 (up_base F N W))) ?_ | refine g_pd (G.x.keeps F.keep) (pk_up pk4 (up_tr u4 (up_base F N W))) ?_ | refine g_pd (G.x.keeps F.keep) (pk_up pk5 (up_tr u5 (up_base F N W))) ?_ | refine g_pd (G.x.keeps F.keep) (pk_up pk6 (up_tr u6 (up_base F N W))) ?_); intro t))
   | ((with_reducible show wpAny _ _ (getAttr (Value.ref _) (Str.ofString "sign") _) _ _ _); ((first | refine g_ps (G.x.keeps F.keep) (pk_up pk1 (up_tr u1 (up_base F N W))) ?_ | refine g_ps (G.x.keeps F.keep) (pk_up pk2 (up_tr u2 (up_base F N W))) ?_ | refine g_ps (G.x.keeps F.keep) (pk_up pk3 (up_tr u3 (up_base F N W))) ?_ | refine g_ps (G.x.keeps F.keep) (pk_up pk4 (up_tr u4 (up_base F N W))) ?_ | refine g_ps (G.x.keeps F.keep) (pk_up pk5 (up_tr u5 (up_base F N W))) ?_ | refine g_ps (G.x.keeps F.keep) (pk_up pk6 (up_tr u6 (up_base F N W))) ?_); intro t))
   | ((with_reducible show wpAny _ _ (subscriptTail _ _ (Value.ref _) (Value.int 0 _)) _ _ _); (first | refine i_t0 (up_tr u1 (up_base F N W) _ _ ht1) ?_ | refine i_t0 (up_tr u2 (up_base F N W) _ _ ht2) ?_ | refine i_t0 (up_tr u3 (up_base F N W) _ _ ht3) ?_ | refine i_t0 (up_tr u4 (up_base F N W) _ _ ht4) ?_ | refine i_t0 (up_tr u5 (up_base F N W) _ _ ht5) ?_ | refine i_t0 (up_tr u6 (up_base F N W) _ _ ht6) ?_))
   | ((with_reducible show wpAny _ _ (subscriptTail _ _ (Value.ref _) (Value.int 1 _)) _ _ _); (first | refine i_t1 (up_tr u1 (up_base F N W) _ _ ht1) ?_ | refine i_t1 (up_tr u2 (up_base F N W) _ _ ht2) ?_ | refine i_t1 (up_tr u3 (up_base F N W) _ _ ht3) ?_ | refine i_t1 (up_tr u4 (up_base F N W) _ _ ht4) ?_ | refine i_t1 (up_tr u5 (up_base F N W) _ _ ht5) ?_ | refine i_t1 (up_tr u6 (up_base F N W) _ _ ht6) ?_))
   | ((with_reducible show wpAny _ _ (eval (Expr.Call (Expr.Name (Str.ofString "vpack") _) [_, _, _, _] _ _) _) _ _ _); (refine e_call4 (kp_vpack _) (n_vpack F G ⟨rfl, ?_⟩ (by rfl) (by rfl))))
   | ((with_reducible show wpAny _ _ (eval (Expr.Call (Expr.Name (Str.ofString "described") _) [_] _ _) _) _ _ _); (refine e_call1 (kp_described _) (n_described F G ⟨rfl, ?_⟩ (by rfl) (by rfl))))
   | ((with_reducible show wpAny _ _ (eval (Expr.Call (Expr.Name (Str.ofString "list") _) _ _ _) _) _ _ _); (refine e_tcall1 (n_list F G ⟨rfl, ?_⟩ (by rfl) (by rfl))))
   | ((with_reducible show wpAny _ _ (call (Value.type "list") _) _ _ _); (refine st_copy F N W (lst_up hit u0) ?_ (by rw [vals_len]; omega); clear F N W; intro h lc b F N W uu hlc; walk_at "mU"))
   | ((with_reducible show wpAny _ _ (newTuple _) _ _ _); (refine st_tup F N W ?_; clear F N W; intro h tt b F N W uu ht; walk_at "mU"))
   | ((with_reducible show wpAny _ _ (compareOp CmpOp.NotEq (Value.int _ _) (Value.int _ _)) _ _ _); (refine c_ne_f (by first | assumption | rfl) ?_))
   | ((with_reducible show wpAny _ _ (eval (Expr.Call (Expr.Name (Str.ofString "_law_whole") _) _ _ _) _) _ _ _); refine e_call1 (kp_law_whole _) (n_law_whole F G ⟨rfl, ?_⟩ (by rfl) (by rfl)))
   | ((with_reducible show wpAny _ _ (eval (Expr.Call (Expr.Name (Str.ofString "min") _) _ _ _) _) _ _ _); refine e_bcall2 (n_min F G ⟨rfl, ?_⟩ (by rfl) (by rfl)))
   | ((with_reducible show wpAny _ _ (call (Value.builtin "min") _) _ _ _); (with_reducible refine k_min R.hd ?_; intro h tk t u; replace F := Fr.up F u; replace N := News.up N u; clear u))
   | ((with_reducible show wpAny _ _ (eval (Expr.Call (Expr.Name (Str.ofString "vpack") _) _ _ _) _) _ _ _); refine e_call1 (kp_vpack _) (n_vpack F G ⟨rfl, ?_⟩ (by rfl) (by rfl)))
   | ((with_reducible show wpAny _ _ (eval (Expr.Call (Expr.Name (Str.ofString "places") _) _ _ _) _) _ _ _); refine e_call1 (kp_places _) (n_places F G ⟨rfl, ?_⟩ (by rfl) (by rfl)))
   | ((with_reducible show wpAny _ _ (eval (Expr.Call (Expr.Name (Str.ofString "_law_told") _) _ _ _) _) _ _ _); refine e_call1 (kp_law_told _) (n_law_told F G ⟨rfl, ?_⟩ (by rfl) (by rfl)))
   | ((with_reducible show wpAny _ _ (eval (Expr.Call (Expr.Name (Str.ofString "_law_run") _) _ _ _) _) _ _ _); refine e_call2 (kp_law_run _) (n_law_run F G ⟨rfl, ?_⟩ (by rfl) (by rfl)))
   | walk_at "mS")
  refine il_ne (hB5.up (up_base F N W)) (hBeg.up (up_tr u9 (up_base F N W))) R.ult ?_
  clear hB5
  repeat (first
   | ((with_reducible show wpAny _ _ (subscriptTail _ _ (Value.ref _) (Value.ref _)) _ _ _); (refine st_rev F N W (lst_up hit u0) ?_ (by rw [vals_len]; omega); clear F N W; intro h lc b F N W uu hlc; walk_at "mU"))
   | ((with_reducible show wpAny _ _ (getAttr (Value.ref _) (Str.ofString "width") _) _ _ _); ((first | refine g_pw (G.x.keeps F.keep) (pk_up pk1 (up_tr u1 (up_base F N W))) ?_ | refine g_pw (G.x.keeps F.keep) (pk_up pk2 (up_tr u2 (up_base F N W))) ?_ | refine g_pw (G.x.keeps F.keep) (pk_up pk3 (up_tr u3 (up_base F N W))) ?_ | refine g_pw (G.x.keeps F.keep) (pk_up pk4 (up_tr u4 (up_base F N W))) ?_ | refine g_pw (G.x.keeps F.keep) (pk_up pk5 (up_tr u5 (up_base F N W))) ?_ | refine g_pw (G.x.keeps F.keep) (pk_up pk6 (up_tr u6 (up_base F N W))) ?_); intro t))
   | ((with_reducible show wpAny _ _ (getAttr (Value.ref _) (Str.ofString "height") _) _ _ _); ((first | refine g_ph (G.x.keeps F.keep) (pk_up pk1 (up_tr u1 (up_base F N W))) ?_ | refine g_ph (G.x.keeps F.keep) (pk_up pk2 (up_tr u2 (up_base F N W))) ?_ | refine g_ph (G.x.keeps F.keep) (pk_up pk3 (up_tr u3 (up_base F N W))) ?_ | refine g_ph (G.x.keeps F.keep) (pk_up pk4 (up_tr u4 (up_base F N W))) ?_ | refine g_ph (G.x.keeps F.keep) (pk_up pk5 (up_tr u5 (up_base F N W))) ?_ | refine g_ph (G.x.keeps F.keep) (pk_up pk6 (up_tr u6 (up_base F N W))) ?_); intro t))
   | ((with_reducible show wpAny _ _ (getAttr (Value.ref _) (Str.ofString "depth") _) _ _ _); ((first | refine g_pd (G.x.keeps F.keep) (pk_up pk1 (up_tr u1 (up_base F N W))) ?_ | refine g_pd (G.x.keeps F.keep) (pk_up pk2 (up_tr u2 (up_base F N W))) ?_ | refine g_pd (G.x.keeps F.keep) (pk_up pk3 (up_tr u3 (up_base F N W))) ?_ | refine g_pd (G.x.keeps F.keep) (pk_up pk4 (up_tr u4 (up_base F N W))) ?_ | refine g_pd (G.x.keeps F.keep) (pk_up pk5 (up_tr u5 (up_base F N W))) ?_ | refine g_pd (G.x.keeps F.keep) (pk_up pk6 (up_tr u6 (up_base F N W))) ?_); intro t))
   | ((with_reducible show wpAny _ _ (getAttr (Value.ref _) (Str.ofString "sign") _) _ _ _); ((first | refine g_ps (G.x.keeps F.keep) (pk_up pk1 (up_tr u1 (up_base F N W))) ?_ | refine g_ps (G.x.keeps F.keep) (pk_up pk2 (up_tr u2 (up_base F N W))) ?_ | refine g_ps (G.x.keeps F.keep) (pk_up pk3 (up_tr u3 (up_base F N W))) ?_ | refine g_ps (G.x.keeps F.keep) (pk_up pk4 (up_tr u4 (up_base F N W))) ?_ | refine g_ps (G.x.keeps F.keep) (pk_up pk5 (up_tr u5 (up_base F N W))) ?_ | refine g_ps (G.x.keeps F.keep) (pk_up pk6 (up_tr u6 (up_base F N W))) ?_); intro t))
   | ((with_reducible show wpAny _ _ (subscriptTail _ _ (Value.ref _) (Value.int 0 _)) _ _ _); (first | refine i_t0 (up_tr u1 (up_base F N W) _ _ ht1) ?_ | refine i_t0 (up_tr u2 (up_base F N W) _ _ ht2) ?_ | refine i_t0 (up_tr u3 (up_base F N W) _ _ ht3) ?_ | refine i_t0 (up_tr u4 (up_base F N W) _ _ ht4) ?_ | refine i_t0 (up_tr u5 (up_base F N W) _ _ ht5) ?_ | refine i_t0 (up_tr u6 (up_base F N W) _ _ ht6) ?_))
   | ((with_reducible show wpAny _ _ (subscriptTail _ _ (Value.ref _) (Value.int 1 _)) _ _ _); (first | refine i_t1 (up_tr u1 (up_base F N W) _ _ ht1) ?_ | refine i_t1 (up_tr u2 (up_base F N W) _ _ ht2) ?_ | refine i_t1 (up_tr u3 (up_base F N W) _ _ ht3) ?_ | refine i_t1 (up_tr u4 (up_base F N W) _ _ ht4) ?_ | refine i_t1 (up_tr u5 (up_base F N W) _ _ ht5) ?_ | refine i_t1 (up_tr u6 (up_base F N W) _ _ ht6) ?_))
   | ((with_reducible show wpAny _ _ (eval (Expr.Call (Expr.Name (Str.ofString "vpack") _) [_, _, _, _] _ _) _) _ _ _); (refine e_call4 (kp_vpack _) (n_vpack F G ⟨rfl, ?_⟩ (by rfl) (by rfl))))
   | ((with_reducible show wpAny _ _ (eval (Expr.Call (Expr.Name (Str.ofString "described") _) [_] _ _) _) _ _ _); (refine e_call1 (kp_described _) (n_described F G ⟨rfl, ?_⟩ (by rfl) (by rfl))))
   | ((with_reducible show wpAny _ _ (eval (Expr.Call (Expr.Name (Str.ofString "list") _) _ _ _) _) _ _ _); (refine e_tcall1 (n_list F G ⟨rfl, ?_⟩ (by rfl) (by rfl))))
   | ((with_reducible show wpAny _ _ (call (Value.type "list") _) _ _ _); (refine st_copy F N W (lst_up hit u0) ?_ (by rw [vals_len]; omega); clear F N W; intro h lc b F N W uu hlc; walk_at "mU"))
   | ((with_reducible show wpAny _ _ (newTuple _) _ _ _); (refine st_tup F N W ?_; clear F N W; intro h tt b F N W uu ht; walk_at "mU"))
   | ((with_reducible show wpAny _ _ (compareOp CmpOp.NotEq (Value.int _ _) (Value.int _ _)) _ _ _); (refine c_ne_f (by first | assumption | rfl) ?_))
   | ((with_reducible show wpAny _ _ (eval (Expr.Call (Expr.Name (Str.ofString "_law_whole") _) _ _ _) _) _ _ _); refine e_call1 (kp_law_whole _) (n_law_whole F G ⟨rfl, ?_⟩ (by rfl) (by rfl)))
   | ((with_reducible show wpAny _ _ (eval (Expr.Call (Expr.Name (Str.ofString "min") _) _ _ _) _) _ _ _); refine e_bcall2 (n_min F G ⟨rfl, ?_⟩ (by rfl) (by rfl)))
   | ((with_reducible show wpAny _ _ (call (Value.builtin "min") _) _ _ _); (with_reducible refine k_min R.hd ?_; intro h tk t u; replace F := Fr.up F u; replace N := News.up N u; clear u))
   | ((with_reducible show wpAny _ _ (eval (Expr.Call (Expr.Name (Str.ofString "vpack") _) _ _ _) _) _ _ _); refine e_call1 (kp_vpack _) (n_vpack F G ⟨rfl, ?_⟩ (by rfl) (by rfl)))
   | ((with_reducible show wpAny _ _ (eval (Expr.Call (Expr.Name (Str.ofString "places") _) _ _ _) _) _ _ _); refine e_call1 (kp_places _) (n_places F G ⟨rfl, ?_⟩ (by rfl) (by rfl)))
   | ((with_reducible show wpAny _ _ (eval (Expr.Call (Expr.Name (Str.ofString "_law_told") _) _ _ _) _) _ _ _); refine e_call1 (kp_law_told _) (n_law_told F G ⟨rfl, ?_⟩ (by rfl) (by rfl)))
   | ((with_reducible show wpAny _ _ (eval (Expr.Call (Expr.Name (Str.ofString "_law_run") _) _ _ _) _) _ _ _); refine e_call2 (kp_law_run _) (n_law_run F G ⟨rfl, ?_⟩ (by rfl) (by rfl)))
   | walk_at "mS")
  have hlc : b.IsList lc (vals ps.reverse).toArray := by
    have e : vals ps.reverse = (vals ps).reverse := by simp [vals]
    rw [e]; exact hlc
  have cR : CB ps.reverse := CB.of (by simpa using hne) (by rw [List.length_reverse]; omega) (fun q hq => hbd q (List.mem_reverse.mp hq))
  obtain ⟨V6, eE6, eH6⟩ := cR.vp (mode := 1) (amount := gap) (most := other) (.inr rfl) hother hgap (.inl ⟨rfl, rfl⟩)
  refine st_vpack (ps := ps.reverse) (R.le (by decide)) G F N W hlc (fun q hq => (HD.ns.up u0) q (List.mem_reverse.mp hq)) V6 (.inl rfl) ?_
  clear F N W; intro h tk t6 x6 rp6 ta6 tb6 s6 o6 v6 d6 r6 rb6 b F N W uu ht6 pk6 hr6 es6
  have hl6 := lst_up hlc uu
  walk_at "mU"
  have u6 := up_refl b
  clear hlc
  have hok : OKs ps := fun q hq => (hbd q hq).1
  have e63 : vpS ps.reverse 1 gap other = vpS ps mode am most := by unfold vpS; rw [eE3, eE6, rev_st hok, rev_sk hok]
  rw [e63, ← es3] at es6
  obtain ⟨w1, w2, w3, w4, w5, w6⟩ : s6 = s3 ∧ o6 = o3 ∧ v6 = v3 ∧ d6 = d3 ∧ r6 = r3 ∧ rb6 = rb3 := by injection es6 with a1 a2 a3 a4 a5 a6; exact ⟨a1, a2, a3, a4, a5, a6⟩
  subst s6 o6 v6 d6 r6 rb6
  clear es6 e63
  have E10 : vpH ps.reverse 1 gap other + vpD ps.reverse other = vpH ps 1 0 1073741823 + vpD ps 1073741823 + gap := by rw [E1, eH6, ← wholeF_rev, ← vp_sum ps.reverse other]; omega
  have E11 : (natF ps.reverse).W = (natF ps).W := rev_W ps
  repeat (first
   | ((with_reducible show wpAny _ _ (compareOp CmpOp.NotEq (Value.ref _) (Value.ref _)) _ _ _); (refine rd_ne (rep_rd (up_tr u6 (up_base F N W) _ _ hr6)) (rep_rd (up_tr u5 (up_base F N W) _ _ hr5)) (by have := R.un; omega) ?_))
   | ((with_reducible show wpAny _ _ (eval (Expr.Name (Str.ofString "heap") _) _) _ _ _); (refine e_cell (c := L + 1) N (by rfl) (List.mem_append_left _ (.tail _ m1)) hc1 ?_))
   | ((with_reducible show wpAny _ _ (getAttr (Value.ref _) (Str.ofString "width") _) _ _ _); ((first | refine g_pw (G.x.keeps F.keep) (pk_up pk1 (up_tr u1 (up_base F N W))) ?_ | refine g_pw (G.x.keeps F.keep) (pk_up pk2 (up_tr u2 (up_base F N W))) ?_ | refine g_pw (G.x.keeps F.keep) (pk_up pk3 (up_tr u3 (up_base F N W))) ?_ | refine g_pw (G.x.keeps F.keep) (pk_up pk4 (up_tr u4 (up_base F N W))) ?_ | refine g_pw (G.x.keeps F.keep) (pk_up pk5 (up_tr u5 (up_base F N W))) ?_ | refine g_pw (G.x.keeps F.keep) (pk_up pk6 (up_tr u6 (up_base F N W))) ?_); intro t))
   | ((with_reducible show wpAny _ _ (getAttr (Value.ref _) (Str.ofString "height") _) _ _ _); ((first | refine g_ph (G.x.keeps F.keep) (pk_up pk1 (up_tr u1 (up_base F N W))) ?_ | refine g_ph (G.x.keeps F.keep) (pk_up pk2 (up_tr u2 (up_base F N W))) ?_ | refine g_ph (G.x.keeps F.keep) (pk_up pk3 (up_tr u3 (up_base F N W))) ?_ | refine g_ph (G.x.keeps F.keep) (pk_up pk4 (up_tr u4 (up_base F N W))) ?_ | refine g_ph (G.x.keeps F.keep) (pk_up pk5 (up_tr u5 (up_base F N W))) ?_ | refine g_ph (G.x.keeps F.keep) (pk_up pk6 (up_tr u6 (up_base F N W))) ?_); intro t))
   | ((with_reducible show wpAny _ _ (getAttr (Value.ref _) (Str.ofString "depth") _) _ _ _); ((first | refine g_pd (G.x.keeps F.keep) (pk_up pk1 (up_tr u1 (up_base F N W))) ?_ | refine g_pd (G.x.keeps F.keep) (pk_up pk2 (up_tr u2 (up_base F N W))) ?_ | refine g_pd (G.x.keeps F.keep) (pk_up pk3 (up_tr u3 (up_base F N W))) ?_ | refine g_pd (G.x.keeps F.keep) (pk_up pk4 (up_tr u4 (up_base F N W))) ?_ | refine g_pd (G.x.keeps F.keep) (pk_up pk5 (up_tr u5 (up_base F N W))) ?_ | refine g_pd (G.x.keeps F.keep) (pk_up pk6 (up_tr u6 (up_base F N W))) ?_); intro t))
   | ((with_reducible show wpAny _ _ (getAttr (Value.ref _) (Str.ofString "sign") _) _ _ _); ((first | refine g_ps (G.x.keeps F.keep) (pk_up pk1 (up_tr u1 (up_base F N W))) ?_ | refine g_ps (G.x.keeps F.keep) (pk_up pk2 (up_tr u2 (up_base F N W))) ?_ | refine g_ps (G.x.keeps F.keep) (pk_up pk3 (up_tr u3 (up_base F N W))) ?_ | refine g_ps (G.x.keeps F.keep) (pk_up pk4 (up_tr u4 (up_base F N W))) ?_ | refine g_ps (G.x.keeps F.keep) (pk_up pk5 (up_tr u5 (up_base F N W))) ?_ | refine g_ps (G.x.keeps F.keep) (pk_up pk6 (up_tr u6 (up_base F N W))) ?_); intro t))
   | ((with_reducible show wpAny _ _ (subscriptTail _ _ (Value.ref _) (Value.int 0 _)) _ _ _); (first | refine i_t0 (up_tr u1 (up_base F N W) _ _ ht1) ?_ | refine i_t0 (up_tr u2 (up_base F N W) _ _ ht2) ?_ | refine i_t0 (up_tr u3 (up_base F N W) _ _ ht3) ?_ | refine i_t0 (up_tr u4 (up_base F N W) _ _ ht4) ?_ | refine i_t0 (up_tr u5 (up_base F N W) _ _ ht5) ?_ | refine i_t0 (up_tr u6 (up_base F N W) _ _ ht6) ?_))
   | ((with_reducible show wpAny _ _ (subscriptTail _ _ (Value.ref _) (Value.int 1 _)) _ _ _); (first | refine i_t1 (up_tr u1 (up_base F N W) _ _ ht1) ?_ | refine i_t1 (up_tr u2 (up_base F N W) _ _ ht2) ?_ | refine i_t1 (up_tr u3 (up_base F N W) _ _ ht3) ?_ | refine i_t1 (up_tr u4 (up_base F N W) _ _ ht4) ?_ | refine i_t1 (up_tr u5 (up_base F N W) _ _ ht5) ?_ | refine i_t1 (up_tr u6 (up_base F N W) _ _ ht6) ?_))
   | ((with_reducible show wpAny _ _ (eval (Expr.Call (Expr.Name (Str.ofString "vpack") _) [_, _, _, _] _ _) _) _ _ _); (refine e_call4 (kp_vpack _) (n_vpack F G ⟨rfl, ?_⟩ (by rfl) (by rfl))))
   | ((with_reducible show wpAny _ _ (eval (Expr.Call (Expr.Name (Str.ofString "described") _) [_] _ _) _) _ _ _); (refine e_call1 (kp_described _) (n_described F G ⟨rfl, ?_⟩ (by rfl) (by rfl))))
   | ((with_reducible show wpAny _ _ (eval (Expr.Call (Expr.Name (Str.ofString "list") _) _ _ _) _) _ _ _); (refine e_tcall1 (n_list F G ⟨rfl, ?_⟩ (by rfl) (by rfl))))
   | ((with_reducible show wpAny _ _ (call (Value.type "list") _) _ _ _); (refine st_copy F N W (lst_up hit u0) ?_ (by rw [vals_len]; omega); clear F N W; intro h lc b F N W uu hlc; walk_at "mU"))
   | ((with_reducible show wpAny _ _ (newTuple _) _ _ _); (refine st_tup F N W ?_; clear F N W; intro h tt b F N W uu ht; walk_at "mU"))
   | ((with_reducible show wpAny _ _ (compareOp CmpOp.NotEq (Value.int _ _) (Value.int _ _)) _ _ _); (refine c_ne_f (by first | assumption | rfl) ?_))
   | ((with_reducible show wpAny _ _ (eval (Expr.Call (Expr.Name (Str.ofString "_law_whole") _) _ _ _) _) _ _ _); refine e_call1 (kp_law_whole _) (n_law_whole F G ⟨rfl, ?_⟩ (by rfl) (by rfl)))
   | ((with_reducible show wpAny _ _ (eval (Expr.Call (Expr.Name (Str.ofString "min") _) _ _ _) _) _ _ _); refine e_bcall2 (n_min F G ⟨rfl, ?_⟩ (by rfl) (by rfl)))
   | ((with_reducible show wpAny _ _ (call (Value.builtin "min") _) _ _ _); (with_reducible refine k_min R.hd ?_; intro h tk t u; replace F := Fr.up F u; replace N := News.up N u; clear u))
   | ((with_reducible show wpAny _ _ (eval (Expr.Call (Expr.Name (Str.ofString "vpack") _) _ _ _) _) _ _ _); refine e_call1 (kp_vpack _) (n_vpack F G ⟨rfl, ?_⟩ (by rfl) (by rfl)))
   | ((with_reducible show wpAny _ _ (eval (Expr.Call (Expr.Name (Str.ofString "places") _) _ _ _) _) _ _ _); refine e_call1 (kp_places _) (n_places F G ⟨rfl, ?_⟩ (by rfl) (by rfl)))
   | ((with_reducible show wpAny _ _ (eval (Expr.Call (Expr.Name (Str.ofString "_law_told") _) _ _ _) _) _ _ _); refine e_call1 (kp_law_told _) (n_law_told F G ⟨rfl, ?_⟩ (by rfl) (by rfl)))
   | ((with_reducible show wpAny _ _ (eval (Expr.Call (Expr.Name (Str.ofString "_law_run") _) _ _ _) _) _ _ _); refine e_call2 (kp_law_run _) (n_law_run F G ⟨rfl, ?_⟩ (by rfl) (by rfl)))
   | walk_at "mS")
  obtain ⟨cc, Hc, cA, cB⟩ := H
  have cB : cc ≤ 250 := Int.le_trans cB (by decide)
  refine st_run (pre := []) (R.le (by decide)) G F N W (fun _ hq => nomatch hq) hMC Hc ⟨cA, by omega⟩ (lst_up hit u0) (HD.ns.up u0) (by omega) ?_
  clear F N W Hc; intro h tk tr oh bg en tbg ten b F N W uu htr run
  walk_at "mU"
  repeat (first
   | ((with_reducible show wpAny _ _ (assign (Expr.Tuple _ _ _) _ (Value.ref _)) _ _ _); (refine as_tup R.hd (up_base F N W _ _ htr) (by rfl) (by rfl) (fun h u => ?_); replace F := Fr.up F u; replace N := News.up N u; clear u))
   | ((with_reducible show wpAny _ _ (eval (Expr.Call (Expr.Name (Str.ofString "_law_grouped") _) _ _ _) _) _ _ _); (refine e_callN (kp_law_grouped _) (n_law_grouped F G ⟨rfl, ?_⟩ (by rfl) (by rfl))))
   | ((with_reducible show wpAny _ _ (getAttr (Value.ref _) (Str.ofString "width") _) _ _ _); ((first | refine g_pw (G.x.keeps F.keep) (pk_up pk1 (up_tr u1 (up_base F N W))) ?_ | refine g_pw (G.x.keeps F.keep) (pk_up pk2 (up_tr u2 (up_base F N W))) ?_ | refine g_pw (G.x.keeps F.keep) (pk_up pk3 (up_tr u3 (up_base F N W))) ?_ | refine g_pw (G.x.keeps F.keep) (pk_up pk4 (up_tr u4 (up_base F N W))) ?_ | refine g_pw (G.x.keeps F.keep) (pk_up pk5 (up_tr u5 (up_base F N W))) ?_ | refine g_pw (G.x.keeps F.keep) (pk_up pk6 (up_tr u6 (up_base F N W))) ?_); intro t))
   | ((with_reducible show wpAny _ _ (getAttr (Value.ref _) (Str.ofString "height") _) _ _ _); ((first | refine g_ph (G.x.keeps F.keep) (pk_up pk1 (up_tr u1 (up_base F N W))) ?_ | refine g_ph (G.x.keeps F.keep) (pk_up pk2 (up_tr u2 (up_base F N W))) ?_ | refine g_ph (G.x.keeps F.keep) (pk_up pk3 (up_tr u3 (up_base F N W))) ?_ | refine g_ph (G.x.keeps F.keep) (pk_up pk4 (up_tr u4 (up_base F N W))) ?_ | refine g_ph (G.x.keeps F.keep) (pk_up pk5 (up_tr u5 (up_base F N W))) ?_ | refine g_ph (G.x.keeps F.keep) (pk_up pk6 (up_tr u6 (up_base F N W))) ?_); intro t))
   | ((with_reducible show wpAny _ _ (getAttr (Value.ref _) (Str.ofString "depth") _) _ _ _); ((first | refine g_pd (G.x.keeps F.keep) (pk_up pk1 (up_tr u1 (up_base F N W))) ?_ | refine g_pd (G.x.keeps F.keep) (pk_up pk2 (up_tr u2 (up_base F N W))) ?_ | refine g_pd (G.x.keeps F.keep) (pk_up pk3 (up_tr u3 (up_base F N W))) ?_ | refine g_pd (G.x.keeps F.keep) (pk_up pk4 (up_tr u4 (up_base F N W))) ?_ | refine g_pd (G.x.keeps F.keep) (pk_up pk5 (up_tr u5 (up_base F N W))) ?_ | refine g_pd (G.x.keeps F.keep) (pk_up pk6 (up_tr u6 (up_base F N W))) ?_); intro t))
   | ((with_reducible show wpAny _ _ (getAttr (Value.ref _) (Str.ofString "sign") _) _ _ _); ((first | refine g_ps (G.x.keeps F.keep) (pk_up pk1 (up_tr u1 (up_base F N W))) ?_ | refine g_ps (G.x.keeps F.keep) (pk_up pk2 (up_tr u2 (up_base F N W))) ?_ | refine g_ps (G.x.keeps F.keep) (pk_up pk3 (up_tr u3 (up_base F N W))) ?_ | refine g_ps (G.x.keeps F.keep) (pk_up pk4 (up_tr u4 (up_base F N W))) ?_ | refine g_ps (G.x.keeps F.keep) (pk_up pk5 (up_tr u5 (up_base F N W))) ?_ | refine g_ps (G.x.keeps F.keep) (pk_up pk6 (up_tr u6 (up_base F N W))) ?_); intro t))
   | ((with_reducible show wpAny _ _ (subscriptTail _ _ (Value.ref _) (Value.int 0 _)) _ _ _); (first | refine i_t0 (up_tr u1 (up_base F N W) _ _ ht1) ?_ | refine i_t0 (up_tr u2 (up_base F N W) _ _ ht2) ?_ | refine i_t0 (up_tr u3 (up_base F N W) _ _ ht3) ?_ | refine i_t0 (up_tr u4 (up_base F N W) _ _ ht4) ?_ | refine i_t0 (up_tr u5 (up_base F N W) _ _ ht5) ?_ | refine i_t0 (up_tr u6 (up_base F N W) _ _ ht6) ?_))
   | ((with_reducible show wpAny _ _ (subscriptTail _ _ (Value.ref _) (Value.int 1 _)) _ _ _); (first | refine i_t1 (up_tr u1 (up_base F N W) _ _ ht1) ?_ | refine i_t1 (up_tr u2 (up_base F N W) _ _ ht2) ?_ | refine i_t1 (up_tr u3 (up_base F N W) _ _ ht3) ?_ | refine i_t1 (up_tr u4 (up_base F N W) _ _ ht4) ?_ | refine i_t1 (up_tr u5 (up_base F N W) _ _ ht5) ?_ | refine i_t1 (up_tr u6 (up_base F N W) _ _ ht6) ?_))
   | ((with_reducible show wpAny _ _ (eval (Expr.Call (Expr.Name (Str.ofString "vpack") _) [_, _, _, _] _ _) _) _ _ _); (refine e_call4 (kp_vpack _) (n_vpack F G ⟨rfl, ?_⟩ (by rfl) (by rfl))))
   | ((with_reducible show wpAny _ _ (eval (Expr.Call (Expr.Name (Str.ofString "described") _) [_] _ _) _) _ _ _); (refine e_call1 (kp_described _) (n_described F G ⟨rfl, ?_⟩ (by rfl) (by rfl))))
   | ((with_reducible show wpAny _ _ (eval (Expr.Call (Expr.Name (Str.ofString "list") _) _ _ _) _) _ _ _); (refine e_tcall1 (n_list F G ⟨rfl, ?_⟩ (by rfl) (by rfl))))
   | ((with_reducible show wpAny _ _ (call (Value.type "list") _) _ _ _); (refine st_copy F N W (lst_up hit u0) ?_ (by rw [vals_len]; omega); clear F N W; intro h lc b F N W uu hlc; walk_at "mU"))
   | ((with_reducible show wpAny _ _ (newTuple _) _ _ _); (refine st_tup F N W ?_; clear F N W; intro h tt b F N W uu ht; walk_at "mU"))
   | ((with_reducible show wpAny _ _ (compareOp CmpOp.NotEq (Value.int _ _) (Value.int _ _)) _ _ _); (refine c_ne_f (by first | assumption | rfl) ?_))
   | ((with_reducible show wpAny _ _ (eval (Expr.Call (Expr.Name (Str.ofString "_law_whole") _) _ _ _) _) _ _ _); refine e_call1 (kp_law_whole _) (n_law_whole F G ⟨rfl, ?_⟩ (by rfl) (by rfl)))
   | ((with_reducible show wpAny _ _ (eval (Expr.Call (Expr.Name (Str.ofString "min") _) _ _ _) _) _ _ _); refine e_bcall2 (n_min F G ⟨rfl, ?_⟩ (by rfl) (by rfl)))
   | ((with_reducible show wpAny _ _ (call (Value.builtin "min") _) _ _ _); (with_reducible refine k_min R.hd ?_; intro h tk t u; replace F := Fr.up F u; replace N := News.up N u; clear u))
   | ((with_reducible show wpAny _ _ (eval (Expr.Call (Expr.Name (Str.ofString "vpack") _) _ _ _) _) _ _ _); refine e_call1 (kp_vpack _) (n_vpack F G ⟨rfl, ?_⟩ (by rfl) (by rfl)))
   | ((with_reducible show wpAny _ _ (eval (Expr.Call (Expr.Name (Str.ofString "places") _) _ _ _) _) _ _ _); refine e_call1 (kp_places _) (n_places F G ⟨rfl, ?_⟩ (by rfl) (by rfl)))
   | ((with_reducible show wpAny _ _ (eval (Expr.Call (Expr.Name (Str.ofString "_law_told") _) _ _ _) _) _ _ _); refine e_call1 (kp_law_told _) (n_law_told F G ⟨rfl, ?_⟩ (by rfl) (by rfl)))
   | ((with_reducible show wpAny _ _ (eval (Expr.Call (Expr.Name (Str.ofString "_law_run") _) _ _ _) _) _ _ _); refine e_call2 (kp_law_run _) (n_law_run F G ⟨rfl, ?_⟩ (by rfl) (by rfl)))
   | walk_at "mS")
  refine law_grouped_c (R.le (by decide)) (G.fr F) (lst_up hit (up_tr u0 (up_base F N W))) (HD.ns.up (up_tr u0 (up_base F N W))) hbd (by omega) run hmd hmost hgap ham2 (hTold.up (up_tr u8 (up_base F N W))) es3 (hBeg.up (up_tr u9 (up_base F N W))) (fun h' tk' k => ?_)
  exact kq _ _ (up_tr F.keep k)
end
end Mine
/-! Fin -/
namespace Mine
theorem gl_law (P : Params) : nsIn (Mine.hd.heap_1_39 P) mainGlobals (Str.ofString "law") = some (some (.ref 662)) := by kernel_rfl
theorem ints_qs {vs : List Value} {ns : List Int} (H : IntsAre vs ns) : ∃ qs : List (Int × Tok), vs = qs.map iV ∧ qs.length = ns.length := by
  induction H with
  | nil => exact ⟨[], rfl, rfl⟩
  | cons n t _ ih => obtain ⟨qs, e1, e2⟩ := ih; exact ⟨(n, t) :: qs, by rw [e1]; rfl, by simp [e2]⟩
theorem caller_rm : Rm 11 callerA := ⟨rfl, by decide, by decide⟩
end Mine
theorem PySem.Challenge.cw_sq0050_01_holds : PySem.Challenge.rw_sq0050_01.Holds :=
  Mine.hd.top (by
  intro w s₀ s₁ mg mb G Y fa o pm cd doc dV kV ho hd hcd hD hmg hg args vals as hpre hlay hrd hwl hlo
  have KX := kIn_of Y
  have TR := topRead_of G.T
  clear G Y ho hd hcd hD
  have hmg' : mg (Str.ofString "law") = some (.ref fa) := hmg
  have e := mg_of KX TR.g (Mine.gl_law w.params)
  rw [e] at hmg'
  cases hmg'
  clear hmg e
  wrow_args hpre hlay hrd hwl hlo
  rename_i ns _ _ _ _ _ _ _ l vs _ hL _ _ _ hI _ hc _
  obtain ⟨qs, rfl, hq⟩ := Mine.ints_qs hI
  have hz : qs.length ≤ 63 := by omega
  obtain ⟨h, gs, dr, tk, os⟩ := s₁
  refine Mine.law_c Mine.caller_rm ⟨KX, TR⟩ hL hz (fun h' tk' u => ?_)
  exact GoodW.toG ⟨.inl ⟨.bool true, .bool true, [], rfl, fun cls => rfl, .bool true, postW_of (by rfl) (w_eq_bool (w_res rfl) w_lit) (by rfl), fun _ => ⟨List.nodup_nil, fun _ hm => nomatch hm⟩⟩, u, rfl, hg⟩)
end
