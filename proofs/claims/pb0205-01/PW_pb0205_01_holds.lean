import PyProof.Rows.All
import Wide.All
import OpenK.AllK
import Wide.FinOn
import PySem.Challenge.RW_pb0205_01
open PySem PySem.W PySem.Calls PySem.Spec PyProof.Rows
set_option Elab.async false
set_option compiler.extract_closed false
set_option maxRecDepth 100000
set_option maxHeartbeats 0
set_option linter.unusedVariables false
namespace Mine
theorem hd.tw10024716035694756283 : True := trivial
theorem hd.tw10030107230732127627 : True := trivial
theorem hd.tw100483095206116625 : True := trivial
theorem hd.tw10111801491309104144 : True := trivial
theorem hd.tw1011335219593555734 : True := trivial
theorem hd.tw1013155817946168525 : True := trivial
theorem hd.tw10216474801634566288 : True := trivial
theorem hd.tw10246146449241189800 : True := trivial
theorem hd.tw10258225898301398825 : True := trivial
theorem hd.tw10292235466723388172 : True := trivial
theorem hd.tw10296555574160606952 : True := trivial
theorem hd.tw10403243965636340961 : True := trivial
theorem hd.tw10404513684093684653 : True := trivial
theorem hd.tw1043307727769730188 : True := trivial
theorem hd.tw10458740792067480800 : True := trivial
theorem hd.tw10491609206876299696 : True := trivial
theorem hd.tw10507497572311344420 : True := trivial
theorem hd.tw10525666975642140466 : True := trivial
theorem hd.tw10542889226490290971 : True := trivial
theorem hd.tw10543509907540572799 : True := trivial
theorem hd.tw10583446816852156582 : True := trivial
theorem hd.tw10603584201595350602 : True := trivial
theorem hd.tw10614716105012338702 : True := trivial
theorem hd.tw10678649693572172417 : True := trivial
theorem hd.tw10738003575532504788 : True := trivial
theorem hd.tw10752148897807903841 : True := trivial
theorem hd.tw10784824025267889561 : True := trivial
theorem hd.tw10792051664901133789 : True := trivial
theorem hd.tw10806950440038215891 : True := trivial
theorem hd.tw10860895700388868024 : True := trivial
theorem hd.tw10879034167726328663 : True := trivial
theorem hd.tw1088296927520436173 : True := trivial
theorem hd.tw10905682514733158466 : True := trivial
theorem hd.tw10919297434634762262 : True := trivial
theorem hd.tw10949625832625181284 : True := trivial
theorem hd.tw1097998534492414930 : True := trivial
theorem hd.tw11011131195910976488 : True := trivial
theorem hd.tw11032806212648032379 : True := trivial
theorem hd.tw11034497122203965937 : True := trivial
theorem hd.tw11038495425325230296 : True := trivial
theorem hd.tw11054480109507316185 : True := trivial
theorem hd.tw11079593142295127227 : True := trivial
theorem hd.tw11136197038861592535 : True := trivial
theorem hd.tw11151547217846952531 : True := trivial
theorem hd.tw11162318198679636149 : True := trivial
theorem hd.tw1118553966540926140 : True := trivial
theorem hd.tw11210553801493137410 : True := trivial
theorem hd.tw11249132867342737325 : True := trivial
theorem hd.tw11251137523995926341 : True := trivial
theorem hd.tw1129884963351977449 : True := trivial
theorem hd.tw11319097763535126812 : True := trivial
theorem hd.tw11319892378374348655 : True := trivial
theorem hd.tw11387694631328260470 : True := trivial
theorem hd.tw11402939732021071671 : True := trivial
theorem hd.tw11435306503888081074 : True := trivial
theorem hd.tw11465210709893060100 : True := trivial
theorem hd.tw1147470481896660410 : True := trivial
theorem hd.tw11513968764499736323 : True := trivial
theorem hd.tw11551083187376567056 : True := trivial
theorem hd.tw11611254532205267744 : True := trivial
theorem hd.tw11631869004601391166 : True := trivial
theorem hd.tw11652457597714270106 : True := trivial
theorem hd.tw11660266114150955751 : True := trivial
theorem hd.tw11705484773298837755 : True := trivial
theorem hd.tw11709330566771433103 : True := trivial
theorem hd.tw11713075325732132258 : True := trivial
theorem hd.tw11747275561380068635 : True := trivial
theorem hd.tw11754176132448286083 : True := trivial
theorem hd.tw11778180911958503814 : True := trivial
theorem hd.tw11801993109049149486 : True := trivial
theorem hd.tw11893437276241958245 : True := trivial
theorem hd.tw11917015161858427179 : True := trivial
theorem hd.tw1194904439430580092 : True := trivial
theorem hd.tw1197925565968671727 : True := trivial
theorem hd.tw12023040214023829324 : True := trivial
theorem hd.tw12058812876911547015 : True := trivial
theorem hd.tw12070654863422294720 : True := trivial
theorem hd.tw12092154237167983948 : True := trivial
theorem hd.tw12112201142124510154 : True := trivial
theorem hd.tw12113243949977362033 : True := trivial
theorem hd.tw12127338746724423809 : True := trivial
theorem hd.tw12271959270614036898 : True := trivial
theorem hd.tw12393119488966705847 : True := trivial
theorem hd.tw12394076208661396346 : True := trivial
theorem hd.tw12399718760709695909 : True := trivial
theorem hd.tw12451258846644117672 : True := trivial
theorem hd.tw12487502673411948298 : True := trivial
theorem hd.tw12575139184659369484 : True := trivial
theorem hd.tw12588582704262371052 : True := trivial
theorem hd.tw12591134339009171964 : True := trivial
theorem hd.tw12598724348716800887 : True := trivial
theorem hd.tw12602439190401603521 : True := trivial
theorem hd.tw12611767792052310623 : True := trivial
theorem hd.tw12614811148066621264 : True := trivial
theorem hd.tw12631932088317031055 : True := trivial
theorem hd.tw12647368939536790636 : True := trivial
theorem hd.tw12744807935193187038 : True := trivial
theorem hd.tw12769127236821124696 : True := trivial
theorem hd.tw12797040952259185971 : True := trivial
theorem hd.tw12901994302517312135 : True := trivial
theorem hd.tw12949589719889679912 : True := trivial
theorem hd.tw1299046323782801668 : True := trivial
theorem hd.tw13047593935725612058 : True := trivial
theorem hd.tw13066319289922817542 : True := trivial
theorem hd.tw13091844219050505765 : True := trivial
theorem hd.tw13181700845877081190 : True := trivial
theorem hd.tw13217225542625558698 : True := trivial
theorem hd.tw13220430256171166289 : True := trivial
theorem hd.tw13225837485096350037 : True := trivial
theorem hd.tw13267510147771200024 : True := trivial
theorem hd.tw13277076834127875243 : True := trivial
theorem hd.tw13280443560766958183 : True := trivial
theorem hd.tw13285133528070534704 : True := trivial
theorem hd.tw13289513938125300765 : True := trivial
theorem hd.tw13315533130655954831 : True := trivial
theorem hd.tw13321331477185743149 : True := trivial
theorem hd.tw13330244855972007585 : True := trivial
theorem hd.tw13338143212406534295 : True := trivial
theorem hd.tw13342606739435360313 : True := trivial
theorem hd.tw13368278939475635651 : True := trivial
theorem hd.tw13372043803930879067 : True := trivial
theorem hd.tw13409441903868389331 : True := trivial
theorem hd.tw13437812931772313286 : True := trivial
theorem hd.tw13466754112058979494 : True := trivial
theorem hd.tw13483081372092288885 : True := trivial
theorem hd.tw13518370688599389936 : True := trivial
theorem hd.tw13576001757907426199 : True := trivial
theorem hd.tw1359830224848277088 : True := trivial
theorem hd.tw13638418597567726942 : True := trivial
theorem hd.tw13642289790063256904 : True := trivial
theorem hd.tw13753220567063992666 : True := trivial
theorem hd.tw13770079208771991547 : True := trivial
theorem hd.tw13783031573616600631 : True := trivial
theorem hd.tw13790719812936386609 : True := trivial
theorem hd.tw13825509269061658866 : True := trivial
theorem hd.tw13828106393651249627 : True := trivial
theorem hd.tw1382963296337349011 : True := trivial
theorem hd.tw13855946660403688772 : True := trivial
theorem hd.tw13866372431405929976 : True := trivial
theorem hd.tw13893168526513508166 : True := trivial
theorem hd.tw13903934854276604550 : True := trivial
theorem hd.tw13919464512627920130 : True := trivial
theorem hd.tw13929354066492186541 : True := trivial
theorem hd.tw13956165655338008812 : True := trivial
theorem hd.tw14015909994521340511 : True := trivial
theorem hd.tw14029546391885035639 : True := trivial
theorem hd.tw14060154772996877548 : True := trivial
theorem hd.tw14083186784513179016 : True := trivial
theorem hd.tw14103535550066685397 : True := trivial
theorem hd.tw1413172679324656950 : True := trivial
theorem hd.tw14168552714766633299 : True := trivial
theorem hd.tw14246236162039180721 : True := trivial
theorem hd.tw1425423193147277237 : True := trivial
theorem hd.tw14294001040229213422 : True := trivial
theorem hd.tw14353793391729792155 : True := trivial
theorem hd.tw1439246655266547700 : True := trivial
theorem hd.tw14457593812595234344 : True := trivial
theorem hd.tw14478148883734587675 : True := trivial
theorem hd.tw14492701947808656938 : True := trivial
theorem hd.tw1452849714261714991 : True := trivial
theorem hd.tw14553816603554493358 : True := trivial
theorem hd.tw14560493823538711346 : True := trivial
theorem hd.tw14598272352848978880 : True := trivial
theorem hd.tw14620637471214046174 : True := trivial
theorem hd.tw14685462170515437407 : True := trivial
theorem hd.tw14705683404202351889 : True := trivial
theorem hd.tw14745743045033390146 : True := trivial
theorem hd.tw14768889098011018680 : True := trivial
theorem hd.tw14772383043592177042 : True := trivial
theorem hd.tw14892549342360969540 : True := trivial
theorem hd.tw14896477498954680388 : True := trivial
theorem hd.tw14955159897011116063 : True := trivial
theorem hd.tw14980023328507725902 : True := trivial
theorem hd.tw15042006015671813226 : True := trivial
theorem hd.tw15043168886218598503 : True := trivial
theorem hd.tw15048261121198461528 : True := trivial
theorem hd.tw1506431575118746342 : True := trivial
theorem hd.tw15083628210047938546 : True := trivial
theorem hd.tw15089522573102190283 : True := trivial
theorem hd.tw15114108414909977919 : True := trivial
theorem hd.tw15153279154761372571 : True := trivial
theorem hd.tw15213948185873263833 : True := trivial
theorem hd.tw15220180469806662145 : True := trivial
theorem hd.tw15344866539931968096 : True := trivial
theorem hd.tw15367242080415987702 : True := trivial
theorem hd.tw15368132723985388332 : True := trivial
theorem hd.tw15416985209724490359 : True := trivial
theorem hd.tw15422856539912107476 : True := trivial
theorem hd.tw15463257786427224491 : True := trivial
theorem hd.tw15508949281206285077 : True := trivial
theorem hd.tw15527848837575444561 : True := trivial
theorem hd.tw15529170255622000948 : True := trivial
theorem hd.tw15615420239508185596 : True := trivial
theorem hd.tw15616948245753086127 : True := trivial
theorem hd.tw15642763164714097627 : True := trivial
theorem hd.tw15643275761693703936 : True := trivial
theorem hd.tw15673258824015622330 : True := trivial
theorem hd.tw15683763237869141255 : True := trivial
theorem hd.tw15759970867653108152 : True := trivial
theorem hd.tw15790720579355451973 : True := trivial
theorem hd.tw1580110805410547442 : True := trivial
theorem hd.tw15833661619300960221 : True := trivial
theorem hd.tw15837987909243819085 : True := trivial
theorem hd.tw15852365999677673905 : True := trivial
theorem hd.tw1588505670450824345 : True := trivial
theorem hd.tw1589133516308662214 : True := trivial
theorem hd.tw15910714762333108613 : True := trivial
theorem hd.tw15946388913382835224 : True := trivial
theorem hd.tw15948780112781908787 : True := trivial
theorem hd.tw15967140613478806237 : True := trivial
theorem hd.tw15968945029929137490 : True := trivial
theorem hd.tw15987713032478767096 : True := trivial
theorem hd.tw16007149819294483003 : True := trivial
theorem hd.tw16011055738799735888 : True := trivial
theorem hd.tw16029623286316568529 : True := trivial
theorem hd.tw16053994301053490033 : True := trivial
theorem hd.tw16064382804478563927 : True := trivial
theorem hd.tw16091413853298234908 : True := trivial
theorem hd.tw1610171440888473627 : True := trivial
theorem hd.tw16154546982801380032 : True := trivial
theorem hd.tw16157073509204512506 : True := trivial
theorem hd.tw16171809288044610508 : True := trivial
theorem hd.tw16194383521188589630 : True := trivial
theorem hd.tw16211521421427940678 : True := trivial
theorem hd.tw16222499966895952523 : True := trivial
theorem hd.tw16257038226119295666 : True := trivial
theorem hd.tw16259696140248634718 : True := trivial
theorem hd.tw16288478824909460495 : True := trivial
theorem hd.tw16299908979028503884 : True := trivial
theorem hd.tw16302227732802510677 : True := trivial
theorem hd.tw16332348944364537037 : True := trivial
theorem hd.tw16345102440705955213 : True := trivial
theorem hd.tw16412773359747925120 : True := trivial
theorem hd.tw16432713993328977331 : True := trivial
theorem hd.tw16448752775317648489 : True := trivial
theorem hd.tw16473244170626142550 : True := trivial
theorem hd.tw16477043939570097188 : True := trivial
theorem hd.tw16502264421070913907 : True := trivial
theorem hd.tw16634568088961857937 : True := trivial
theorem hd.tw16640546478005224243 : True := trivial
theorem hd.tw16649331688326792143 : True := trivial
theorem hd.tw1666387254794493845 : True := trivial
theorem hd.tw16694946328126371552 : True := trivial
theorem hd.tw16713699803418581334 : True := trivial
theorem hd.tw16722109127936396110 : True := trivial
theorem hd.tw16772102934027710169 : True := trivial
theorem hd.tw16794629799341752650 : True := trivial
theorem hd.tw16828841361933241965 : True := trivial
theorem hd.tw16853341256802265648 : True := trivial
theorem hd.tw16858285156579221889 : True := trivial
theorem hd.tw16868993833207775613 : True := trivial
theorem hd.tw16920754564084929960 : True := trivial
theorem hd.tw16945582573551092051 : True := trivial
theorem hd.tw1699103778626983548 : True := trivial
theorem hd.tw17001982702790524580 : True := trivial
theorem hd.tw17047115858639842297 : True := trivial
theorem hd.tw17054507655720011243 : True := trivial
theorem hd.tw17087091549796120035 : True := trivial
theorem hd.tw17130151131035750659 : True := trivial
theorem hd.tw17177331786930743035 : True := trivial
theorem hd.tw17183224562656869120 : True := trivial
theorem hd.tw17213754286329925777 : True := trivial
theorem hd.tw17234923516513369237 : True := trivial
theorem hd.tw17252143746492648416 : True := trivial
theorem hd.tw17258206423299326598 : True := trivial
theorem hd.tw17329763361089477859 : True := trivial
theorem hd.tw17330945745186091897 : True := trivial
theorem hd.tw17387473266821786944 : True := trivial
theorem hd.tw17387984336315359219 : True := trivial
theorem hd.tw17429513623812275283 : True := trivial
theorem hd.tw17447410573909459338 : True := trivial
theorem hd.tw17491280204586788870 : True := trivial
theorem hd.tw17491317419825422843 : True := trivial
theorem hd.tw17542962492245011380 : True := trivial
theorem hd.tw17552017554478351026 : True := trivial
theorem hd.tw17562767543260142214 : True := trivial
theorem hd.tw17574625026820762457 : True := trivial
theorem hd.tw17588044629489971554 : True := trivial
theorem hd.tw17599816209265215132 : True := trivial
theorem hd.tw1760603350576429475 : True := trivial
theorem hd.tw17650839729002327288 : True := trivial
theorem hd.tw17672654358674132775 : True := trivial
theorem hd.tw17673860158736603733 : True := trivial
theorem hd.tw17678243848840562019 : True := trivial
theorem hd.tw17681399029576232318 : True := trivial
theorem hd.tw17711083657039698284 : True := trivial
theorem hd.tw17714235663813219645 : True := trivial
theorem hd.tw17739348878880393726 : True := trivial
theorem hd.tw17808607793243039243 : True := trivial
theorem hd.tw1781861727890032366 : True := trivial
theorem hd.tw17843490464661113860 : True := trivial
theorem hd.tw17893044597097874663 : True := trivial
theorem hd.tw17901334829092211166 : True := trivial
theorem hd.tw17903497710992402801 : True := trivial
theorem hd.tw17919194246423945575 : True := trivial
theorem hd.tw17925215291927510665 : True := trivial
theorem hd.tw17950676927832955104 : True := trivial
theorem hd.tw17975533764899295144 : True := trivial
theorem hd.tw17986969038992634876 : True := trivial
theorem hd.tw1800889605409440832 : True := trivial
theorem hd.tw18093812233618175256 : True := trivial
theorem hd.tw18103342009636024947 : True := trivial
theorem hd.tw18103420901670897651 : True := trivial
theorem hd.tw18129098259903571784 : True := trivial
theorem hd.tw18166333605607142505 : True := trivial
theorem hd.tw18219297243305740317 : True := trivial
theorem hd.tw18241275227582772068 : True := trivial
theorem hd.tw18245042118932799458 : True := trivial
theorem hd.tw18264374347568628810 : True := trivial
theorem hd.tw18268791191939849864 : True := trivial
theorem hd.tw18291419657060728153 : True := trivial
theorem hd.tw18293732401869909652 : True := trivial
theorem hd.tw18293851220164018083 : True := trivial
theorem hd.tw18322514126500204803 : True := trivial
theorem hd.tw1836080755315867724 : True := trivial
theorem hd.tw18433733373944582078 : True := trivial
theorem hd.tw1847840615245081061 : True := trivial
theorem hd.tw1848646778235469078 : True := trivial
theorem hd.tw185848376630758926 : True := trivial
theorem hd.tw1865391376527767206 : True := trivial
theorem hd.tw1882180444382439491 : True := trivial
theorem hd.tw189712035060473897 : True := trivial
theorem hd.tw190519026028168232 : True := trivial
theorem hd.tw1954109241102656831 : True := trivial
theorem hd.tw2037972409741389414 : True := trivial
theorem hd.tw2051048951616859547 : True := trivial
theorem hd.tw2101469004524951375 : True := trivial
theorem hd.tw2114630138375439770 : True := trivial
theorem hd.tw2167537188350426706 : True := trivial
theorem hd.tw2195365466389143174 : True := trivial
theorem hd.tw2216850387143573719 : True := trivial
theorem hd.tw2252305205657439004 : True := trivial
theorem hd.tw22551697357593593 : True := trivial
theorem hd.tw226724450230711188 : True := trivial
theorem hd.tw2274498078352570744 : True := trivial
theorem hd.tw2284436838669742495 : True := trivial
theorem hd.tw2304311442786299043 : True := trivial
theorem hd.tw2315301623876862497 : True := trivial
theorem hd.tw2329189449893159454 : True := trivial
theorem hd.tw2386827423013361158 : True := trivial
theorem hd.tw2391449824757734642 : True := trivial
theorem hd.tw2442259710966052079 : True := trivial
theorem hd.tw2457190517430149469 : True := trivial
theorem hd.tw2480057099694739299 : True := trivial
theorem hd.tw2502866573005156581 : True := trivial
theorem hd.tw250903467453971090 : True := trivial
theorem hd.tw257007361410690125 : True := trivial
theorem hd.tw2579454770575251584 : True := trivial
theorem hd.tw2603259988358896889 : True := trivial
theorem hd.tw2608437505485318709 : True := trivial
theorem hd.tw265207839604002054 : True := trivial
theorem hd.tw2708950531961675432 : True := trivial
theorem hd.tw2788664435532181463 : True := trivial
theorem hd.tw2799067240506288376 : True := trivial
theorem hd.tw280609765759037681 : True := trivial
theorem hd.tw2845679848157327705 : True := trivial
theorem hd.tw2867327485932766208 : True := trivial
theorem hd.tw2887051446865420828 : True := trivial
theorem hd.tw2999033326186475339 : True := trivial
theorem hd.tw3008623586974134963 : True := trivial
theorem hd.tw3085183777334472315 : True := trivial
theorem hd.tw3143712602261400420 : True := trivial
theorem hd.tw3182187488490625086 : True := trivial
theorem hd.tw3219085151875037572 : True := trivial
theorem hd.tw3309697970292668127 : True := trivial
theorem hd.tw3310731293184615908 : True := trivial
theorem hd.tw3381375190539634487 : True := trivial
theorem hd.tw3404104791013757517 : True := trivial
theorem hd.tw3429492842335990350 : True := trivial
theorem hd.tw3442329435671937591 : True := trivial
theorem hd.tw3443669649825651883 : True := trivial
theorem hd.tw3451239065008710300 : True := trivial
theorem hd.tw3452082135128663414 : True := trivial
theorem hd.tw3480954088277226078 : True := trivial
theorem hd.tw3493717111155160527 : True := trivial
theorem hd.tw3530705653197291679 : True := trivial
theorem hd.tw3646829019195819677 : True := trivial
theorem hd.tw3694398316872202419 : True := trivial
theorem hd.tw3704167492566942397 : True := trivial
theorem hd.tw3759623122121258479 : True := trivial
theorem hd.tw3789350110615891812 : True := trivial
theorem hd.tw3795277891434052102 : True := trivial
theorem hd.tw3828038474966422129 : True := trivial
theorem hd.tw3915529967508079626 : True := trivial
theorem hd.tw3919010098100093602 : True := trivial
theorem hd.tw3941438180925939637 : True := trivial
theorem hd.tw395138700845864316 : True := trivial
theorem hd.tw3953601041324332601 : True := trivial
theorem hd.tw3994144814604779786 : True := trivial
theorem hd.tw4014540891139286612 : True := trivial
theorem hd.tw4015398097383911347 : True := trivial
theorem hd.tw4021928978595405253 : True := trivial
theorem hd.tw4065347644161347641 : True := trivial
theorem hd.tw4068527845204499245 : True := trivial
theorem hd.tw4111692666942324129 : True := trivial
theorem hd.tw4136554803537287180 : True := trivial
theorem hd.tw4159134105002834734 : True := trivial
theorem hd.tw4172343393113369950 : True := trivial
theorem hd.tw4182648748547736412 : True := trivial
theorem hd.tw4225703048834024713 : True := trivial
theorem hd.tw4272726840584523970 : True := trivial
theorem hd.tw4278124947684190350 : True := trivial
theorem hd.tw4282304852377368616 : True := trivial
theorem hd.tw4297731678662094536 : True := trivial
theorem hd.tw4315991029959535628 : True := trivial
theorem hd.tw432457690288141553 : True := trivial
theorem hd.tw4325921153153474475 : True := trivial
theorem hd.tw4360684699965382250 : True := trivial
theorem hd.tw4377701919642642989 : True := trivial
theorem hd.tw4402725079659364252 : True := trivial
theorem hd.tw442638132926106271 : True := trivial
theorem hd.tw4478166936697009375 : True := trivial
theorem hd.tw4478177076189095293 : True := trivial
theorem hd.tw4478964076566166474 : True := trivial
theorem hd.tw4494801613693538912 : True := trivial
theorem hd.tw461538923250603899 : True := trivial
theorem hd.tw4642405928176397000 : True := trivial
theorem hd.tw4702841417184801058 : True := trivial
theorem hd.tw4706079058837389440 : True := trivial
theorem hd.tw4788038989552484473 : True := trivial
theorem hd.tw4851647983119433812 : True := trivial
theorem hd.tw4856431653887292112 : True := trivial
theorem hd.tw4971549296188076032 : True := trivial
theorem hd.tw4993660671451451078 : True := trivial
theorem hd.tw5009564483982726761 : True := trivial
theorem hd.tw5036846961687405229 : True := trivial
theorem hd.tw5130813555471234732 : True := trivial
theorem hd.tw5148922909946612681 : True := trivial
theorem hd.tw5174551420813472067 : True := trivial
theorem hd.tw5190246844813560578 : True := trivial
theorem hd.tw5245234834050458271 : True := trivial
theorem hd.tw5247051413645994129 : True := trivial
theorem hd.tw5278057926702712004 : True := trivial
theorem hd.tw5282504435634884242 : True := trivial
theorem hd.tw5283464899586487735 : True := trivial
theorem hd.tw5292301768408028288 : True := trivial
theorem hd.tw5318216170032084099 : True := trivial
theorem hd.tw5363564295841288755 : True := trivial
theorem hd.tw5366084841770067474 : True := trivial
theorem hd.tw5373601922739893978 : True := trivial
theorem hd.tw541196102884509978 : True := trivial
theorem hd.tw5461583852855630226 : True := trivial
theorem hd.tw54727356038600574 : True := trivial
theorem hd.tw5480042469492414594 : True := trivial
theorem hd.tw5505005885091257285 : True := trivial
theorem hd.tw5508247431718736764 : True := trivial
theorem hd.tw5511420028821071320 : True := trivial
theorem hd.tw5559951931751713254 : True := trivial
theorem hd.tw5562173858411828344 : True := trivial
theorem hd.tw5567388512258382067 : True := trivial
theorem hd.tw5592360268479517082 : True := trivial
theorem hd.tw5608270528595127837 : True := trivial
theorem hd.tw5635641802508607975 : True := trivial
theorem hd.tw5716766192118558609 : True := trivial
theorem hd.tw5732804406350252772 : True := trivial
theorem hd.tw5781342201191254626 : True := trivial
theorem hd.tw5797579720489195210 : True := trivial
theorem hd.tw5976792059365374437 : True := trivial
theorem hd.tw5978321128707920903 : True := trivial
theorem hd.tw6046454685291232161 : True := trivial
theorem hd.tw6060742912462422084 : True := trivial
theorem hd.tw6082411064634330575 : True := trivial
theorem hd.tw6123773746684550334 : True := trivial
theorem hd.tw6136932545381038964 : True := trivial
theorem hd.tw6140570298594658328 : True := trivial
theorem hd.tw6154236146145331571 : True := trivial
theorem hd.tw6164396464334811476 : True := trivial
theorem hd.tw6184460063843016694 : True := trivial
theorem hd.tw6186238094035137676 : True := trivial
theorem hd.tw6196171512934965099 : True := trivial
theorem hd.tw6232176464123052602 : True := trivial
theorem hd.tw6261307160684272075 : True := trivial
theorem hd.tw6264232113106981867 : True := trivial
theorem hd.tw6291416237084387574 : True := trivial
theorem hd.tw6293948785866598258 : True := trivial
theorem hd.tw6305734824756694309 : True := trivial
theorem hd.tw6320253292602491972 : True := trivial
theorem hd.tw6394381022753523788 : True := trivial
theorem hd.tw6407587892757256292 : True := trivial
theorem hd.tw6411954120941647267 : True := trivial
theorem hd.tw6423634429210846174 : True := trivial
theorem hd.tw6438293893037913957 : True := trivial
theorem hd.tw6442067068224118133 : True := trivial
theorem hd.tw6469175993241445255 : True := trivial
theorem hd.tw6482722132109649516 : True := trivial
theorem hd.tw6528754448969337418 : True := trivial
theorem hd.tw6539292009479989668 : True := trivial
theorem hd.tw6545403380812914513 : True := trivial
theorem hd.tw6547078798241139092 : True := trivial
theorem hd.tw6555240042291301478 : True := trivial
theorem hd.tw6598312636042714100 : True := trivial
theorem hd.tw6627881031435992008 : True := trivial
theorem hd.tw663384727985864361 : True := trivial
theorem hd.tw6663896369628448293 : True := trivial
theorem hd.tw6683769817339685419 : True := trivial
theorem hd.tw6759412095888398321 : True := trivial
theorem hd.tw6785817131721698500 : True := trivial
theorem hd.tw6804821044290156842 : True := trivial
theorem hd.tw6818987989461384207 : True := trivial
theorem hd.tw6820862383352777685 : True := trivial
theorem hd.tw6830512106363814048 : True := trivial
theorem hd.tw6838551448383532254 : True := trivial
theorem hd.tw6868836192036940282 : True := trivial
theorem hd.tw6882427118574961969 : True := trivial
theorem hd.tw6892424819385984264 : True := trivial
theorem hd.tw6898005170327248138 : True := trivial
theorem hd.tw6924109203229866365 : True := trivial
theorem hd.tw6931407450589930559 : True := trivial
theorem hd.tw697623264460660564 : True := trivial
theorem hd.tw6998783941825042932 : True := trivial
theorem hd.tw701787995468756871 : True := trivial
theorem hd.tw7023726343779634624 : True := trivial
theorem hd.tw7028611270464810887 : True := trivial
theorem hd.tw7059539395403794157 : True := trivial
theorem hd.tw7068711184596962023 : True := trivial
theorem hd.tw7109450275434161582 : True := trivial
theorem hd.tw7153062008950511462 : True := trivial
theorem hd.tw7270182246851987180 : True := trivial
theorem hd.tw728884934406724761 : True := trivial
theorem hd.tw7296583596125217682 : True := trivial
theorem hd.tw7317836474542784337 : True := trivial
theorem hd.tw732345407407602841 : True := trivial
theorem hd.tw7355570028127101125 : True := trivial
theorem hd.tw7366208706002141716 : True := trivial
theorem hd.tw7369741819223213686 : True := trivial
theorem hd.tw7382370116671421104 : True := trivial
theorem hd.tw7494724483528729301 : True := trivial
theorem hd.tw7510230149288206974 : True := trivial
theorem hd.tw7512474625130614241 : True := trivial
theorem hd.tw7519716089354478335 : True := trivial
theorem hd.tw7526368328331116154 : True := trivial
theorem hd.tw7534799579077118603 : True := trivial
theorem hd.tw7540741092611519060 : True := trivial
theorem hd.tw7578210074245671484 : True := trivial
theorem hd.tw758273949599710562 : True := trivial
theorem hd.tw7598622570094877466 : True := trivial
theorem hd.tw7610815399733428385 : True := trivial
theorem hd.tw7654286748164834634 : True := trivial
theorem hd.tw7676003278276379012 : True := trivial
theorem hd.tw7746578258024575070 : True := trivial
theorem hd.tw7754304195085646258 : True := trivial
theorem hd.tw7763873220885509757 : True := trivial
theorem hd.tw7793673504863384051 : True := trivial
theorem hd.tw7816577550770918932 : True := trivial
theorem hd.tw7854228177987924090 : True := trivial
theorem hd.tw7880807054014371918 : True := trivial
theorem hd.tw7891253978561527248 : True := trivial
theorem hd.tw7975485470687201451 : True := trivial
theorem hd.tw8015326511298524721 : True := trivial
theorem hd.tw8025032847418708242 : True := trivial
theorem hd.tw8047900516022102942 : True := trivial
theorem hd.tw8053944837975664402 : True := trivial
theorem hd.tw8068729725432388964 : True := trivial
theorem hd.tw8081886968326746073 : True := trivial
theorem hd.tw8086110750863094267 : True := trivial
theorem hd.tw8117029840178788049 : True := trivial
theorem hd.tw8134915037123179040 : True := trivial
theorem hd.tw8184699220007379433 : True := trivial
theorem hd.tw8226494294326810461 : True := trivial
theorem hd.tw8242931771332617035 : True := trivial
theorem hd.tw8268277133935991078 : True := trivial
theorem hd.tw8269573656231971908 : True := trivial
theorem hd.tw8273930003744585626 : True := trivial
theorem hd.tw8343274005884668182 : True := trivial
theorem hd.tw8364274539379898114 : True := trivial
theorem hd.tw8381844023166312768 : True := trivial
theorem hd.tw8414420238210853183 : True := trivial
theorem hd.tw8428860471423672150 : True := trivial
theorem hd.tw845060206244984605 : True := trivial
theorem hd.tw8457440626546761165 : True := trivial
theorem hd.tw8516288146210602744 : True := trivial
theorem hd.tw8538877666451538035 : True := trivial
theorem hd.tw8545014587354053640 : True := trivial
theorem hd.tw8587404781116728655 : True := trivial
theorem hd.tw8609351116199087170 : True := trivial
theorem hd.tw8664936974563722654 : True := trivial
theorem hd.tw8671608845466749128 : True := trivial
theorem hd.tw8716120427605611371 : True := trivial
theorem hd.tw8727321023445011275 : True := trivial
theorem hd.tw8735263284916673568 : True := trivial
theorem hd.tw876933089483189297 : True := trivial
theorem hd.tw8789358453043137523 : True := trivial
theorem hd.tw8801323125487838256 : True := trivial
theorem hd.tw881544763273948857 : True := trivial
theorem hd.tw8832402302947667407 : True := trivial
theorem hd.tw8841187974860818712 : True := trivial
theorem hd.tw8879563391730754479 : True := trivial
theorem hd.tw8934143017859847078 : True := trivial
theorem hd.tw8959176491354863721 : True := trivial
theorem hd.tw8960069828448710407 : True := trivial
theorem hd.tw8965841893048198262 : True := trivial
theorem hd.tw8977307856219701671 : True := trivial
theorem hd.tw9062731613947614373 : True := trivial
theorem hd.tw9170477692918782315 : True := trivial
theorem hd.tw9184186324627900627 : True := trivial
theorem hd.tw920214292312260371 : True := trivial
theorem hd.tw922143313871775805 : True := trivial
theorem hd.tw9228397985900620932 : True := trivial
theorem hd.tw9237616624170024493 : True := trivial
theorem hd.tw9271970288684553227 : True := trivial
theorem hd.tw9277588360372424766 : True := trivial
theorem hd.tw9298403506768410418 : True := trivial
theorem hd.tw9345676750909349944 : True := trivial
theorem hd.tw9345929723534960622 : True := trivial
theorem hd.tw9386895884608548742 : True := trivial
theorem hd.tw9406673726873002282 : True := trivial
theorem hd.tw9430268157657104642 : True := trivial
theorem hd.tw9496365245306024149 : True := trivial
theorem hd.tw9499510787657705874 : True := trivial
theorem hd.tw9533747618267967006 : True := trivial
theorem hd.tw9555612238305686254 : True := trivial
theorem hd.tw9566141503761928105 : True := trivial
theorem hd.tw9577689765879766989 : True := trivial
theorem hd.tw9617658007855726926 : True := trivial
theorem hd.tw9657781627882305391 : True := trivial
theorem hd.tw9673543361469618366 : True := trivial
theorem hd.tw9702936160620672325 : True := trivial
theorem hd.tw9719896912496429819 : True := trivial
theorem hd.tw9731375825926819010 : True := trivial
theorem hd.tw9741134391959003819 : True := trivial
theorem hd.tw9748044761591592747 : True := trivial
theorem hd.tw9763420282994701918 : True := trivial
theorem hd.tw978945382295711627 : True := trivial
theorem hd.tw991583007596301734 : True := trivial
theorem hd.tw9918788798289627436 : True := trivial
theorem hd.tw9960721518486171458 : True := trivial
abbrev rowF : OpenRow :=
  { prog := PySem.Challenge.pw_pb0205_01, name := (PySem.Str.ofString "attach_wanted"), records := [], args := [.int], returns := .int, pre := .lit (.bool true), post := .lit (.bool true), raises := [], mutates := [], within := [],
    unshared := true, same := none, under := ⟨true, true, true⟩, after := ⟨true, true, true⟩, apart := false, loose := [], makers := [], pinned := false, writes := false, keeps := [] }
set_option Elab.async true in
theorem hd : rowF.Holds := by
  open_k
noncomputable def K : Params → Frag := fun P =>
(nat_lit 2, boot_o_2 P) :: (nat_lit 3, hd.o_1_718 P) :: (nat_lit 15, hd.o_1_18 P) :: (nat_lit 17, hd.o_1_20 P) :: (nat_lit 18, hd.o_1_21 P) :: (nat_lit 20, hd.o_1_23 P) :: (nat_lit 21, hd.o_1_24 P) :: (nat_lit 29, hd.o_1_32 P) ::
(nat_lit 31, hd.o_1_34 P) :: (nat_lit 32, hd.o_1_35 P) :: (nat_lit 34, hd.o_1_37 P) :: (nat_lit 35, hd.o_1_38 P) :: (nat_lit 36, hd.o_1_39 P) :: (nat_lit 38, hd.o_1_41 P) :: (nat_lit 39, hd.o_1_42 P) :: (nat_lit 41, hd.o_1_44 P) ::
(nat_lit 42, hd.o_1_45 P) :: (nat_lit 43, hd.o_1_46 P) :: (nat_lit 45, hd.o_1_48 P) :: (nat_lit 46, hd.o_1_49 P) :: (nat_lit 48, hd.o_1_51 P) :: (nat_lit 49, hd.o_1_52 P) :: (nat_lit 50, hd.o_1_53 P) :: (nat_lit 51, hd.o_1_54 P) ::
(nat_lit 52, hd.o_1_55 P) :: (nat_lit 53, hd.o_1_56 P) :: (nat_lit 54, hd.o_1_57 P) :: (nat_lit 64, hd.o_1_72 P) :: (nat_lit 65, hd.o_1_73 P) :: (nat_lit 67, hd.o_1_75 P) :: (nat_lit 68, hd.o_1_76 P) :: (nat_lit 70, hd.o_1_78 P) ::
(nat_lit 71, hd.o_1_79 P) :: (nat_lit 72, hd.o_1_80 P) :: (nat_lit 75, hd.o_1_83 P) :: (nat_lit 76, hd.o_1_84 P) :: (nat_lit 77, hd.o_1_85 P) :: (nat_lit 80, hd.o_1_88 P) :: (nat_lit 81, hd.o_1_89 P) :: (nat_lit 82, hd.o_1_90 P) ::
(nat_lit 85, hd.o_1_93 P) :: (nat_lit 86, hd.o_1_94 P) :: (nat_lit 87, hd.o_1_95 P) :: (nat_lit 89, hd.o_1_97 P) :: (nat_lit 90, hd.o_1_98 P) :: (nat_lit 92, hd.o_1_100 P) :: (nat_lit 93, hd.o_1_101 P) :: (nat_lit 94, hd.o_1_102 P) ::
(nat_lit 96, hd.o_1_104 P) :: (nat_lit 97, hd.o_1_105 P) :: (nat_lit 99, hd.o_1_107 P) :: (nat_lit 100, hd.o_1_108 P) :: (nat_lit 101, hd.o_1_109 P) :: (nat_lit 102, hd.o_1_110 P) :: (nat_lit 103, hd.o_1_111 P) :: (nat_lit 104, hd.o_1_112 P) ::
(nat_lit 105, hd.o_1_113 P) :: (nat_lit 108, hd.o_1_121 P) :: (nat_lit 110, hd.o_1_123 P) :: (nat_lit 111, hd.o_1_124 P) :: (nat_lit 113, hd.o_1_126 P) :: (nat_lit 114, hd.o_1_127 P) :: (nat_lit 115, hd.o_1_128 P) :: (nat_lit 117, hd.o_1_130 P) ::
(nat_lit 118, hd.o_1_131 P) :: (nat_lit 120, hd.o_1_133 P) :: (nat_lit 121, hd.o_1_134 P) :: (nat_lit 122, hd.o_1_135 P) :: (nat_lit 125, hd.o_1_138 P) :: (nat_lit 126, hd.o_1_139 P) :: (nat_lit 127, hd.o_1_140 P) :: (nat_lit 130, hd.o_1_143 P) ::
(nat_lit 131, hd.o_1_144 P) :: (nat_lit 132, hd.o_1_145 P) :: (nat_lit 134, hd.o_1_147 P) :: (nat_lit 135, hd.o_1_148 P) :: (nat_lit 137, hd.o_1_150 P) :: (nat_lit 138, hd.o_1_151 P) :: (nat_lit 139, hd.o_1_152 P) :: (nat_lit 142, hd.o_1_155 P) ::
(nat_lit 143, hd.o_1_156 P) :: (nat_lit 144, hd.o_1_157 P) :: (nat_lit 147, hd.o_1_160 P) :: (nat_lit 148, hd.o_1_161 P) :: (nat_lit 156, hd.o_1_174 P) :: (nat_lit 158, hd.o_1_176 P) :: (nat_lit 159, hd.o_1_177 P) :: (nat_lit 161, hd.o_1_179 P) ::
(nat_lit 162, hd.o_1_180 P) :: (nat_lit 163, hd.o_1_181 P) :: (nat_lit 166, hd.o_1_184 P) :: (nat_lit 167, hd.o_1_185 P) :: (nat_lit 168, hd.o_1_186 P) :: (nat_lit 169, hd.o_1_187 P) :: (nat_lit 170, hd.o_1_188 P) :: (nat_lit 171, hd.o_1_189 P) ::
(nat_lit 172, hd.o_1_190 P) :: (nat_lit 175, hd.o_1_193 P) :: (nat_lit 177, hd.o_1_195 P) :: (nat_lit 178, hd.o_1_196 P) :: (nat_lit 180, hd.o_1_198 P) :: (nat_lit 181, hd.o_1_199 P) :: (nat_lit 182, hd.o_1_200 P) :: (nat_lit 184, hd.o_1_202 P) ::
(nat_lit 185, hd.o_1_203 P) :: (nat_lit 187, hd.o_1_205 P) :: (nat_lit 188, hd.o_1_206 P) :: (nat_lit 189, hd.o_1_207 P) :: (nat_lit 191, hd.o_1_209 P) :: (nat_lit 192, hd.o_1_210 P) :: (nat_lit 194, hd.o_1_212 P) :: (nat_lit 195, hd.o_1_213 P) ::
(nat_lit 196, hd.o_1_214 P) :: (nat_lit 198, hd.o_1_216 P) :: (nat_lit 199, hd.o_1_217 P) :: (nat_lit 201, hd.o_1_219 P) :: (nat_lit 202, hd.o_1_220 P) :: (nat_lit 210, hd.o_1_233 P) :: (nat_lit 212, hd.o_1_235 P) :: (nat_lit 213, hd.o_1_236 P) ::
(nat_lit 215, hd.o_1_238 P) :: (nat_lit 216, hd.o_1_239 P) :: (nat_lit 217, hd.o_1_240 P) :: (nat_lit 219, hd.o_1_242 P) :: (nat_lit 220, hd.o_1_243 P) :: (nat_lit 222, hd.o_1_245 P) :: (nat_lit 223, hd.o_1_246 P) :: (nat_lit 224, hd.o_1_247 P) ::
(nat_lit 226, hd.o_1_249 P) :: (nat_lit 227, hd.o_1_250 P) :: (nat_lit 229, hd.o_1_252 P) :: (nat_lit 230, hd.o_1_253 P) :: (nat_lit 231, hd.o_1_254 P) :: (nat_lit 233, hd.o_1_256 P) :: (nat_lit 234, hd.o_1_257 P) :: (nat_lit 236, hd.o_1_259 P) ::
(nat_lit 237, hd.o_1_260 P) :: (nat_lit 238, hd.o_1_261 P) :: (nat_lit 241, hd.o_1_264 P) :: (nat_lit 242, hd.o_1_265 P) :: (nat_lit 243, hd.o_1_266 P) :: (nat_lit 244, hd.o_1_267 P) :: (nat_lit 245, hd.o_1_268 P) :: (nat_lit 246, hd.o_1_269 P) ::
(nat_lit 247, hd.o_1_270 P) :: (nat_lit 257, hd.o_1_285 P) :: (nat_lit 259, hd.o_1_287 P) :: (nat_lit 260, hd.o_1_288 P) :: (nat_lit 262, hd.o_1_290 P) :: (nat_lit 263, hd.o_1_291 P) :: (nat_lit 264, hd.o_1_292 P) :: (nat_lit 267, hd.o_1_295 P) ::
(nat_lit 268, hd.o_1_296 P) :: (nat_lit 269, hd.o_1_297 P) :: (nat_lit 270, hd.o_1_298 P) :: (nat_lit 271, hd.o_1_299 P) :: (nat_lit 272, hd.o_1_300 P) :: (nat_lit 273, hd.o_1_301 P) :: (nat_lit 283, hd.o_1_316 P) :: (nat_lit 284, hd.o_1_317 P) ::
(nat_lit 286, hd.o_1_319 P) :: (nat_lit 287, hd.o_1_320 P) :: (nat_lit 289, hd.o_1_322 P) :: (nat_lit 290, hd.o_1_323 P) :: (nat_lit 291, hd.o_1_324 P) :: (nat_lit 292, hd.o_1_325 P) :: (nat_lit 293, hd.o_1_326 P) :: (nat_lit 294, hd.o_1_327 P) ::
(nat_lit 295, hd.o_1_328 P) :: (nat_lit 298, hd.o_1_331 P) :: (nat_lit 300, hd.o_1_333 P) :: (nat_lit 301, hd.o_1_334 P) :: (nat_lit 303, hd.o_1_336 P) :: (nat_lit 304, hd.o_1_337 P) :: (nat_lit 305, hd.o_1_338 P) :: (nat_lit 307, hd.o_1_340 P) ::
(nat_lit 308, hd.o_1_341 P) :: (nat_lit 310, hd.o_1_343 P) :: (nat_lit 311, hd.o_1_344 P) :: (nat_lit 312, hd.o_1_345 P) :: (nat_lit 314, hd.o_1_347 P) :: (nat_lit 315, hd.o_1_348 P) :: (nat_lit 317, hd.o_1_350 P) :: (nat_lit 318, hd.o_1_351 P) ::
(nat_lit 319, hd.o_1_352 P) :: (nat_lit 321, hd.o_1_354 P) :: (nat_lit 322, hd.o_1_355 P) :: (nat_lit 324, hd.o_1_357 P) :: (nat_lit 325, hd.o_1_358 P) :: (nat_lit 326, hd.o_1_359 P) :: (nat_lit 328, hd.o_1_361 P) :: (nat_lit 329, hd.o_1_362 P) ::
(nat_lit 331, hd.o_1_364 P) :: (nat_lit 332, hd.o_1_365 P) :: (nat_lit 333, hd.o_1_371 P) :: (nat_lit 335, hd.o_1_373 P) :: (nat_lit 336, hd.o_1_374 P) :: (nat_lit 338, hd.o_1_376 P) :: (nat_lit 339, hd.o_1_377 P) :: (nat_lit 347, hd.o_1_390 P) ::
(nat_lit 348, hd.o_1_391 P) :: (nat_lit 350, hd.o_1_393 P) :: (nat_lit 351, hd.o_1_394 P) :: (nat_lit 353, hd.o_1_396 P) :: (nat_lit 354, hd.o_1_397 P) :: (nat_lit 355, hd.o_1_398 P) :: (nat_lit 357, hd.o_1_400 P) :: (nat_lit 358, hd.o_1_401 P) ::
(nat_lit 360, hd.o_1_403 P) :: (nat_lit 361, hd.o_1_404 P) :: (nat_lit 362, hd.o_1_405 P) :: (nat_lit 364, hd.o_1_407 P) :: (nat_lit 365, hd.o_1_408 P) :: (nat_lit 367, hd.o_1_410 P) :: (nat_lit 368, hd.o_1_411 P) :: (nat_lit 369, hd.o_1_412 P) ::
(nat_lit 371, hd.o_1_414 P) :: (nat_lit 372, hd.o_1_415 P) :: (nat_lit 374, hd.o_1_417 P) :: (nat_lit 375, hd.o_1_418 P) :: (nat_lit 376, hd.o_1_419 P) :: (nat_lit 379, hd.o_1_422 P) :: (nat_lit 380, hd.o_1_423 P) :: (nat_lit 381, hd.o_1_424 P) ::
(nat_lit 382, hd.o_1_425 P) :: (nat_lit 383, hd.o_1_426 P) :: (nat_lit 384, hd.o_1_427 P) :: (nat_lit 385, hd.o_1_428 P) :: (nat_lit 388, hd.o_1_431 P) :: (nat_lit 389, hd.o_1_432 P) :: (nat_lit 390, hd.o_1_438 P) :: (nat_lit 393, hd.o_1_441 P) ::
(nat_lit 394, hd.o_1_442 P) :: (nat_lit 395, hd.o_1_443 P) :: (nat_lit 398, hd.o_1_446 P) :: (nat_lit 399, hd.o_1_447 P) :: (nat_lit 400, hd.o_1_448 P) :: (nat_lit 402, hd.o_1_450 P) :: (nat_lit 403, hd.o_1_451 P) :: (nat_lit 405, hd.o_1_453 P) ::
(nat_lit 406, hd.o_1_454 P) :: (nat_lit 407, hd.o_1_455 P) :: (nat_lit 409, hd.o_1_457 P) :: (nat_lit 410, hd.o_1_458 P) :: (nat_lit 412, hd.o_1_460 P) :: (nat_lit 413, hd.o_1_461 P) :: (nat_lit 414, hd.o_1_462 P) :: (nat_lit 416, hd.o_1_464 P) ::
(nat_lit 417, hd.o_1_465 P) :: (nat_lit 419, hd.o_1_467 P) :: (nat_lit 420, hd.o_1_468 P) :: (nat_lit 421, hd.o_1_469 P) :: (nat_lit 423, hd.o_1_471 P) :: (nat_lit 424, hd.o_1_472 P) :: (nat_lit 426, hd.o_1_474 P) :: (nat_lit 427, hd.o_1_475 P) ::
(nat_lit 428, hd.o_1_476 P) :: (nat_lit 430, hd.o_1_478 P) :: (nat_lit 431, hd.o_1_479 P) :: (nat_lit 433, hd.o_1_481 P) :: (nat_lit 434, hd.o_1_482 P) :: (nat_lit 435, hd.o_1_483 P) :: (nat_lit 437, hd.o_1_485 P) :: (nat_lit 438, hd.o_1_486 P) ::
(nat_lit 440, hd.o_1_488 P) :: (nat_lit 441, hd.o_1_489 P) :: (nat_lit 442, hd.o_1_490 P) :: (nat_lit 444, hd.o_1_492 P) :: (nat_lit 445, hd.o_1_493 P) :: (nat_lit 447, hd.o_1_495 P) :: (nat_lit 448, hd.o_1_496 P) :: (nat_lit 449, hd.o_1_497 P) ::
(nat_lit 451, hd.o_1_499 P) :: (nat_lit 452, hd.o_1_500 P) :: (nat_lit 454, hd.o_1_502 P) :: (nat_lit 455, hd.o_1_503 P) :: (nat_lit 456, hd.o_1_504 P) :: (nat_lit 458, hd.o_1_506 P) :: (nat_lit 459, hd.o_1_507 P) :: (nat_lit 461, hd.o_1_509 P) ::
(nat_lit 462, hd.o_1_510 P) :: (nat_lit 463, hd.o_1_511 P) :: (nat_lit 465, hd.o_1_513 P) :: (nat_lit 466, hd.o_1_514 P) :: (nat_lit 468, hd.o_1_516 P) :: (nat_lit 469, hd.o_1_517 P) :: (nat_lit 470, hd.o_1_523 P) :: (nat_lit 473, hd.o_1_526 P) ::
(nat_lit 474, hd.o_1_527 P) :: (nat_lit 475, hd.o_1_528 P) :: (nat_lit 477, hd.o_1_530 P) :: (nat_lit 478, hd.o_1_531 P) :: (nat_lit 480, hd.o_1_533 P) :: (nat_lit 481, hd.o_1_534 P) :: (nat_lit 482, hd.o_1_535 P) :: (nat_lit 484, hd.o_1_537 P) ::
(nat_lit 485, hd.o_1_538 P) :: (nat_lit 487, hd.o_1_540 P) :: (nat_lit 488, hd.o_1_541 P) :: (nat_lit 489, hd.o_1_542 P) :: (nat_lit 491, hd.o_1_544 P) :: (nat_lit 492, hd.o_1_545 P) :: (nat_lit 494, hd.o_1_547 P) :: (nat_lit 495, hd.o_1_548 P) ::
(nat_lit 496, hd.o_1_549 P) :: (nat_lit 499, hd.o_1_552 P) :: (nat_lit 500, hd.o_1_553 P) :: (nat_lit 501, hd.o_1_554 P) :: (nat_lit 503, hd.o_1_556 P) :: (nat_lit 504, hd.o_1_557 P) :: (nat_lit 506, hd.o_1_559 P) :: (nat_lit 507, hd.o_1_560 P) ::
(nat_lit 508, hd.o_1_561 P) :: (nat_lit 511, hd.o_1_564 P) :: (nat_lit 512, hd.o_1_565 P) :: (nat_lit 513, hd.o_1_566 P) :: (nat_lit 515, hd.o_1_568 P) :: (nat_lit 516, hd.o_1_569 P) :: (nat_lit 518, hd.o_1_571 P) :: (nat_lit 519, hd.o_1_572 P) ::
(nat_lit 520, hd.o_1_573 P) :: (nat_lit 523, hd.o_1_576 P) :: (nat_lit 524, hd.o_1_577 P) :: (nat_lit 532, hd.o_1_590 P) :: (nat_lit 534, hd.o_1_592 P) :: (nat_lit 535, hd.o_1_593 P) :: (nat_lit 537, hd.o_1_595 P) :: (nat_lit 538, hd.o_1_596 P) ::
(nat_lit 539, hd.o_1_597 P) :: (nat_lit 540, hd.o_1_598 P) :: (nat_lit 541, hd.o_1_599 P) :: (nat_lit 542, hd.o_1_600 P) :: (nat_lit 543, hd.o_1_601 P) :: (nat_lit 546, hd.o_1_604 P) :: (nat_lit 548, hd.o_1_606 P) :: (nat_lit 549, hd.o_1_607 P) ::
(nat_lit 551, hd.o_1_609 P) :: (nat_lit 552, hd.o_1_610 P) :: (nat_lit 553, hd.o_1_611 P) :: (nat_lit 555, hd.o_1_613 P) :: (nat_lit 556, hd.o_1_614 P) :: (nat_lit 558, hd.o_1_616 P) :: (nat_lit 559, hd.o_1_617 P) :: (nat_lit 560, hd.o_1_618 P) ::
(nat_lit 563, hd.o_1_621 P) :: (nat_lit 564, hd.o_1_622 P) :: (nat_lit 565, hd.o_1_623 P) :: (nat_lit 568, hd.o_1_626 P) :: (nat_lit 569, hd.o_1_627 P) :: (nat_lit 570, hd.o_1_628 P) :: (nat_lit 572, hd.o_1_630 P) :: (nat_lit 573, hd.o_1_631 P) ::
(nat_lit 575, hd.o_1_633 P) :: (nat_lit 576, hd.o_1_634 P) :: (nat_lit 577, hd.o_1_640 P) :: (nat_lit 579, hd.o_1_642 P) :: (nat_lit 580, hd.o_1_643 P) :: (nat_lit 582, hd.o_1_645 P) :: (nat_lit 583, hd.o_1_646 P) :: (nat_lit 584, hd.o_1_647 P) ::
(nat_lit 586, hd.o_1_649 P) :: (nat_lit 587, hd.o_1_650 P) :: (nat_lit 589, hd.o_1_652 P) :: (nat_lit 590, hd.o_1_653 P) :: (nat_lit 591, hd.o_1_654 P) :: (nat_lit 593, hd.o_1_656 P) :: (nat_lit 594, hd.o_1_657 P) :: (nat_lit 596, hd.o_1_659 P) ::
(nat_lit 597, hd.o_1_660 P) :: (nat_lit 598, hd.o_1_661 P) :: (nat_lit 600, hd.o_1_663 P) :: (nat_lit 601, hd.o_1_664 P) :: (nat_lit 603, hd.o_1_666 P) :: (nat_lit 604, hd.o_1_667 P) :: (nat_lit 605, hd.o_1_668 P) :: (nat_lit 607, hd.o_1_670 P) ::
(nat_lit 608, hd.o_1_671 P) :: (nat_lit 610, hd.o_1_673 P) :: (nat_lit 611, hd.o_1_674 P) :: (nat_lit 612, hd.o_1_675 P) :: (nat_lit 614, hd.o_1_677 P) :: (nat_lit 615, hd.o_1_678 P) :: (nat_lit 617, hd.o_1_680 P) :: (nat_lit 618, hd.o_1_681 P) ::
(nat_lit 619, hd.o_1_682 P) :: (nat_lit 621, hd.o_1_684 P) :: (nat_lit 622, hd.o_1_685 P) :: (nat_lit 624, hd.o_1_687 P) :: (nat_lit 625, hd.o_1_688 P) :: (nat_lit 626, hd.o_1_689 P) :: (nat_lit 628, hd.o_1_691 P) :: (nat_lit 629, hd.o_1_692 P) ::
(nat_lit 631, hd.o_1_694 P) :: (nat_lit 632, hd.o_1_695 P) :: (nat_lit 633, hd.o_1_696 P) :: (nat_lit 635, hd.o_1_698 P) :: (nat_lit 636, hd.o_1_699 P) :: (nat_lit 638, hd.o_1_701 P) :: (nat_lit 639, hd.o_1_702 P) :: (nat_lit 640, hd.o_1_703 P) ::
(nat_lit 643, hd.o_1_706 P) :: (nat_lit 644, hd.o_1_707 P) :: (nat_lit 645, hd.o_1_708 P) :: (nat_lit 647, hd.o_1_710 P) :: (nat_lit 648, hd.o_1_711 P) :: (nat_lit 650, hd.o_1_713 P) :: (nat_lit 651, hd.o_1_714 P) :: (nat_lit 652, hd.o_1_720 P) ::
(nat_lit 655, hd.o_1_723 P) :: (nat_lit 656, hd.o_1_724 P) :: (nat_lit 657, hd.o_1_725 P) :: (nat_lit 659, hd.o_1_727 P) :: (nat_lit 660, hd.o_1_728 P) :: (nat_lit 662, hd.o_1_730 P) :: (nat_lit 663, hd.o_1_731 P) :: (nat_lit 664, hd.o_1_732 P) ::
(nat_lit 667, hd.o_1_735 P) :: (nat_lit 668, hd.o_1_736 P) :: (nat_lit 669, hd.o_1_737 P) :: (nat_lit 671, hd.o_1_739 P) :: (nat_lit 672, hd.o_1_740 P) :: (nat_lit 674, hd.o_1_742 P) :: (nat_lit 675, hd.o_1_743 P) :: (nat_lit 676, hd.o_1_744 P) ::
(nat_lit 679, hd.o_1_747 P) :: (nat_lit 680, hd.o_1_748 P) ::
  []
def kas : List Addr := nat_lit 2 :: nat_lit 3 :: nat_lit 15 :: nat_lit 17 :: nat_lit 18 :: nat_lit 20 :: nat_lit 21 :: nat_lit 29 :: nat_lit 31 :: nat_lit 32 :: nat_lit 34 :: nat_lit 35 :: nat_lit 36 :: nat_lit 38 :: nat_lit 39 :: nat_lit 41 :: nat_lit 42 :: nat_lit 43 :: nat_lit 45 :: nat_lit 46 :: nat_lit 48 :: nat_lit 49 :: nat_lit 50 :: nat_lit 51 :: nat_lit 52 :: nat_lit 53 :: nat_lit 54 :: nat_lit 64 :: nat_lit 65 :: nat_lit 67 :: nat_lit 68 :: nat_lit 70 :: nat_lit 71 :: nat_lit 72 :: nat_lit 75 :: nat_lit 76 :: nat_lit 77 :: nat_lit 80 :: nat_lit 81 :: nat_lit 82 :: nat_lit 85 :: nat_lit 86 :: nat_lit 87 :: nat_lit 89 :: nat_lit 90 :: nat_lit 92 :: nat_lit 93 :: nat_lit 94 :: nat_lit 96 :: nat_lit 97 :: nat_lit 99 :: nat_lit 100 :: nat_lit 101 :: nat_lit 102 :: nat_lit 103 :: nat_lit 104 :: nat_lit 105 :: nat_lit 108 :: nat_lit 110 :: nat_lit 111 :: nat_lit 113 :: nat_lit 114 :: nat_lit 115 :: nat_lit 117 :: nat_lit 118 :: nat_lit 120 :: nat_lit 121 :: nat_lit 122 :: nat_lit 125 :: nat_lit 126 :: nat_lit 127 :: nat_lit 130 :: nat_lit 131 :: nat_lit 132 :: nat_lit 134 :: nat_lit 135 :: nat_lit 137 :: nat_lit 138 :: nat_lit 139 :: nat_lit 142 :: nat_lit 143 :: nat_lit 144 :: nat_lit 147 :: nat_lit 148 :: nat_lit 156 :: nat_lit 158 :: nat_lit 159 :: nat_lit 161 :: nat_lit 162 :: nat_lit 163 :: nat_lit 166 :: nat_lit 167 :: nat_lit 168 :: nat_lit 169 :: nat_lit 170 :: nat_lit 171 :: nat_lit 172 :: nat_lit 175 :: nat_lit 177 :: nat_lit 178 :: nat_lit 180 :: nat_lit 181 :: nat_lit 182 :: nat_lit 184 :: nat_lit 185 :: nat_lit 187 :: nat_lit 188 :: nat_lit 189 :: nat_lit 191 :: nat_lit 192 :: nat_lit 194 :: nat_lit 195 :: nat_lit 196 :: nat_lit 198 :: nat_lit 199 :: nat_lit 201 :: nat_lit 202 :: nat_lit 210 :: nat_lit 212 :: nat_lit 213 :: nat_lit 215 :: nat_lit 216 :: nat_lit 217 :: nat_lit 219 :: nat_lit 220 :: nat_lit 222 :: nat_lit 223 :: nat_lit 224 :: nat_lit 226 :: nat_lit 227 :: nat_lit 229 :: nat_lit 230 :: nat_lit 231 :: nat_lit 233 :: nat_lit 234 :: nat_lit 236 :: nat_lit 237 :: nat_lit 238 :: nat_lit 241 :: nat_lit 242 :: nat_lit 243 :: nat_lit 244 :: nat_lit 245 :: nat_lit 246 :: nat_lit 247 :: nat_lit 257 :: nat_lit 259 :: nat_lit 260 :: nat_lit 262 :: nat_lit 263 :: nat_lit 264 :: nat_lit 267 :: nat_lit 268 :: nat_lit 269 :: nat_lit 270 :: nat_lit 271 :: nat_lit 272 :: nat_lit 273 :: nat_lit 283 :: nat_lit 284 :: nat_lit 286 :: nat_lit 287 :: nat_lit 289 :: nat_lit 290 :: nat_lit 291 :: nat_lit 292 :: nat_lit 293 :: nat_lit 294 :: nat_lit 295 :: nat_lit 298 :: nat_lit 300 :: nat_lit 301 :: nat_lit 303 :: nat_lit 304 :: nat_lit 305 :: nat_lit 307 :: nat_lit 308 :: nat_lit 310 :: nat_lit 311 :: nat_lit 312 :: nat_lit 314 :: nat_lit 315 :: nat_lit 317 :: nat_lit 318 :: nat_lit 319 :: nat_lit 321 :: nat_lit 322 :: nat_lit 324 :: nat_lit 325 :: nat_lit 326 :: nat_lit 328 :: nat_lit 329 :: nat_lit 331 :: nat_lit 332 :: nat_lit 333 :: nat_lit 335 :: nat_lit 336 :: nat_lit 338 :: nat_lit 339 :: nat_lit 347 :: nat_lit 348 :: nat_lit 350 :: nat_lit 351 :: nat_lit 353 :: nat_lit 354 :: nat_lit 355 :: nat_lit 357 :: nat_lit 358 :: nat_lit 360 :: nat_lit 361 :: nat_lit 362 :: nat_lit 364 :: nat_lit 365 :: nat_lit 367 :: nat_lit 368 :: nat_lit 369 :: nat_lit 371 :: nat_lit 372 :: nat_lit 374 :: nat_lit 375 :: nat_lit 376 :: nat_lit 379 :: nat_lit 380 :: nat_lit 381 :: nat_lit 382 :: nat_lit 383 :: nat_lit 384 :: nat_lit 385 :: nat_lit 388 :: nat_lit 389 :: nat_lit 390 :: nat_lit 393 :: nat_lit 394 :: nat_lit 395 :: nat_lit 398 :: nat_lit 399 :: nat_lit 400 :: nat_lit 402 :: nat_lit 403 :: nat_lit 405 :: nat_lit 406 :: nat_lit 407 :: nat_lit 409 :: nat_lit 410 :: nat_lit 412 :: nat_lit 413 :: nat_lit 414 :: nat_lit 416 :: nat_lit 417 :: nat_lit 419 :: nat_lit 420 :: nat_lit 421 :: nat_lit 423 :: nat_lit 424 :: nat_lit 426 :: nat_lit 427 :: nat_lit 428 :: nat_lit 430 :: nat_lit 431 :: nat_lit 433 :: nat_lit 434 :: nat_lit 435 :: nat_lit 437 :: nat_lit 438 :: nat_lit 440 :: nat_lit 441 :: nat_lit 442 :: nat_lit 444 :: nat_lit 445 :: nat_lit 447 :: nat_lit 448 :: nat_lit 449 :: nat_lit 451 :: nat_lit 452 :: nat_lit 454 :: nat_lit 455 :: nat_lit 456 :: nat_lit 458 :: nat_lit 459 :: nat_lit 461 :: nat_lit 462 :: nat_lit 463 :: nat_lit 465 :: nat_lit 466 :: nat_lit 468 :: nat_lit 469 :: nat_lit 470 :: nat_lit 473 :: nat_lit 474 :: nat_lit 475 :: nat_lit 477 :: nat_lit 478 :: nat_lit 480 :: nat_lit 481 :: nat_lit 482 :: nat_lit 484 :: nat_lit 485 :: nat_lit 487 :: nat_lit 488 :: nat_lit 489 :: nat_lit 491 :: nat_lit 492 :: nat_lit 494 :: nat_lit 495 :: nat_lit 496 :: nat_lit 499 :: nat_lit 500 :: nat_lit 501 :: nat_lit 503 :: nat_lit 504 :: nat_lit 506 :: nat_lit 507 :: nat_lit 508 :: nat_lit 511 :: nat_lit 512 :: nat_lit 513 :: nat_lit 515 :: nat_lit 516 :: nat_lit 518 :: nat_lit 519 :: nat_lit 520 :: nat_lit 523 :: nat_lit 524 :: nat_lit 532 :: nat_lit 534 :: nat_lit 535 :: nat_lit 537 :: nat_lit 538 :: nat_lit 539 :: nat_lit 540 :: nat_lit 541 :: nat_lit 542 :: nat_lit 543 :: nat_lit 546 :: nat_lit 548 :: nat_lit 549 :: nat_lit 551 :: nat_lit 552 :: nat_lit 553 :: nat_lit 555 :: nat_lit 556 :: nat_lit 558 :: nat_lit 559 :: nat_lit 560 :: nat_lit 563 :: nat_lit 564 :: nat_lit 565 :: nat_lit 568 :: nat_lit 569 :: nat_lit 570 :: nat_lit 572 :: nat_lit 573 :: nat_lit 575 :: nat_lit 576 :: nat_lit 577 :: nat_lit 579 :: nat_lit 580 :: nat_lit 582 :: nat_lit 583 :: nat_lit 584 :: nat_lit 586 :: nat_lit 587 :: nat_lit 589 :: nat_lit 590 :: nat_lit 591 :: nat_lit 593 :: nat_lit 594 :: nat_lit 596 :: nat_lit 597 :: nat_lit 598 :: nat_lit 600 :: nat_lit 601 :: nat_lit 603 :: nat_lit 604 :: nat_lit 605 :: nat_lit 607 :: nat_lit 608 :: nat_lit 610 :: nat_lit 611 :: nat_lit 612 :: nat_lit 614 :: nat_lit 615 :: nat_lit 617 :: nat_lit 618 :: nat_lit 619 :: nat_lit 621 :: nat_lit 622 :: nat_lit 624 :: nat_lit 625 :: nat_lit 626 :: nat_lit 628 :: nat_lit 629 :: nat_lit 631 :: nat_lit 632 :: nat_lit 633 :: nat_lit 635 :: nat_lit 636 :: nat_lit 638 :: nat_lit 639 :: nat_lit 640 :: nat_lit 643 :: nat_lit 644 :: nat_lit 645 :: nat_lit 647 :: nat_lit 648 :: nat_lit 650 :: nat_lit 651 :: nat_lit 652 :: nat_lit 655 :: nat_lit 656 :: nat_lit 657 :: nat_lit 659 :: nat_lit 660 :: nat_lit 662 :: nat_lit 663 :: nat_lit 664 :: nat_lit 667 :: nat_lit 668 :: nat_lit 669 :: nat_lit 671 :: nat_lit 672 :: nat_lit 674 :: nat_lit 675 :: nat_lit 676 :: nat_lit 679 :: nat_lit 680 :: []
theorem kas_ok : ∀ P, kas = (K P).map (·.1) := fun _ => rfl
example : PySem.Challenge.rw_pb0205_01.Holds ∨ K = K := by
  k_fill
  exact .inr rfl
example : True := by
  w_top off
  trivial
/- Base -/
section
/-- the facts that every call's proof wants of its caller -/
structure Cx (w : World) (p : Program) (loose : List Str) (mean : ExcName → Option Value) (mg mb : Str → Option Value) (A₀ : Around) (base h₀ : Heap) (outer : List Env) (cs : Scope) : Prop where
  B : Below A₀ base outer h₀
  X : (K w.params).In h₀
  T : Top p loose mean mg mb h₀
  k : cs.kind = .function

theorem fmod_bounds {a b : Int} (h : 0 < b) : 0 ≤ a.fmod b ∧ a.fmod b < b :=
  ⟨Int.fmod_nonneg_of_pos _ h, Int.fmod_lt_of_pos _ h⟩
theorem set_pos {ns : List Int} {i : Nat} {x l : Int} (h : ∀ x ∈ ns, 0 ≤ x) (hx : 0 < x) (hl : 1 ≤ l) : ∀ y ∈ ns.set i (x.fdiv l), 0 ≤ y := by
  intro y hy
  rcases List.mem_or_eq_of_mem_set hy with h1 | h1
  · exact h y h1
  · rw [h1]; exact Int.fdiv_nonneg (by omega) (by omega)

/-- the number that a mask tells in `w` bits from place `s` on -/
def numb (mk : Int) (s w : Nat) : Int := mk / 2 ^ s % 2 ^ w
def bitsOf (s w : Nat) : Int := (2 ^ w - 1) * 2 ^ s
/-- a goal that the walk leaves alone -/
def Hold (P : Prop) : Prop := P
theorem Hold.out {P : Prop} (h : Hold P) : P := h
/-- two addresses apart, out of omega's sight: its splits on many disequalities do not end -/
def Apart (a b : Nat) : Prop := a ≠ b
theorem Apart.out {a b : Nat} (h : Apart a b) : @Ne Nat a b := h
theorem Apart.of {a b : Nat} (h : @Ne Nat a b) : Apart a b := h

/-- a statement's start: the tokens' number is any -/
theorem stat1 {α : Type} {prog : Program} {w : World} {A : Around} {x : Sem α} {Q : α → Shared → Prop} {E : Value → Shared → Prop} {H h h₀ : Heap} {G : Array GenState} {D : Drawn} {t : Nat} {O : OsState} {s : Shared} {L : Addr} {m : Str → Option Value}
    (_F : Fr h₀ L h m) (e1 : H = h) (e2 : G = s.gens) (e3 : D = s.drawn) (e4 : O = s.os) (k : ∀ tk, wpAny (model prog w) A x Q E ⟨h, s.gens, s.drawn, tk, s.os⟩) : wpAny (model prog w) A x Q E ⟨H, G, D, t + 1, O⟩ := by
  subst e1 e2 e3 e4
  exact k _
/-- order facts out of a conjunction: the k-th member -/
theorem la0 {q : Prop} {a b : Nat} (h : a < b ∧ q) : a ≠ b := Nat.ne_of_lt h.1
theorem ga0 {q : Prop} {a b : Nat} (h : b < a ∧ q) : a ≠ b := Nat.ne_of_gt h.1
theorem la1 {p0 q : Prop} {a b : Nat} (h : p0 ∧ a < b ∧ q) : a ≠ b := Nat.ne_of_lt h.2.1
theorem ga1 {p0 q : Prop} {a b : Nat} (h : p0 ∧ b < a ∧ q) : a ≠ b := Nat.ne_of_gt h.2.1
theorem la2 {p0 p1 q : Prop} {a b : Nat} (h : p0 ∧ p1 ∧ a < b ∧ q) : a ≠ b := Nat.ne_of_lt h.2.2.1
theorem ga2 {p0 p1 q : Prop} {a b : Nat} (h : p0 ∧ p1 ∧ b < a ∧ q) : a ≠ b := Nat.ne_of_gt h.2.2.1
theorem la3 {p0 p1 p2 q : Prop} {a b : Nat} (h : p0 ∧ p1 ∧ p2 ∧ a < b ∧ q) : a ≠ b := Nat.ne_of_lt h.2.2.2.1
theorem ga3 {p0 p1 p2 q : Prop} {a b : Nat} (h : p0 ∧ p1 ∧ p2 ∧ b < a ∧ q) : a ≠ b := Nat.ne_of_gt h.2.2.2.1
theorem la4 {p0 p1 p2 p3 q : Prop} {a b : Nat} (h : p0 ∧ p1 ∧ p2 ∧ p3 ∧ a < b ∧ q) : a ≠ b := Nat.ne_of_lt h.2.2.2.2.1
theorem ga4 {p0 p1 p2 p3 q : Prop} {a b : Nat} (h : p0 ∧ p1 ∧ p2 ∧ p3 ∧ b < a ∧ q) : a ≠ b := Nat.ne_of_gt h.2.2.2.2.1
theorem la5 {p0 p1 p2 p3 p4 q : Prop} {a b : Nat} (h : p0 ∧ p1 ∧ p2 ∧ p3 ∧ p4 ∧ a < b ∧ q) : a ≠ b := Nat.ne_of_lt h.2.2.2.2.2.1
theorem ga5 {p0 p1 p2 p3 p4 q : Prop} {a b : Nat} (h : p0 ∧ p1 ∧ p2 ∧ p3 ∧ p4 ∧ b < a ∧ q) : a ≠ b := Nat.ne_of_gt h.2.2.2.2.2.1
theorem la6 {p0 p1 p2 p3 p4 p5 q : Prop} {a b : Nat} (h : p0 ∧ p1 ∧ p2 ∧ p3 ∧ p4 ∧ p5 ∧ a < b ∧ q) : a ≠ b := Nat.ne_of_lt h.2.2.2.2.2.2.1
theorem ga6 {p0 p1 p2 p3 p4 p5 q : Prop} {a b : Nat} (h : p0 ∧ p1 ∧ p2 ∧ p3 ∧ p4 ∧ p5 ∧ b < a ∧ q) : a ≠ b := Nat.ne_of_gt h.2.2.2.2.2.2.1
theorem la7 {p0 p1 p2 p3 p4 p5 p6 q : Prop} {a b : Nat} (h : p0 ∧ p1 ∧ p2 ∧ p3 ∧ p4 ∧ p5 ∧ p6 ∧ a < b ∧ q) : a ≠ b := Nat.ne_of_lt h.2.2.2.2.2.2.2.1
theorem ga7 {p0 p1 p2 p3 p4 p5 p6 q : Prop} {a b : Nat} (h : p0 ∧ p1 ∧ p2 ∧ p3 ∧ p4 ∧ p5 ∧ p6 ∧ b < a ∧ q) : a ≠ b := Nat.ne_of_gt h.2.2.2.2.2.2.2.1
theorem la8 {p0 p1 p2 p3 p4 p5 p6 p7 q : Prop} {a b : Nat} (h : p0 ∧ p1 ∧ p2 ∧ p3 ∧ p4 ∧ p5 ∧ p6 ∧ p7 ∧ a < b ∧ q) : a ≠ b := Nat.ne_of_lt h.2.2.2.2.2.2.2.2.1
theorem ga8 {p0 p1 p2 p3 p4 p5 p6 p7 q : Prop} {a b : Nat} (h : p0 ∧ p1 ∧ p2 ∧ p3 ∧ p4 ∧ p5 ∧ p6 ∧ p7 ∧ b < a ∧ q) : a ≠ b := Nat.ne_of_gt h.2.2.2.2.2.2.2.2.1
theorem la9 {p0 p1 p2 p3 p4 p5 p6 p7 p8 q : Prop} {a b : Nat} (h : p0 ∧ p1 ∧ p2 ∧ p3 ∧ p4 ∧ p5 ∧ p6 ∧ p7 ∧ p8 ∧ a < b ∧ q) : a ≠ b := Nat.ne_of_lt h.2.2.2.2.2.2.2.2.2.1
theorem ga9 {p0 p1 p2 p3 p4 p5 p6 p7 p8 q : Prop} {a b : Nat} (h : p0 ∧ p1 ∧ p2 ∧ p3 ∧ p4 ∧ p5 ∧ p6 ∧ p7 ∧ p8 ∧ b < a ∧ q) : a ≠ b := Nat.ne_of_gt h.2.2.2.2.2.2.2.2.2.1
theorem la10 {p0 p1 p2 p3 p4 p5 p6 p7 p8 p9 q : Prop} {a b : Nat} (h : p0 ∧ p1 ∧ p2 ∧ p3 ∧ p4 ∧ p5 ∧ p6 ∧ p7 ∧ p8 ∧ p9 ∧ a < b ∧ q) : a ≠ b := Nat.ne_of_lt h.2.2.2.2.2.2.2.2.2.2.1
theorem ga10 {p0 p1 p2 p3 p4 p5 p6 p7 p8 p9 q : Prop} {a b : Nat} (h : p0 ∧ p1 ∧ p2 ∧ p3 ∧ p4 ∧ p5 ∧ p6 ∧ p7 ∧ p8 ∧ p9 ∧ b < a ∧ q) : a ≠ b := Nat.ne_of_gt h.2.2.2.2.2.2.2.2.2.2.1
theorem la11 {p0 p1 p2 p3 p4 p5 p6 p7 p8 p9 p10 q : Prop} {a b : Nat} (h : p0 ∧ p1 ∧ p2 ∧ p3 ∧ p4 ∧ p5 ∧ p6 ∧ p7 ∧ p8 ∧ p9 ∧ p10 ∧ a < b ∧ q) : a ≠ b := Nat.ne_of_lt h.2.2.2.2.2.2.2.2.2.2.2.1
theorem ga11 {p0 p1 p2 p3 p4 p5 p6 p7 p8 p9 p10 q : Prop} {a b : Nat} (h : p0 ∧ p1 ∧ p2 ∧ p3 ∧ p4 ∧ p5 ∧ p6 ∧ p7 ∧ p8 ∧ p9 ∧ p10 ∧ b < a ∧ q) : a ≠ b := Nat.ne_of_gt h.2.2.2.2.2.2.2.2.2.2.2.1
theorem la12 {p0 p1 p2 p3 p4 p5 p6 p7 p8 p9 p10 p11 q : Prop} {a b : Nat} (h : p0 ∧ p1 ∧ p2 ∧ p3 ∧ p4 ∧ p5 ∧ p6 ∧ p7 ∧ p8 ∧ p9 ∧ p10 ∧ p11 ∧ a < b ∧ q) : a ≠ b := Nat.ne_of_lt h.2.2.2.2.2.2.2.2.2.2.2.2.1
theorem ga12 {p0 p1 p2 p3 p4 p5 p6 p7 p8 p9 p10 p11 q : Prop} {a b : Nat} (h : p0 ∧ p1 ∧ p2 ∧ p3 ∧ p4 ∧ p5 ∧ p6 ∧ p7 ∧ p8 ∧ p9 ∧ p10 ∧ p11 ∧ b < a ∧ q) : a ≠ b := Nat.ne_of_gt h.2.2.2.2.2.2.2.2.2.2.2.2.1
theorem la13 {p0 p1 p2 p3 p4 p5 p6 p7 p8 p9 p10 p11 p12 q : Prop} {a b : Nat} (h : p0 ∧ p1 ∧ p2 ∧ p3 ∧ p4 ∧ p5 ∧ p6 ∧ p7 ∧ p8 ∧ p9 ∧ p10 ∧ p11 ∧ p12 ∧ a < b ∧ q) : a ≠ b := Nat.ne_of_lt h.2.2.2.2.2.2.2.2.2.2.2.2.2.1
theorem ga13 {p0 p1 p2 p3 p4 p5 p6 p7 p8 p9 p10 p11 p12 q : Prop} {a b : Nat} (h : p0 ∧ p1 ∧ p2 ∧ p3 ∧ p4 ∧ p5 ∧ p6 ∧ p7 ∧ p8 ∧ p9 ∧ p10 ∧ p11 ∧ p12 ∧ b < a ∧ q) : a ≠ b := Nat.ne_of_gt h.2.2.2.2.2.2.2.2.2.2.2.2.2.1

theorem ex0and2 {p0 p1 : Prop} {P : Prop} (h : p0  ∧ p1 ) (k : p0  → p1  → P) : P := by
  obtain ⟨q0, q1⟩ := h
  exact k q0 q1
theorem ex1and1 {α0 : Type} {p0 : α0 → Prop} {P : Prop} (h : ∃ x0, p0 x0) (k : ∀ x0, p0 x0 → P) : P := by
  obtain ⟨x0, q0⟩ := h
  exact k x0 q0
theorem ex1and2 {α0 : Type} {p0 p1 : α0 → Prop} {P : Prop} (h : ∃ x0, p0 x0 ∧ p1 x0) (k : ∀ x0, p0 x0 → p1 x0 → P) : P := by
  obtain ⟨x0, q0, q1⟩ := h
  exact k x0 q0 q1
theorem ex1and3 {α0 : Type} {p0 p1 p2 : α0 → Prop} {P : Prop} (h : ∃ x0, p0 x0 ∧ p1 x0 ∧ p2 x0) (k : ∀ x0, p0 x0 → p1 x0 → p2 x0 → P) : P := by
  obtain ⟨x0, q0, q1, q2⟩ := h
  exact k x0 q0 q1 q2
theorem ex1and5 {α0 : Type} {p0 p1 p2 p3 p4 : α0 → Prop} {P : Prop} (h : ∃ x0, p0 x0 ∧ p1 x0 ∧ p2 x0 ∧ p3 x0 ∧ p4 x0) (k : ∀ x0, p0 x0 → p1 x0 → p2 x0 → p3 x0 → p4 x0 → P) : P := by
  obtain ⟨x0, q0, q1, q2, q3, q4⟩ := h
  exact k x0 q0 q1 q2 q3 q4
theorem ex1and6 {α0 : Type} {p0 p1 p2 p3 p4 p5 : α0 → Prop} {P : Prop} (h : ∃ x0, p0 x0 ∧ p1 x0 ∧ p2 x0 ∧ p3 x0 ∧ p4 x0 ∧ p5 x0) (k : ∀ x0, p0 x0 → p1 x0 → p2 x0 → p3 x0 → p4 x0 → p5 x0 → P) : P := by
  obtain ⟨x0, q0, q1, q2, q3, q4, q5⟩ := h
  exact k x0 q0 q1 q2 q3 q4 q5
theorem ex2and6 {α0 α1 : Type} {p0 p1 p2 p3 p4 p5 : α0 → α1 → Prop} {P : Prop} (h : ∃ x0 x1, p0 x0 x1 ∧ p1 x0 x1 ∧ p2 x0 x1 ∧ p3 x0 x1 ∧ p4 x0 x1 ∧ p5 x0 x1) (k : ∀ x0 x1, p0 x0 x1 → p1 x0 x1 → p2 x0 x1 → p3 x0 x1 → p4 x0 x1 → p5 x0 x1 → P) : P := by
  obtain ⟨x0, x1, q0, q1, q2, q3, q4, q5⟩ := h
  exact k x0 x1 q0 q1 q2 q3 q4 q5
theorem ex3and1 {α0 α1 α2 : Type} {p0 : α0 → α1 → α2 → Prop} {P : Prop} (h : ∃ x0 x1 x2, p0 x0 x1 x2) (k : ∀ x0 x1 x2, p0 x0 x1 x2 → P) : P := by
  obtain ⟨x0, x1, x2, q0⟩ := h
  exact k x0 x1 x2 q0
theorem ex3and4 {α0 α1 α2 : Type} {p0 p1 p2 p3 : α0 → α1 → α2 → Prop} {P : Prop} (h : ∃ x0 x1 x2, p0 x0 x1 x2 ∧ p1 x0 x1 x2 ∧ p2 x0 x1 x2 ∧ p3 x0 x1 x2) (k : ∀ x0 x1 x2, p0 x0 x1 x2 → p1 x0 x1 x2 → p2 x0 x1 x2 → p3 x0 x1 x2 → P) : P := by
  obtain ⟨x0, x1, x2, q0, q1, q2, q3⟩ := h
  exact k x0 x1 x2 q0 q1 q2 q3
theorem ex3and7 {α0 α1 α2 : Type} {p0 p1 p2 p3 p4 p5 p6 : α0 → α1 → α2 → Prop} {P : Prop} (h : ∃ x0 x1 x2, p0 x0 x1 x2 ∧ p1 x0 x1 x2 ∧ p2 x0 x1 x2 ∧ p3 x0 x1 x2 ∧ p4 x0 x1 x2 ∧ p5 x0 x1 x2 ∧ p6 x0 x1 x2) (k : ∀ x0 x1 x2, p0 x0 x1 x2 → p1 x0 x1 x2 → p2 x0 x1 x2 → p3 x0 x1 x2 → p4 x0 x1 x2 → p5 x0 x1 x2 → p6 x0 x1 x2 → P) : P := by
  obtain ⟨x0, x1, x2, q0, q1, q2, q3, q4, q5, q6⟩ := h
  exact k x0 x1 x2 q0 q1 q2 q3 q4 q5 q6
theorem ex5and8 {α0 α1 α2 α3 α4 : Type} {p0 p1 p2 p3 p4 p5 p6 p7 : α0 → α1 → α2 → α3 → α4 → Prop} {P : Prop} (h : ∃ x0 x1 x2 x3 x4, p0 x0 x1 x2 x3 x4 ∧ p1 x0 x1 x2 x3 x4 ∧ p2 x0 x1 x2 x3 x4 ∧ p3 x0 x1 x2 x3 x4 ∧ p4 x0 x1 x2 x3 x4 ∧ p5 x0 x1 x2 x3 x4 ∧ p6 x0 x1 x2 x3 x4 ∧ p7 x0 x1 x2 x3 x4) (k : ∀ x0 x1 x2 x3 x4, p0 x0 x1 x2 x3 x4 → p1 x0 x1 x2 x3 x4 → p2 x0 x1 x2 x3 x4 → p3 x0 x1 x2 x3 x4 → p4 x0 x1 x2 x3 x4 → p5 x0 x1 x2 x3 x4 → p6 x0 x1 x2 x3 x4 → p7 x0 x1 x2 x3 x4 → P) : P := by
  obtain ⟨x0, x1, x2, x3, x4, q0, q1, q2, q3, q4, q5, q6, q7⟩ := h
  exact k x0 x1 x2 x3 x4 q0 q1 q2 q3 q4 q5 q6 q7
theorem ex5and10 {α0 α1 α2 α3 α4 : Type} {p0 p1 p2 p3 p4 p5 p6 p7 p8 p9 : α0 → α1 → α2 → α3 → α4 → Prop} {P : Prop} (h : ∃ x0 x1 x2 x3 x4, p0 x0 x1 x2 x3 x4 ∧ p1 x0 x1 x2 x3 x4 ∧ p2 x0 x1 x2 x3 x4 ∧ p3 x0 x1 x2 x3 x4 ∧ p4 x0 x1 x2 x3 x4 ∧ p5 x0 x1 x2 x3 x4 ∧ p6 x0 x1 x2 x3 x4 ∧ p7 x0 x1 x2 x3 x4 ∧ p8 x0 x1 x2 x3 x4 ∧ p9 x0 x1 x2 x3 x4) (k : ∀ x0 x1 x2 x3 x4, p0 x0 x1 x2 x3 x4 → p1 x0 x1 x2 x3 x4 → p2 x0 x1 x2 x3 x4 → p3 x0 x1 x2 x3 x4 → p4 x0 x1 x2 x3 x4 → p5 x0 x1 x2 x3 x4 → p6 x0 x1 x2 x3 x4 → p7 x0 x1 x2 x3 x4 → p8 x0 x1 x2 x3 x4 → p9 x0 x1 x2 x3 x4 → P) : P := by
  obtain ⟨x0, x1, x2, x3, x4, q0, q1, q2, q3, q4, q5, q6, q7, q8, q9⟩ := h
  exact k x0 x1 x2 x3 x4 q0 q1 q2 q3 q4 q5 q6 q7 q8 q9
theorem ex5and11 {α0 α1 α2 α3 α4 : Type} {p0 p1 p2 p3 p4 p5 p6 p7 p8 p9 p10 : α0 → α1 → α2 → α3 → α4 → Prop} {P : Prop} (h : ∃ x0 x1 x2 x3 x4, p0 x0 x1 x2 x3 x4 ∧ p1 x0 x1 x2 x3 x4 ∧ p2 x0 x1 x2 x3 x4 ∧ p3 x0 x1 x2 x3 x4 ∧ p4 x0 x1 x2 x3 x4 ∧ p5 x0 x1 x2 x3 x4 ∧ p6 x0 x1 x2 x3 x4 ∧ p7 x0 x1 x2 x3 x4 ∧ p8 x0 x1 x2 x3 x4 ∧ p9 x0 x1 x2 x3 x4 ∧ p10 x0 x1 x2 x3 x4) (k : ∀ x0 x1 x2 x3 x4, p0 x0 x1 x2 x3 x4 → p1 x0 x1 x2 x3 x4 → p2 x0 x1 x2 x3 x4 → p3 x0 x1 x2 x3 x4 → p4 x0 x1 x2 x3 x4 → p5 x0 x1 x2 x3 x4 → p6 x0 x1 x2 x3 x4 → p7 x0 x1 x2 x3 x4 → p8 x0 x1 x2 x3 x4 → p9 x0 x1 x2 x3 x4 → p10 x0 x1 x2 x3 x4 → P) : P := by
  obtain ⟨x0, x1, x2, x3, x4, q0, q1, q2, q3, q4, q5, q6, q7, q8, q9, q10⟩ := h
  exact k x0 x1 x2 x3 x4 q0 q1 q2 q3 q4 q5 q6 q7 q8 q9 q10
theorem ex6and5 {α0 α1 α2 α3 α4 α5 : Type} {p0 p1 p2 p3 p4 : α0 → α1 → α2 → α3 → α4 → α5 → Prop} {P : Prop} (h : ∃ x0 x1 x2 x3 x4 x5, p0 x0 x1 x2 x3 x4 x5 ∧ p1 x0 x1 x2 x3 x4 x5 ∧ p2 x0 x1 x2 x3 x4 x5 ∧ p3 x0 x1 x2 x3 x4 x5 ∧ p4 x0 x1 x2 x3 x4 x5) (k : ∀ x0 x1 x2 x3 x4 x5, p0 x0 x1 x2 x3 x4 x5 → p1 x0 x1 x2 x3 x4 x5 → p2 x0 x1 x2 x3 x4 x5 → p3 x0 x1 x2 x3 x4 x5 → p4 x0 x1 x2 x3 x4 x5 → P) : P := by
  obtain ⟨x0, x1, x2, x3, x4, x5, q0, q1, q2, q3, q4⟩ := h
  exact k x0 x1 x2 x3 x4 x5 q0 q1 q2 q3 q4
theorem ex7and8 {α0 α1 α2 α3 α4 α5 α6 : Type} {p0 p1 p2 p3 p4 p5 p6 p7 : α0 → α1 → α2 → α3 → α4 → α5 → α6 → Prop} {P : Prop} (h : ∃ x0 x1 x2 x3 x4 x5 x6, p0 x0 x1 x2 x3 x4 x5 x6 ∧ p1 x0 x1 x2 x3 x4 x5 x6 ∧ p2 x0 x1 x2 x3 x4 x5 x6 ∧ p3 x0 x1 x2 x3 x4 x5 x6 ∧ p4 x0 x1 x2 x3 x4 x5 x6 ∧ p5 x0 x1 x2 x3 x4 x5 x6 ∧ p6 x0 x1 x2 x3 x4 x5 x6 ∧ p7 x0 x1 x2 x3 x4 x5 x6) (k : ∀ x0 x1 x2 x3 x4 x5 x6, p0 x0 x1 x2 x3 x4 x5 x6 → p1 x0 x1 x2 x3 x4 x5 x6 → p2 x0 x1 x2 x3 x4 x5 x6 → p3 x0 x1 x2 x3 x4 x5 x6 → p4 x0 x1 x2 x3 x4 x5 x6 → p5 x0 x1 x2 x3 x4 x5 x6 → p6 x0 x1 x2 x3 x4 x5 x6 → p7 x0 x1 x2 x3 x4 x5 x6 → P) : P := by
  obtain ⟨x0, x1, x2, x3, x4, x5, x6, q0, q1, q2, q3, q4, q5, q6, q7⟩ := h
  exact k x0 x1 x2 x3 x4 x5 x6 q0 q1 q2 q3 q4 q5 q6 q7
theorem ex7and10 {α0 α1 α2 α3 α4 α5 α6 : Type} {p0 p1 p2 p3 p4 p5 p6 p7 p8 p9 : α0 → α1 → α2 → α3 → α4 → α5 → α6 → Prop} {P : Prop} (h : ∃ x0 x1 x2 x3 x4 x5 x6, p0 x0 x1 x2 x3 x4 x5 x6 ∧ p1 x0 x1 x2 x3 x4 x5 x6 ∧ p2 x0 x1 x2 x3 x4 x5 x6 ∧ p3 x0 x1 x2 x3 x4 x5 x6 ∧ p4 x0 x1 x2 x3 x4 x5 x6 ∧ p5 x0 x1 x2 x3 x4 x5 x6 ∧ p6 x0 x1 x2 x3 x4 x5 x6 ∧ p7 x0 x1 x2 x3 x4 x5 x6 ∧ p8 x0 x1 x2 x3 x4 x5 x6 ∧ p9 x0 x1 x2 x3 x4 x5 x6) (k : ∀ x0 x1 x2 x3 x4 x5 x6, p0 x0 x1 x2 x3 x4 x5 x6 → p1 x0 x1 x2 x3 x4 x5 x6 → p2 x0 x1 x2 x3 x4 x5 x6 → p3 x0 x1 x2 x3 x4 x5 x6 → p4 x0 x1 x2 x3 x4 x5 x6 → p5 x0 x1 x2 x3 x4 x5 x6 → p6 x0 x1 x2 x3 x4 x5 x6 → p7 x0 x1 x2 x3 x4 x5 x6 → p8 x0 x1 x2 x3 x4 x5 x6 → p9 x0 x1 x2 x3 x4 x5 x6 → P) : P := by
  obtain ⟨x0, x1, x2, x3, x4, x5, x6, q0, q1, q2, q3, q4, q5, q6, q7, q8, q9⟩ := h
  exact k x0 x1 x2 x3 x4 x5 x6 q0 q1 q2 q3 q4 q5 q6 q7 q8 q9
theorem ex8and8 {α0 α1 α2 α3 α4 α5 α6 α7 : Type} {p0 p1 p2 p3 p4 p5 p6 p7 : α0 → α1 → α2 → α3 → α4 → α5 → α6 → α7 → Prop} {P : Prop} (h : ∃ x0 x1 x2 x3 x4 x5 x6 x7, p0 x0 x1 x2 x3 x4 x5 x6 x7 ∧ p1 x0 x1 x2 x3 x4 x5 x6 x7 ∧ p2 x0 x1 x2 x3 x4 x5 x6 x7 ∧ p3 x0 x1 x2 x3 x4 x5 x6 x7 ∧ p4 x0 x1 x2 x3 x4 x5 x6 x7 ∧ p5 x0 x1 x2 x3 x4 x5 x6 x7 ∧ p6 x0 x1 x2 x3 x4 x5 x6 x7 ∧ p7 x0 x1 x2 x3 x4 x5 x6 x7) (k : ∀ x0 x1 x2 x3 x4 x5 x6 x7, p0 x0 x1 x2 x3 x4 x5 x6 x7 → p1 x0 x1 x2 x3 x4 x5 x6 x7 → p2 x0 x1 x2 x3 x4 x5 x6 x7 → p3 x0 x1 x2 x3 x4 x5 x6 x7 → p4 x0 x1 x2 x3 x4 x5 x6 x7 → p5 x0 x1 x2 x3 x4 x5 x6 x7 → p6 x0 x1 x2 x3 x4 x5 x6 x7 → p7 x0 x1 x2 x3 x4 x5 x6 x7 → P) : P := by
  obtain ⟨x0, x1, x2, x3, x4, x5, x6, x7, q0, q1, q2, q3, q4, q5, q6, q7⟩ := h
  exact k x0 x1 x2 x3 x4 x5 x6 x7 q0 q1 q2 q3 q4 q5 q6 q7
theorem ex8and9 {α0 α1 α2 α3 α4 α5 α6 α7 : Type} {p0 p1 p2 p3 p4 p5 p6 p7 p8 : α0 → α1 → α2 → α3 → α4 → α5 → α6 → α7 → Prop} {P : Prop} (h : ∃ x0 x1 x2 x3 x4 x5 x6 x7, p0 x0 x1 x2 x3 x4 x5 x6 x7 ∧ p1 x0 x1 x2 x3 x4 x5 x6 x7 ∧ p2 x0 x1 x2 x3 x4 x5 x6 x7 ∧ p3 x0 x1 x2 x3 x4 x5 x6 x7 ∧ p4 x0 x1 x2 x3 x4 x5 x6 x7 ∧ p5 x0 x1 x2 x3 x4 x5 x6 x7 ∧ p6 x0 x1 x2 x3 x4 x5 x6 x7 ∧ p7 x0 x1 x2 x3 x4 x5 x6 x7 ∧ p8 x0 x1 x2 x3 x4 x5 x6 x7) (k : ∀ x0 x1 x2 x3 x4 x5 x6 x7, p0 x0 x1 x2 x3 x4 x5 x6 x7 → p1 x0 x1 x2 x3 x4 x5 x6 x7 → p2 x0 x1 x2 x3 x4 x5 x6 x7 → p3 x0 x1 x2 x3 x4 x5 x6 x7 → p4 x0 x1 x2 x3 x4 x5 x6 x7 → p5 x0 x1 x2 x3 x4 x5 x6 x7 → p6 x0 x1 x2 x3 x4 x5 x6 x7 → p7 x0 x1 x2 x3 x4 x5 x6 x7 → p8 x0 x1 x2 x3 x4 x5 x6 x7 → P) : P := by
  obtain ⟨x0, x1, x2, x3, x4, x5, x6, x7, q0, q1, q2, q3, q4, q5, q6, q7, q8⟩ := h
  exact k x0 x1 x2 x3 x4 x5 x6 x7 q0 q1 q2 q3 q4 q5 q6 q7 q8
theorem ex9and10 {α0 α1 α2 α3 α4 α5 α6 α7 α8 : Type} {p0 p1 p2 p3 p4 p5 p6 p7 p8 p9 : α0 → α1 → α2 → α3 → α4 → α5 → α6 → α7 → α8 → Prop} {P : Prop} (h : ∃ x0 x1 x2 x3 x4 x5 x6 x7 x8, p0 x0 x1 x2 x3 x4 x5 x6 x7 x8 ∧ p1 x0 x1 x2 x3 x4 x5 x6 x7 x8 ∧ p2 x0 x1 x2 x3 x4 x5 x6 x7 x8 ∧ p3 x0 x1 x2 x3 x4 x5 x6 x7 x8 ∧ p4 x0 x1 x2 x3 x4 x5 x6 x7 x8 ∧ p5 x0 x1 x2 x3 x4 x5 x6 x7 x8 ∧ p6 x0 x1 x2 x3 x4 x5 x6 x7 x8 ∧ p7 x0 x1 x2 x3 x4 x5 x6 x7 x8 ∧ p8 x0 x1 x2 x3 x4 x5 x6 x7 x8 ∧ p9 x0 x1 x2 x3 x4 x5 x6 x7 x8) (k : ∀ x0 x1 x2 x3 x4 x5 x6 x7 x8, p0 x0 x1 x2 x3 x4 x5 x6 x7 x8 → p1 x0 x1 x2 x3 x4 x5 x6 x7 x8 → p2 x0 x1 x2 x3 x4 x5 x6 x7 x8 → p3 x0 x1 x2 x3 x4 x5 x6 x7 x8 → p4 x0 x1 x2 x3 x4 x5 x6 x7 x8 → p5 x0 x1 x2 x3 x4 x5 x6 x7 x8 → p6 x0 x1 x2 x3 x4 x5 x6 x7 x8 → p7 x0 x1 x2 x3 x4 x5 x6 x7 x8 → p8 x0 x1 x2 x3 x4 x5 x6 x7 x8 → p9 x0 x1 x2 x3 x4 x5 x6 x7 x8 → P) : P := by
  obtain ⟨x0, x1, x2, x3, x4, x5, x6, x7, x8, q0, q1, q2, q3, q4, q5, q6, q7, q8, q9⟩ := h
  exact k x0 x1 x2 x3 x4 x5 x6 x7 x8 q0 q1 q2 q3 q4 q5 q6 q7 q8 q9
theorem ex12and14 {α0 α1 α2 α3 α4 α5 α6 α7 α8 α9 α10 α11 : Type} {p0 p1 p2 p3 p4 p5 p6 p7 p8 p9 p10 p11 p12 p13 : α0 → α1 → α2 → α3 → α4 → α5 → α6 → α7 → α8 → α9 → α10 → α11 → Prop} {P : Prop} (h : ∃ x0 x1 x2 x3 x4 x5 x6 x7 x8 x9 x10 x11, p0 x0 x1 x2 x3 x4 x5 x6 x7 x8 x9 x10 x11 ∧ p1 x0 x1 x2 x3 x4 x5 x6 x7 x8 x9 x10 x11 ∧ p2 x0 x1 x2 x3 x4 x5 x6 x7 x8 x9 x10 x11 ∧ p3 x0 x1 x2 x3 x4 x5 x6 x7 x8 x9 x10 x11 ∧ p4 x0 x1 x2 x3 x4 x5 x6 x7 x8 x9 x10 x11 ∧ p5 x0 x1 x2 x3 x4 x5 x6 x7 x8 x9 x10 x11 ∧ p6 x0 x1 x2 x3 x4 x5 x6 x7 x8 x9 x10 x11 ∧ p7 x0 x1 x2 x3 x4 x5 x6 x7 x8 x9 x10 x11 ∧ p8 x0 x1 x2 x3 x4 x5 x6 x7 x8 x9 x10 x11 ∧ p9 x0 x1 x2 x3 x4 x5 x6 x7 x8 x9 x10 x11 ∧ p10 x0 x1 x2 x3 x4 x5 x6 x7 x8 x9 x10 x11 ∧ p11 x0 x1 x2 x3 x4 x5 x6 x7 x8 x9 x10 x11 ∧ p12 x0 x1 x2 x3 x4 x5 x6 x7 x8 x9 x10 x11 ∧ p13 x0 x1 x2 x3 x4 x5 x6 x7 x8 x9 x10 x11) (k : ∀ x0 x1 x2 x3 x4 x5 x6 x7 x8 x9 x10 x11, p0 x0 x1 x2 x3 x4 x5 x6 x7 x8 x9 x10 x11 → p1 x0 x1 x2 x3 x4 x5 x6 x7 x8 x9 x10 x11 → p2 x0 x1 x2 x3 x4 x5 x6 x7 x8 x9 x10 x11 → p3 x0 x1 x2 x3 x4 x5 x6 x7 x8 x9 x10 x11 → p4 x0 x1 x2 x3 x4 x5 x6 x7 x8 x9 x10 x11 → p5 x0 x1 x2 x3 x4 x5 x6 x7 x8 x9 x10 x11 → p6 x0 x1 x2 x3 x4 x5 x6 x7 x8 x9 x10 x11 → p7 x0 x1 x2 x3 x4 x5 x6 x7 x8 x9 x10 x11 → p8 x0 x1 x2 x3 x4 x5 x6 x7 x8 x9 x10 x11 → p9 x0 x1 x2 x3 x4 x5 x6 x7 x8 x9 x10 x11 → p10 x0 x1 x2 x3 x4 x5 x6 x7 x8 x9 x10 x11 → p11 x0 x1 x2 x3 x4 x5 x6 x7 x8 x9 x10 x11 → p12 x0 x1 x2 x3 x4 x5 x6 x7 x8 x9 x10 x11 → p13 x0 x1 x2 x3 x4 x5 x6 x7 x8 x9 x10 x11 → P) : P := by
  obtain ⟨x0, x1, x2, x3, x4, x5, x6, x7, x8, x9, x10, x11, q0, q1, q2, q3, q4, q5, q6, q7, q8, q9, q10, q11, q12, q13⟩ := h
  exact k x0 x1 x2 x3 x4 x5 x6 x7 x8 x9 x10 x11 q0 q1 q2 q3 q4 q5 q6 q7 q8 q9 q10 q11 q12 q13

end
/- Rules -/
section
variable {prog : Program} {w : World} {p : Program} {loose : List Str} {mean : ExcName → Option Value} {mg mb : Str → Option Value}
  {dp un : Nat} {gd : Option (List Code)} {cn : Str} {cs : Scope} {a : Addr} {ccd : Value} {cl : List (Str × Addr)} {outer : List Env} {A₀ : Around} {base h₀ : Heap} {L : Addr} {m : Str → Option Value} {s : Shared} {Q E : Value → Shared → Prop}
abbrev tupObj (vs : List Value) (n : Nat) : Obj := { cls := .type "tuple", data := .seq vs.toArray n }
theorem isSome_of {α : Type} {o : Option α} {x : α} (h : o = some x) : o.isSome = true := by rw [h]; rfl
theorem ints_get {vs : List Value} {ns : List Int} (hi : IntsAre vs ns) : ∀ {k : Nat}, k < ns.length → ∃ t, vs[k]? = some (.int (ns.getD k 0) t) := by
  induction hi with
  | nil => intro k h; exact absurd h (Nat.not_lt_zero _)
  | cons n t _ ih =>
    intro k h
    cases k with
    | zero => exact ⟨t, rfl⟩
    | succ k =>
      obtain ⟨u, hu⟩ := ih (k := k) (by simpa using h)
      exact ⟨u, by simpa using hu⟩
theorem tup_item {value slice : PySem.Expr} {t : Addr} {vs : List Value} {ns : List Int} {n : Nat} {k : Int} {u : Tok} {news : List (Addr × Obj)} (N : News h₀ L s.heap news) (hm : (t, tupObj vs n) ∈ news) (hi : IntsAre vs ns) (h0 : 0 ≤ k) (h1 : k < ns.length) (hl : ns.length ≤ 1000)
    (h : ∀ tk, Q (.int (ns.getD k.toNat 0) tk) s)
    (hs : subscripted slice false (.ref t) (.int k u) = operate [.ref t, .int k u] (getItem (.ref t) (.int k u)) := by with_unfolding_all rfl) :
    wpAny (model prog w) A₀ (subscriptTail value slice (.ref t) (.int k u)) Q E s := by
  obtain ⟨tk, hx⟩ := ints_get hi (k := k.toNat) (by omega)
  exact item_tupleT (l := vs) (News.isTup N hm) (by omega) (by omega) (seqIndex_of h0 (by rw [hi.length]; exact h1)) hx (h tk) hs
theorem tup_len {t : Addr} {vs : List Value} {ns : List Int} {n : Nat} {news : List (Addr × Obj)} (N : News h₀ L s.heap news) (hm : (t, tupObj vs n) ∈ news) (hi : IntsAre vs ns) (hl : ns.length ≤ 1000)
    (h : Q (.int ns.length (s.toks + 1)) { s with toks := s.toks + 1 + 1 }) : wpAny (model prog w) A₀ (call (.builtin "len") [.ref t]) Q E s := by
  have e : vs.toArray.size = ns.length := by simp [hi.length]
  exact len_tuple (News.isTup N hm) (by rw [e]; omega) (by rw [e]; exact h)
theorem item_at {value slice : PySem.Expr} {l : Addr} {vs : List Value} {n : Nat} {k : Int} {u : Tok} {v : Value} {news : List (Addr × Obj)} (N : News h₀ L s.heap news) (hm : (l, listOf vs.toArray n) ∈ news) (h0 : 0 ≤ k) (h1 : k < 2 ^ 62) (hx : vs[k.toNat]? = some v) (h : Q v s)
    (hs : subscripted slice false (.ref l) (.int k u) = operate [.ref l, .int k u] (getItem (.ref l) (.int k u)) := by with_unfolding_all rfl) :
    wpAny (model prog w) A₀ (subscriptTail value slice (.ref l) (.int k u)) Q E s :=
  tail_any (News.isList N hm).typeIs slot_list_getitem.lookup (wpAny_getItem_list (News.isList N hm) h0 (by omega) (by simpa using hx) h) hs
theorem list_len {l : Addr} {vs : List Value} {n : Nat} {news : List (Addr × Obj)} (N : News h₀ L s.heap news) (hm : (l, listOf vs.toArray n) ∈ news) (hl : vs.length ≤ 1000)
    (h : Q (.int vs.length (s.toks + 1)) { s with toks := s.toks + 1 + 1 }) : wpAny (model prog w) A₀ (call (.builtin "len") [.ref l]) Q E s := by
  have e : vs.toArray.size = vs.length := by simp
  exact len_list (News.isList N hm) (by rw [e]; omega) (by rw [e]; exact h)
theorem dget_meth {pl : Sem Bool} {Q : Value × List Value → Shared → Prop} {d : Addr} {o : Obj} {kvs : List (Int × Value)} {news : List (Addr × Obj)} (N : News h₀ L s.heap news) (hp : (d, o) ∈ news) (hd : o.IsDictOf (intKind prog w) kvs) (h : Q (.builtin "dict.get", [.ref d]) s) :
    wpAny (model prog w) A₀ (getMethod (.ref d) (Str.ofString "get") pl) Q E s :=
  kob_method (knd := PySem.intKind prog w) PySem.F.slot_dict_get PySem.F.type_dict_get N hp hd h
theorem dget_some {d : Addr} {o : Obj} {kvs : List (Int × Value)} {k : Int} {t : Tok} {dflt v : Value} {news : List (Addr × Obj)} (N : News h₀ L s.heap news) (hp : (d, o) ∈ news) (hd : o.IsDictOf (intKind prog w) kvs) (lo : (d == sysModules) = false)
    (hv : valueAt kvs k = some v) (h : Q v { s with toks := s.toks + 1 }) : wpAny (model prog w) A₀ (call (.builtin "dict.get") [.ref d, .int k t, dflt]) Q E s := by
  have hD := kda_dict N hp hd
  exact call_meetsIn PySem.F.slot_dict_get hD.typeIs PySem.F.entry_dict_get (PySem.F.args_dict_get_3 _ _ _) (meets_dict_get_default (intKind prog w) d (intKind_is prog w k t) lo dflt) ⟨_, hD.mapOf, by show Q ((valueAt kvs k).getD dflt) _; rw [hv]; exact h⟩
theorem dget_none {d : Addr} {o : Obj} {kvs : List (Int × Value)} {k : Int} {t : Tok} {dflt : Value} {news : List (Addr × Obj)} (N : News h₀ L s.heap news) (hp : (d, o) ∈ news) (hd : o.IsDictOf (intKind prog w) kvs) (lo : (d == sysModules) = false)
    (hv : valueAt kvs k = none) (h : Q dflt { s with toks := s.toks + 1 }) : wpAny (model prog w) A₀ (call (.builtin "dict.get") [.ref d, .int k t, dflt]) Q E s := by
  have hD := kda_dict N hp hd
  exact call_meetsIn PySem.F.slot_dict_get hD.typeIs PySem.F.entry_dict_get (PySem.F.args_dict_get_3 _ _ _) (meets_dict_get_default (intKind prog w) d (intKind_is prog w k t) lo dflt) ⟨_, hD.mapOf, by show Q ((valueAt kvs k).getD dflt) _; rw [hv]; exact h⟩

theorem none_case {b : Bool} {u : Value} : ¬ ((if b = true then none else some none : Option (Option Value)) = some (some u)) := by cases b <;> simp
theorem isStr_two {v : Value} {n n' : Str} (h : n ≠ n') (h1 : v.isStr n = true) : v.isStr n' = false := by
  cases hb : v.isStr n' with
  | false => rfl
  | true =>
    cases v <;> simp_all [Value.isStr]
theorem getL_put {name : Str} {hsh : Int} {key v u : Value} (hk : key.isStr name = true) : ∀ {es : List DictEntry}, getL name es = some (some u) → getL name (putL name hsh key v es) = some (some v) := by
  intro es
  induction es with
  | nil => intro h; simp [getL] at h
  | cons e r ih =>
    intro h
    unfold putL
    by_cases he : e.key.isStr name = true
    · rw [if_pos he]; simp [getL, he]
    · rw [if_neg he]
      have h2 : getL name r = some (some u) := by
        unfold getL at h ⊢
        simp only [List.find?_cons, he] at h
        cases hf : r.find? (·.key.isStr name) with
        | some e' => rw [hf] at h; exact h
        | none =>
          rw [hf] at h
          exact absurd h none_case
      have h3 := ih h2
      unfold getL at h3 ⊢
      simp only [List.find?_cons, he]
      cases hf : (putL name hsh key v r).find? (·.key.isStr name) with
      | some e' => rw [hf] at h3; exact h3
      | none =>
        rw [hf] at h3
        exact absurd h3 none_case
theorem getL_cons_skip {name : Str} {e : DictEntry} {r : List DictEntry} {u : Value} (he : e.key.isStr name = false) (h : getL name (e :: r) = some (some u)) : getL name r = some (some u) := by
  unfold getL at h ⊢
  simp only [List.find?_cons, he] at h
  cases hf : r.find? (·.key.isStr name) with
  | some e' => rw [hf] at h; exact h
  | none =>
    rw [hf] at h
    exact absurd h none_case
theorem getL_cons_add {name : Str} {e : DictEntry} {r : List DictEntry} {u : Value} (he : e.key.isStr name = false) (h : getL name r = some (some u)) : getL name (e :: r) = some (some u) := by
  unfold getL at h ⊢
  simp only [List.find?_cons, he]
  cases hf : r.find? (·.key.isStr name) with
  | some e' => rw [hf] at h; exact h
  | none =>
    rw [hf] at h
    exact absurd h none_case
theorem getL_put_ne {name name' : Str} {hsh : Int} {key v u : Value} (hne : name ≠ name') : ∀ {es : List DictEntry}, getL name' es = some (some u) → getL name' (putL name hsh key v es) = some (some u) := by
  intro es
  induction es with
  | nil => intro h; simp [getL] at h
  | cons e r ih =>
    intro h
    unfold putL
    by_cases he : e.key.isStr name = true
    · rw [if_pos he]
      have h1 := isStr_two hne he
      exact getL_cons_add h1 (getL_cons_skip h1 h)
    · rw [if_neg he]
      cases h1 : e.key.isStr name' with
      | true =>
        unfold getL at h ⊢
        simp only [List.find?_cons, h1] at h ⊢
        exact h
      | false => exact getL_cons_add h1 (ih (getL_cons_skip h1 h))
theorem putL_length {name : Str} {hsh : Int} {key v : Value} : ∀ {es : List DictEntry} {u : Value}, getL name es = some (some u) → (putL name hsh key v es).length = es.length := by
  intro es
  induction es with
  | nil => intro u h; simp [getL] at h
  | cons e r ih =>
    intro u h
    unfold putL
    by_cases he : e.key.isStr name = true
    · rw [if_pos he]; rfl
    · rw [if_neg he]
      have h1 : e.key.isStr name = false := by simpa using he
      simp [ih (getL_cons_skip h1 h)]

/-- the attributes of an Info that the law reads, in its dict -/
structure InfoEs (es : List DictEntry) (g mk cl : Int) : Prop where
  glyph : ∃ t, getL (Str.ofString "glyph") es = some (some (.int g t))
  mask : ∃ t, getL (Str.ofString "mask") es = some (some (.int mk t))
  cluster : ∃ t, getL (Str.ofString "cluster") es = some (some (.int cl t))
  len : es.length ≤ 20
theorem InfoEs.put {es : List DictEntry} {g mk cl g' : Int} {hsh : Int} {tk tg : Tok} (h : InfoEs es g mk cl) : InfoEs (putL (Str.ofString "glyph") hsh (.str (Str.ofString "glyph") tk) (.int g' tg) es) g' mk cl where
  glyph := let ⟨_, e⟩ := h.glyph; ⟨tg, getL_put (by simp [Value.isStr]) e⟩
  mask := let ⟨t, e⟩ := h.mask; ⟨t, getL_put_ne (by decide) e⟩
  cluster := let ⟨t, e⟩ := h.cluster; ⟨t, getL_put_ne (by decide) e⟩
  len := let ⟨_, e⟩ := h.glyph; by rw [putL_length e]; exact h.len

/-- a made table: at each glyph nothing, or a tuple of up to four choices 1 .. 5 -/
def TabIn (prog : Program) (w : World) (news : List (Addr × Obj)) (M : Addr) (T : Int → Option (List Int)) : Prop :=
  (M == sysModules) = false ∧ ∃ o kvs, (M, o) ∈ news ∧ o.IsDictOf (intKind prog w) kvs ∧ kvs.length ≤ 100 ∧
    ∀ g, (valueAt kvs g = none ∧ T g = none) ∨ ∃ t n vs ns, valueAt kvs g = some (.ref t) ∧ T g = some ns ∧ (t, tupObj vs n) ∈ news ∧ IntsAre vs ns ∧ ns.length ≤ 4 ∧ ∀ x ∈ ns, 1 ≤ x ∧ x ≤ 5
/-- the choice of a table, at a glyph, of the number that the mask tells -/
def altOf (T : Int → Option (List Int)) (g nb : Int) : Option Int :=
  match T g with
  | none => none
  | some ns => if 1 ≤ nb ∧ nb ≤ ns.length then some (ns.getD (nb - 1).toNat 0) else none
theorem updF_upd {d : Addr} {o : Obj} : ∀ {l : List (Addr × Obj)} {f : Obj → List (Addr × Obj)}, UpdF d o l f → ∀ o', Upd d o o' l (f o')
  | _, _, .head h, _ => .head h
  | _, _, .tail h r, o' => .tail h (updF_upd r o')
theorem updF_mem {d : Addr} {o : Obj} {l : List (Addr × Obj)} {f : Obj → List (Addr × Obj)} (u : UpdF d o l f) : (d, o) ∈ l := by
  obtain ⟨pre, post, e, _⟩ := u.split
  rw [e]; exact List.mem_append_right _ (.head _)
theorem set_op {Q : Unit → Shared → Prop} {x C dx : Addr} {es : List DictEntry} {n : Nat} {name : Str} {v u : Value} {news : List (Addr × Obj)} {f : Obj → List (Addr × Obj)}
    (F : Fr h₀ L s.heap m) (X₀ : (K w.params).In h₀) (N : News h₀ L s.heap news) (hx : (x, instObj C dx) ∈ news) (U : UpdF dx (dictOf es n) news f)
    (hs : findIn (K w.params) (.ref C) "__setattr__" = some (some (.builtin "object.__setattr__"))) (hp : plainOver (K w.params) C = true) (ht : takerIn (K w.params) C name = some none) (hh : hasDictIn (K w.params) C = true)
    (hl : getL name es = some (some u)) (hz : es.length ≤ 20)
    (h : ∀ h' hsh tk, Fr h₀ L h' m → News h₀ L h' (f (dictOf (putL name hsh (.str name tk) v es) (putN name es n))) → Q () { s with heap := h', toks := s.toks + 2 }) :
    wpAny (model prog w) A₀ (setAttr (.ref x) name v) Q E s :=
  set_dict F X₀ N (InstAt.of_news N hx (updF_mem U)) rfl hs hp ht hh (isSome_of hl) rfl (updF_upd U _) (by rw [putL_length hl]; omega) fun h' F' N' => h h' _ _ F' N'
theorem news_tail {h : Heap} {q : Addr × Obj} {l : List (Addr × Obj)} (N : News h₀ L h (q :: l)) : News h₀ L h l := fun p hp => N p (.tail _ hp)
theorem tuple_of {l : Addr} {ys : List Value} {n : Nat} {news : List (Addr × Obj)} (F : Fr h₀ L s.heap m) (N : News h₀ L s.heap news) (hm : (l, listOf ys.toArray n) ∈ news) (hz : ys.length ≤ 1000)
    (h : ∀ D h', Fr h₀ L h' m → News h₀ L h' ((D, tupObj ys 0) :: news) → (∀ p ∈ news, p.1 < D) → Q (.ref D) { s with heap := h' }) : wpAny (model prog w) A₀ (call (.type "tuple") [.ref l]) Q E s :=
  kde_tupleOf F N (News.isList N hm) (by rw [List.size_toArray]; omega) rfl h
theorem dict_copy {d : Addr} {o : Obj} {kvs : List (Int × Value)} {news : List (Addr × Obj)} (hbig : h₀.NoLimit) (F : Fr h₀ L s.heap m) (N : News h₀ L s.heap news) (hp : (d, o) ∈ news) (hd : o.IsDictOf (intKind prog w) kvs) (lo : (d == sysModules) = false) (hl : kvs.length ≤ 100)
    (k : ∀ D h' o', Fr h₀ L h' m → News h₀ L h' ((D, o') :: news) → (∀ p ∈ news, p.1 < D) → (D == sysModules) = false → o'.IsDictOf (intKind prog w) kvs → Q (.ref D) { s with heap := h' }) :
    wpAny (model prog w) A₀ (call (.type "dict") [.ref d]) Q E s := by
  refine kt_call_dict lo (kda_dict N hp hd) (by rw [sizeLine_eq]; omega) fun h' hm hs => ?_
  obtain ⟨o', ho', hd'⟩ := Heap.dictOf_iff.mp hm
  have N1 := News.push F N { cls := .type "dict", data := .dict #[] }
  exact k _ h' o' ((F.push _).change hs (N1 _ (.head _)).2.1 (N1.fresh (.head _))) (N1.setHead N.apart hs ho') (fun p hp => Heap.lt_size (N p hp).1) (F.notModules (modules_low hbig)) hd'

end
/- Loops -/
section
variable {prog : Program} {w : World} {p : Program} {loose : List Str} {mean : ExcName → Option Value} {mg mb : Str → Option Value}
  {dp un : Nat} {gd : Option (List Code)} {cn : Str} {cs : Scope} {a : Addr} {ccd : Value} {cl : List (Str × Addr)} {outer : List Env} {A₀ : Around} {base h₀ : Heap} {L : Addr} {m : Str → Option Value} {s : Shared} {Q E : Value → Shared → Prop}
/-- a turn's end: the iterator stands, the invariant holds again -/
def LedEnd (h₀ : Heap) (L : Addr) (J : (Str → Option Value) → List (Addr × Obj) → Prop) (I : Addr) (oI : Obj) (s₁ s₂ : Shared) : Prop :=
  ∃ h' tk m' news₂, s₂ = { s₁ with heap := h', toks := tk } ∧ Fr h₀ L h' m' ∧ News h₀ L h' ((I, oI) :: news₂) ∧ (∀ p ∈ news₂, @Ne Nat p.1 I) ∧ J m' news₂
def LedPost (h₀ : Heap) (L : Addr) (J : (Str → Option Value) → List (Addr × Obj) → Prop) (I : Addr) (oI : Obj) (s₁ : Shared) (Q : Flow → Shared → Prop) (f : Flow) (s₂ : Shared) : Prop :=
  match f with
  | .ret v => Q (.ret v) s₂
  | .brk => Q .next s₂
  | _ => LedEnd h₀ L J I oI s₁ s₂
theorem LedEnd.intro {h₀ h' : Heap} {L : Addr} {J : (Str → Option Value) → List (Addr × Obj) → Prop} {I : Addr} {oI : Obj} {s₁ : Shared} {tk : Nat} {m' : Str → Option Value} (news₂ : List (Addr × Obj))
    (F : Fr h₀ L h' m') (N : News h₀ L h' ((I, oI) :: news₂)) (hne : ∀ p ∈ news₂, @Ne Nat p.1 I) (hJ : J m' news₂) : LedEnd h₀ L J I oI s₁ { s₁ with heap := h', toks := tk } := ⟨h', tk, m', news₂, rfl, F, N, hne, hJ⟩
theorem iter_led {A : Around} {env : Env} {body : List Stmt} {x : Str} {Q : Flow → Shared → Prop} {l : Addr} {vs : List Value} {n : Nat} {m₀ : Str → Option Value} {news : List (Addr × Obj)} (J : Nat → (Str → Option Value) → List (Addr × Obj) → Prop)
    (hh : A.handled = none) (F : Fr h₀ env.locals s.heap m₀) (N : News h₀ env.locals s.heap news) (hJ0 : J 0 m₀ news) (hJl : ∀ i m₁ news₁, J i m₁ news₁ → (l, listOf vs.toArray n) ∈ news₁)
    (turn : ∀ i v m₁ news₁ h tk I oI, vs[i]? = some v → J i m₁ news₁ → (∀ p ∈ news₁, @Ne Nat p.1 I) → Fr h₀ env.locals h (fun y => if y = x then some v else m₁ y) → News h₀ env.locals h ((I, oI) :: news₁) →
      wpAny (model prog w) A (execs body env) (LedPost h₀ env.locals (J (i + 1)) I oI { s with heap := h, toks := tk } Q) E { s with heap := h, toks := tk })
    (done : ∀ m₁ news₁ h tk, J vs.length m₁ news₁ → Fr h₀ env.locals h m₁ → News h₀ env.locals h news₁ → Q .next { s with heap := h, toks := tk }) :
    wpAny (model prog w) A (pyIter (.ref l)) (fun it s₂ => LoopAtV prog w A h₀ env x body Q E it s₂) E s := by
  have hl := hJl _ _ _ hJ0
  have hls : s.heap.IsList l vs.toArray := News.isList N hl
  have hlb : h₀.get? l = none := (N _ hl).2.2
  have hlL : l ≠ env.locals := (N _ hl).2.1
  have hlt : l < s.heap.objs.size := Heap.lt_size (N _ hl).1
  have hne : l ≠ s.heap.objs.size := Nat.ne_of_lt hlt
  refine wpAny_pyIter_list hls ?_
  have W := Walks.list (prog := prog) (w := w) hh s.heap.objs.size l hne vs.toArray
  have hlen : vs.toArray.size = vs.length := by simp
  rw [hlen] at W
  refine ⟨_, _, _, vs.length, _, _, m₀, news, J, rfl, W, ?_, ?_, ?_, ⟨⟨_, Heap.get?_push_size _ rfl, rfl, rfl⟩, hls.at fun o e => Heap.get?_push_of_some _ e⟩, F.push _, (fun p hp => ⟨Heap.get?_push_of_some _ (N p hp).1, (N p hp).2⟩), hJ0, ?_, ?_⟩
  · intro hm
    rcases List.mem_cons.mp hm with e | hm
    · exact absurd F.ns.lt (e ▸ Nat.lt_irrefl _)
    · exact hlL (List.mem_singleton.mp hm).symm
  · intro b hb
    rw [List.mem_singleton.mp hb]
    exact next_is_new F
  · intro p hp hI
    exact absurd (Heap.lt_size (N p hp).1) ((List.mem_singleton.mp hI) ▸ Nat.lt_irrefl _)
  · rintro i v m₁ news₁ s₁ own ⟨hh', tk', rfl⟩ hin hP hJ hoff hown _ hmem hst F₁ N₁
    obtain ⟨⟨oi, hoi, _⟩, _⟩ := hst
    have hI : (s.heap.objs.size, oi) ∈ own := hmem _ (.head _) (next_is_new F) oi hoi
    have N₂ : News h₀ env.locals hh' ((s.heap.objs.size, oi) :: news₁) := fun p hp => by
      rcases List.mem_cons.mp hp with e | e
      · rw [e]; exact N₁ _ (List.mem_append_left _ hI)
      · exact N₁ _ (List.mem_append_right _ e)
    have hP' : vs[i]? = some v := by simpa using hP
    refine wpAny_mono (turn i v m₁ news₁ hh' tk' s.heap.objs.size oi hP' hJ (fun p hp e => hoff p hp (List.mem_singleton.mpr e)) F₁ N₂) (fun f s₂ p => ?_) fun _ _ e => e
    have fin : LedEnd h₀ env.locals (J (i + 1)) s.heap.objs.size oi { s with heap := hh', toks := tk' } s₂ → LoopStepU h₀ env.locals [s.heap.objs.size] own (J (i + 1)) { s with heap := hh', toks := tk' } .next s₂ := by
      rintro ⟨h', tk, m', nx, e, F', N', hn, hm⟩
      refine ⟨rfl, h', tk, m', nx, e, F', fun p hp => ?_, fun p hp hq => hn p hp (List.mem_singleton.mp hq), hm⟩
      rcases List.mem_append.mp hp with hp | hp
      · rcases List.mem_cons.mp (hown p hp) with h1 | h1
        · have h2 : p.2 = oi := by
            have h3 := (N₁ p (List.mem_append_left _ hp)).1
            rw [h1] at h3
            dsimp only at h3 hoi
            rw [hoi] at h3
            exact (Option.some.inj h3).symm
          have h4 : p = (s.heap.objs.size, oi) := Prod.ext h1 h2
          rw [h4]; exact N' _ (.head _)
        · have h5 := List.mem_singleton.mp h1
          have h6 := hJl _ _ _ hJ
          have h2 : p.2 = listOf vs.toArray n := by
            have h3 := (N₁ p (List.mem_append_left _ hp)).1
            rw [h5] at h3
            have h7 := (N₁ _ (List.mem_append_right _ h6)).1
            dsimp only at h3 h7
            rw [h7] at h3
            exact (Option.some.inj h3).symm
          have h4 : p = (l, listOf vs.toArray n) := Prod.ext h5 h2
          rw [h4]; exact N' _ (.tail _ (hJl _ _ _ hm))
      · exact N' p (.tail _ hp)
    cases f with
    | ret v => exact .ret p
    | brk => exact .brk p
    | next => exact .next (fin p)
    | cont => exact .cont (fin p)
  · rintro h' tk m' news' F' N' _ hJ
    exact done m' news' h' tk hJ F' N'

theorem iter_rng {A : Around} {env : Env} {body : List Stmt} {x : Str} {Q : Flow → Shared → Prop} {r : Addr} {a₀ b₀ : Int} {t₀ u₀ v₀ : Tok} {n : Nat} {m₀ : Str → Option Value} {news : List (Addr × Obj)} (J : Nat → (Str → Option Value) → List (Addr × Obj) → Prop)
    (hh : A.handled = none) (hr : IsRange s.heap r a₀ b₀ 1 t₀ u₀ v₀) (hsmall : Builtin.Range.small a₀ b₀ 1 = true) (hn : Builtin.Range.rangeSize a₀ b₀ 1 = (n : Int)) (F : Fr h₀ env.locals s.heap m₀) (N : News h₀ env.locals s.heap news) (hJ0 : J 0 m₀ news)
    (turn : ∀ i t m₁ news₁ h tk I oI, i < n → J i m₁ news₁ → (∀ p ∈ news₁, @Ne Nat p.1 I) → Fr h₀ env.locals h (fun y => if y = x then some (.int (a₀ + (i : Int)) t) else m₁ y) → News h₀ env.locals h ((I, oI) :: news₁) →
      wpAny (model prog w) A (execs body env) (LedPost h₀ env.locals (J (i + 1)) I oI { s with heap := h, toks := tk } Q) E { s with heap := h, toks := tk })
    (done : ∀ m₁ news₁ h tk, J n m₁ news₁ → Fr h₀ env.locals h m₁ → News h₀ env.locals h news₁ → Q .next { s with heap := h, toks := tk }) :
    wpAny (model prog w) A (pyIter (.ref r)) (fun it s₂ => LoopAtV prog w A h₀ env x body Q E it s₂) E s := by
  refine wpAny_pyIter_range hr hsmall ?_
  have W : Walks prog w A s.heap.objs.size [s.heap.objs.size] [s.heap.objs.size] n (fun i v => i < n ∧ ∃ t, v = .int (a₀ + i * 1) t)
      (fun i h => IsRangeIter h s.heap.objs.size (a₀ + (i : Nat) * 1) ((n : Int) - (i : Nat)) 1) := (Walks.range hh _ a₀ 1 n).bound
  refine ⟨_, _, _, n, _, _, m₀, news, J, rfl, W, ?_, ?_, ?_, (by show IsRangeIter _ _ _ _ _; rw [hn]; simpa using Heap.get?_push_size _ rfl), F.push _, (fun p hp => ⟨Heap.get?_push_of_some _ (N p hp).1, (N p hp).2⟩), hJ0, ?_, ?_⟩
  · intro hm
    exact absurd F.ns.lt ((List.mem_singleton.mp hm) ▸ Nat.lt_irrefl _)
  · intro b hb
    rw [List.mem_singleton.mp hb]
    exact next_is_new F
  · intro p hp hI
    exact absurd (Heap.lt_size (N p hp).1) ((List.mem_singleton.mp hI) ▸ Nat.lt_irrefl _)
  · rintro i v m₁ news₁ s₁ own ⟨hh', tk', rfl⟩ hin ⟨_, t, rfl⟩ hJ hoff hown _ hmem hst F₁ N₁
    obtain ⟨oi, hoi⟩ : ∃ oi, hh'.get? s.heap.objs.size = some oi := ⟨_, hst⟩
    have hI := hmem _ (.head _) (next_is_new F) _ hoi
    have N₂ : News h₀ env.locals hh' ((s.heap.objs.size, oi) :: news₁) := fun p hp => by
      rcases List.mem_cons.mp hp with e | e
      · rw [e]; exact N₁ _ (List.mem_append_left _ hI)
      · exact N₁ _ (List.mem_append_right _ e)
    rw [Int.mul_one] at F₁
    refine wpAny_mono (turn i t m₁ news₁ hh' tk' s.heap.objs.size oi hin hJ (fun p hp e => hoff p hp (List.mem_singleton.mpr e)) F₁ N₂) (fun f s₂ p => ?_) fun _ _ e => e
    have fin : LedEnd h₀ env.locals (J (i + 1)) s.heap.objs.size oi { s with heap := hh', toks := tk' } s₂ → LoopStepU h₀ env.locals [s.heap.objs.size] own (J (i + 1)) { s with heap := hh', toks := tk' } .next s₂ := by
      rintro ⟨h', tk, m', nx, e, F', N', hn, hm⟩
      refine ⟨rfl, h', tk, m', nx, e, F', fun p hp => ?_, fun p hp hq => hn p hp (List.mem_singleton.mp hq), hm⟩
      rcases List.mem_append.mp hp with hp | hp
      · have h1 := List.mem_singleton.mp (hown p hp)
        have h2 := (N₁ p (List.mem_append_left _ hp)).1
        rw [h1] at h2
        have h3 : p.2 = oi := (Option.some.inj (h2.symm.trans hoi))
        have h4 : p = (s.heap.objs.size, oi) := Prod.ext h1 h3
        rw [h4]; exact N' _ (.head _)
      · exact N' p (.tail _ hp)
    cases f with
    | ret v => exact .ret p
    | brk => exact .brk p
    | next => exact .next (fin p)
    | cont => exact .cont (fin p)
  · rintro h' tk m' news' F' N' _ hJ
    exact done m' news' h' tk hJ F' N'

end
/- Loops2 -/
section
variable {prog : Program} {w : World} {p : Program} {loose : List Str} {mean : ExcName → Option Value} {mg mb : Str → Option Value}
  {dp un : Nat} {gd : Option (List Code)} {cn : Str} {cs : Scope} {a : Addr} {ccd : Value} {cl : List (Str × Addr)} {outer : List Env} {A₀ : Around} {base h₀ : Heap} {L : Addr} {m : Str → Option Value} {s : Shared} {Q E : Value → Shared → Prop}
theorem iter_ledT {A : Around} {env : Env} {body : List Stmt} {target : PySem.Expr} {Q : Flow → Shared → Prop} {l : Addr} {vs : List Value} {n : Nat} {m₀ : Str → Option Value} {news : List (Addr × Obj)} (J : Nat → (Str → Option Value) → List (Addr × Obj) → Prop)
    (hh : A.handled = none) (F : Fr h₀ env.locals s.heap m₀) (N : News h₀ env.locals s.heap news) (hJ0 : J 0 m₀ news) (hJl : ∀ i m₁ news₁, J i m₁ news₁ → (l, listOf vs.toArray n) ∈ news₁)
    (turn : ∀ i v m₁ news₁ h tk I oI, vs[i]? = some v → J i m₁ news₁ → (∀ p ∈ news₁, @Ne Nat p.1 I) → Fr h₀ env.locals h m₁ → News h₀ env.locals h ((I, oI) :: news₁) →
      wpAny (model prog w) A (assign target env v) (fun _ s₃ => wpAny (model prog w) A (execs body env) (LedPost h₀ env.locals (J (i + 1)) I oI { s with heap := h, toks := tk } Q) E s₃) E { s with heap := h, toks := tk })
    (done : ∀ m₁ news₁ h tk, J vs.length m₁ news₁ → Fr h₀ env.locals h m₁ → News h₀ env.locals h news₁ → Q .next { s with heap := h, toks := tk }) :
    wpAny (model prog w) A (pyIter (.ref l)) (fun it s₂ => TurnsAt prog w A h₀ env target body Q E it s₂) E s := by
  have hl := hJl _ _ _ hJ0
  have hls : s.heap.IsList l vs.toArray := News.isList N hl
  have hlL : l ≠ env.locals := (N _ hl).2.1
  have hlt : l < s.heap.objs.size := Heap.lt_size (N _ hl).1
  have hne : l ≠ s.heap.objs.size := Nat.ne_of_lt hlt
  refine wpAny_pyIter_list hls ?_
  have W := Walks.list (prog := prog) (w := w) hh s.heap.objs.size l hne vs.toArray
  have hlen : vs.toArray.size = vs.length := by simp
  rw [hlen] at W
  refine ⟨_, _, _, vs.length, _, _, _, m₀, news, J, rfl, KTurns.ofWalks W (fun i v s Q E st q => letGo_listiter st.1 q), ?_, ?_, ?_, ⟨⟨_, Heap.get?_push_size _ rfl, rfl, rfl⟩, hls.at fun o e => Heap.get?_push_of_some _ e⟩, F.push _, (fun p hp => ⟨Heap.get?_push_of_some _ (N p hp).1, (N p hp).2⟩), hJ0, ?_, ?_⟩
  · intro hm
    rcases List.mem_cons.mp hm with e | hm
    · exact absurd F.ns.lt (e ▸ Nat.lt_irrefl _)
    · exact hlL (List.mem_singleton.mp hm).symm
  · intro b hb
    rw [List.mem_singleton.mp hb]
    exact next_is_new F
  · intro p hp hI
    exact absurd (Heap.lt_size (N p hp).1) ((List.mem_singleton.mp hI) ▸ Nat.lt_irrefl _)
  · rintro i v m₁ news₁ hh' tk' own hin hP hJ hoff hown _ hmem hst F₁ N₁
    obtain ⟨⟨oi, hoi, _⟩, _⟩ := hst
    have hI : (s.heap.objs.size, oi) ∈ own := hmem _ (.head _) (next_is_new F) oi hoi
    have N₂ : News h₀ env.locals hh' ((s.heap.objs.size, oi) :: news₁) := fun p hp => by
      rcases List.mem_cons.mp hp with e | e
      · rw [e]; exact N₁ _ (List.mem_append_left _ hI)
      · exact N₁ _ (List.mem_append_right _ e)
    have hP' : vs[i]? = some v := by simpa using hP
    refine wpAny_mono (turn i v m₁ news₁ hh' tk' s.heap.objs.size oi hP' hJ (fun p hp e => hoff p hp (List.mem_singleton.mpr e)) F₁ N₂) (fun _ s₃ h₃ => wpAny_mono h₃ (fun f s₂ p => ?_) fun _ _ e => e) fun _ _ e => e
    have fin : LedEnd h₀ env.locals (J (i + 1)) s.heap.objs.size oi { s with heap := hh', toks := tk' } s₂ → LoopStepU h₀ env.locals [s.heap.objs.size] own (J (i + 1)) { s with heap := hh', toks := tk' } .next s₂ := by
      rintro ⟨h', tk, m', nx, e, F', N', hn, hm⟩
      refine ⟨rfl, h', tk, m', nx, e, F', fun p hp => ?_, fun p hp hq => hn p hp (List.mem_singleton.mp hq), hm⟩
      rcases List.mem_append.mp hp with hp | hp
      · rcases List.mem_cons.mp (hown p hp) with h1 | h1
        · have h2 : p.2 = oi := by
            have h3 := (N₁ p (List.mem_append_left _ hp)).1
            rw [h1] at h3
            rw [hoi] at h3
            exact (Option.some.inj h3).symm
          have h4 : p = (s.heap.objs.size, oi) := Prod.ext h1 h2
          rw [h4]; exact N' _ (.head _)
        · have h5 := List.mem_singleton.mp h1
          have h6 := hJl _ _ _ hJ
          have h2 : p.2 = listOf vs.toArray n := by
            have h3 := (N₁ p (List.mem_append_left _ hp)).1
            rw [h5] at h3
            have h7 := (N₁ _ (List.mem_append_right _ h6)).1
            (try dsimp only at h3 h7)
            rw [h7] at h3
            exact (Option.some.inj h3).symm
          have h4 : p = (l, listOf vs.toArray n) := Prod.ext h5 h2
          rw [h4]; exact N' _ (.tail _ (hJl _ _ _ hm))
      · exact N' p (.tail _ hp)
    cases f with
    | ret v => exact .ret p
    | brk => exact .brk p
    | next => exact .next (fin p)
    | cont => exact .cont (fin p)
  · rintro h' tk m' news' F' N' _ hJ
    exact done m' news' h' tk hJ F' N'

end
/- Comps -/
section
variable {prog : Program} {w : World} {p : Program} {loose : List Str} {mean : ExcName → Option Value} {mg mb : Str → Option Value}
  {dp un : Nat} {gd : Option (List Code)} {cn : Str} {cs : Scope} {a : Addr} {ccd : Value} {cl : List (Str × Addr)} {outer : List Env} {A₀ : Around} {base h₀ : Heap} {L : Addr} {m : Str → Option Value} {s : Shared} {Q E : Value → Shared → Prop}
/-- a list comprehension's turns by an invariant over what is made and the ledger -/
theorem comp_inv {A : Around} {env : Env} {elt : PySem.Expr} {x : Str} {scope : Scope} {clo : List (Str × Addr)} {S : List (Addr × Obj) → Prop} {P : Nat → Value → Prop} {Fin : List Value → List (Addr × Obj) → Prop} {n : Nat} {news : List (Addr × Obj)}
    (J : Nat → List Value → List (Addr × Obj) → Prop) (J0 : J 0 [] news)
    (turn : ∀ i v ys news₁ I oI C oC D m₂ h tk (E' : Value → Shared → Prop), i < n → P i v → J i ys news₁ → LCg.NsObj oC m₂ → m₂ x = some v → Fr h₀ L h m → News h₀ L h ((I, oI) :: (C, oC) :: (D, LCg.lst ys) :: news₁) → LCg.Off3 I C D news₁ → ((@Ne Nat I C) ∧ (@Ne Nat I D) ∧ (@Ne Nat C D)) →
      wpAny (model prog w) A (eval elt (compEnvC scope clo C env)) (LCg.CompEnd h₀ L m { s with heap := h, toks := tk } I oI C oC D (LCg.lst ys) S (fun y news' => J (i + 1) (ys ++ [y]) news')) E' { s with heap := h, toks := tk })
    (fin : ∀ ys news₁, J n ys news₁ → Fin ys news₁) : LCg.CompRest prog w A h₀ L m env elt x scope clo s S P Fin n 0 [] news := by
  have key : ∀ (j i : Nat) (ys : List Value) (news₁ : List (Addr × Obj)), i + j = n → J i ys news₁ → LCg.CompRest prog w A h₀ L m env elt x scope clo s S P Fin j i ys news₁ := by
    intro j
    induction j with
    | zero =>
      intro i ys news₁ hi hJ
      have e : i = n := by omega
      subst e
      exact LCg.CompRest.zero (fin ys news₁ hJ)
    | succ j ih =>
      intro i ys news₁ hi hJ
      refine LCg.CompRest.succ ?_
      intro v I oI C oC D m₂ h tk E' hv hC hx F N off ne
      refine wpAny_mono (turn i v ys news₁ I oI C oC D m₂ h tk E' (by omega) hv hJ hC hx F N off ne) (fun y s₂ hq => ?_) fun _ _ e => e
      obtain ⟨h', tk', nw, e, F', N', off', hS, hJ'⟩ := hq
      exact ⟨h', tk', nw, e, F', N', off', hS, ih (i + 1) _ _ (by omega) hJ'⟩
  exact key n 0 [] news (by omega) J0
theorem range1_call {n : Int} {t : Tok} {news : List (Addr × Obj)} (F : Fr h₀ L s.heap m) (N : News h₀ L s.heap news)
    (h : ∀ r h' t' u' tk, IsRange h' r 0 n 1 t' t u' → Fr h₀ L h' m → News h₀ L h' news → Q (.ref r) { s with heap := h', toks := tk }) : wpAny (model prog w) A₀ (call (.type "range") [.int n t]) Q E s :=
  call_range_1 (h _ _ _ _ _ (IsRange.new _ _ _ _ _ _ _) (F.push _) fun p hp => ⟨Heap.get?_push_of_some _ (N p hp).1, (N p hp).2⟩)

end
/- Comp2 -/
section
variable {prog : Program} {w : World} {p : Program} {loose : List Str} {mean : ExcName → Option Value} {mg mb : Str → Option Value}
  {dp un : Nat} {gd : Option (List Code)} {cn : Str} {cs : Scope} {a : Addr} {ccd : Value} {cl : List (Str × Addr)} {outer : List Env} {A₀ : Around} {base h₀ : Heap} {L : Addr} {m : Str → Option Value} {s : Shared} {Q E : Value → Shared → Prop}
theorem compTurn_in (elt t1 i1 t2 i2 : PySem.Expr) (scope : Scope) (pos : Pos) (it acc : Value) (env : Env) :
    compTurn (.ListComp elt [⟨t1, i1, [], 0⟩, ⟨t2, i2, [], 0⟩] scope pos) 1 it acc env = (standAt i2.pos >>= fun _ => pyNext it >>= fun r => match r with
      | none => pure (.done .next)
      | some v => letOwnedTupleGo t2 it v >>= fun _ => assign t2 env v >>= fun _ =>
        (eval elt env >>= fun x => call (.builtin "list.append") [acc, x] >>= fun _ => pure ()) >>= fun _ =>
          again (.compLoop (.ListComp elt [⟨t1, i1, [], 0⟩, ⟨t2, i2, [], 0⟩] scope pos) 1 it acc env)) := by rfl
theorem compTurn_out (elt t1 i1 t2 i2 : PySem.Expr) (scope : Scope) (pos : Pos) (it acc : Value) (env : Env) :
    compTurn (.ListComp elt [⟨t1, i1, [], 0⟩, ⟨t2, i2, [], 0⟩] scope pos) 0 it acc env = (standAt i1.pos >>= fun _ => pyNext it >>= fun r => match r with
      | none => pure (.done .next)
      | some v => letOwnedTupleGo t1 it v >>= fun _ => assign t1 env v >>= fun _ =>
        eval i2 env >>= fun x => standAt i2.pos >>= fun _ => foldedSetIterable i2 env x >>= fun x => holding [x] (pyIter x) >>= fun it' =>
          runOwn (.compStart (.ListComp elt [⟨t1, i1, [], 0⟩, ⟨t2, i2, [], 0⟩] scope pos) 1 it' acc env) env >>= fun _ =>
          again (.compLoop (.ListComp elt [⟨t1, i1, [], 0⟩, ⟨t2, i2, [], 0⟩] scope pos) 0 it acc env)) := by rfl
theorem codeAny_compLoop_in {A : Around} {R : Result → Shared → Prop} {elt t1 i1 t2 i2 : PySem.Expr} {scope : Scope} {pos : Pos} {it acc : Value} {env : Env} (I : Nat → Shared → Prop)
    (turn : ∀ n s, I n s → wpAny (model prog w) A (pyNext it) (fun r s₁ => match r with
      | none => R (.ok .next) s₁
      | some v => wpAny (model prog w) A (assign t2 env v) (fun _ s₂ => wpAny (model prog w) A (eval elt env) (fun x s₃ =>
          wpAny (model prog w) A (call (.builtin "list.append") [acc, x]) (fun _ s₄ => ∃ m, m < n ∧ I m s₄) (notedBy (model prog w) A env fun e s' => R (.error e) s') s₃)
          (notedBy (model prog w) A env fun e s' => R (.error e) s') s₂) (notedBy (model prog w) A env fun e s' => R (.error e) s') s₁) (notedBy (model prog w) A env fun e s' => R (.error e) s') s)
    (n : Nat) (h : I n s) (ht : ∀ v, letOwnedTupleGo t2 it v = pure () := by intro _; rfl) :
    codeAny (model prog w) A (.compLoop (.ListComp elt [⟨t1, i1, [], 0⟩, ⟨t2, i2, [], 0⟩] scope pos) 1 it acc env) R s := by
  refine codeAny_loop rfl I (fun n s hI => ?_) n h
  show wpAny _ _ ((compTurn (.ListComp elt [⟨t1, i1, [], 0⟩, ⟨t2, i2, [], 0⟩] scope pos) 1 it acc env).onRaise (fun x => do noteFrame x env; theTreesLotGoes x)) _ _ s
  refine wpAny_noted ?_
  rw [compTurn_in]
  refine wpAny_bind (wpAny_standAt (wpAny_bind (wpAny_mono (turn n s hI) (fun r s₁ h₁ => ?_) fun _ _ h' => h')))
  cases r with
  | none => exact wpAny_pure h₁
  | some v =>
    refine wpAny_bind (wpAny_of_eq (ht v) ?_)
    exact wpAny_bind (wpAny_mono h₁ (fun _ s₂ h₂ => wpAny_bind (wpAny_bind (wpAny_mono h₂ (fun x s₃ h₃ => wpAny_bind (wpAny_mono h₃
      (fun _ s₄ h₄ => wpAny_pure (wpAny_pure ⟨rfl, h₄⟩)) fun _ _ h' => h')) fun _ _ h' => h'))) fun _ _ h' => h')
theorem codeAny_compStart_in {A : Around} {R : Result → Shared → Prop} {elt t1 i1 t2 i2 : PySem.Expr} {scope : Scope} {pos : Pos} {it acc : Value} {env : Env}
    (h0 : codeAny (model prog w) A (.compLoop (.ListComp elt [⟨t1, i1, [], 0⟩, ⟨t2, i2, [], 0⟩] scope pos) 1 it acc env) R s)
    (h : wpAny (model prog w) A (pyIter it) (fun it' s' => codeAny (model prog w) A (.compLoop (.ListComp elt [⟨t1, i1, [], 0⟩, ⟨t2, i2, [], 0⟩] scope pos) 1 it' acc env) R s')
      (notedBy (model prog w) A env fun x s' => R (.error x) s') s) :
    codeAny (model prog w) A (.compStart (.ListComp elt [⟨t1, i1, [], 0⟩, ⟨t2, i2, [], 0⟩] scope pos) 1 it acc env) R s := by
  refine codeAny_of_tree ?_
  show wpAny _ _ ((compStart (.ListComp elt [⟨t1, i1, [], 0⟩, ⟨t2, i2, [], 0⟩] scope pos) 1 it acc env).onRaise (fun x => do noteFrame x env; standAt theWindowsPlace)) _ _ s
  refine wpAny_notedAt ?_
  unfold compStart
  show wpAny _ _ (ask >>= _) _ _ s
  refine wpAny_bind (wpAny_askSetting (wpAny_ite ?_))
  split
  · first
      | exact wpAny_bind (wpAny_pure (wpAny_pure (And.intro rfl h0)))
      | exact wpAny_pure (And.intro rfl h0)
  · first
      | exact wpAny_bind (wpAny_rule (wpAny_bind (wpAny_standAt (wpAny_bind (wpAny_mono h (fun it' s' h' => wpAny_pure (And.intro rfl h')) fun _ _ x => x)))))
      | (refine wpAny_bind (wpAny_rule ?_); show wpAny _ _ (standAt i2.pos >>= _) _ _ s; exact wpAny_bind (wpAny_standAt (wpAny_bind (wpAny_mono h (fun it' s' h' => wpAny_pure (And.intro rfl h')) fun _ _ x => x))))
theorem codeAny_compLoop_out {A : Around} {R : Result → Shared → Prop} {elt t1 i1 t2 i2 : PySem.Expr} {scope : Scope} {pos : Pos} {it acc : Value} {env : Env} (I : Nat → Shared → Prop)
    (turn : ∀ n s, I n s → wpAny (model prog w) A (pyNext it) (fun r s₁ => match r with
      | none => R (.ok .next) s₁
      | some v => wpAny (model prog w) A (assign t1 env v) (fun _ s₂ => wpAny (model prog w) A (eval i2 env) (fun x s₃ => wpAny (model prog w) A (pyIter x) (fun it' s₄ =>
          codeAny (model prog w) A (.compStart (.ListComp elt [⟨t1, i1, [], 0⟩, ⟨t2, i2, [], 0⟩] scope pos) 1 it' acc env)
            (fun r s₅ => match r with | .ok _ => ∃ m, m < n ∧ I m s₅ | .error e => cameBackBy (model prog w) A env (notedBy (model prog w) A env fun e s' => R (.error e) s') e s₅) s₄)
          (notedBy (model prog w) A env fun e s' => R (.error e) s') s₃)
          (notedBy (model prog w) A env fun e s' => R (.error e) s') s₂) (notedBy (model prog w) A env fun e s' => R (.error e) s') s₁) (notedBy (model prog w) A env fun e s' => R (.error e) s') s)
    (n : Nat) (h : I n s) (ht : ∀ v, letOwnedTupleGo t1 it v = pure () := by intro _; rfl) (hs : ∀ x, foldedSetIterable i2 env x = pure x := by intro _; rfl) :
    codeAny (model prog w) A (.compLoop (.ListComp elt [⟨t1, i1, [], 0⟩, ⟨t2, i2, [], 0⟩] scope pos) 0 it acc env) R s := by
  refine codeAny_loop rfl I (fun n s hI => ?_) n h
  show wpAny _ _ ((compTurn (.ListComp elt [⟨t1, i1, [], 0⟩, ⟨t2, i2, [], 0⟩] scope pos) 0 it acc env).onRaise (fun x => do noteFrame x env; theTreesLotGoes x)) _ _ s
  refine wpAny_noted ?_
  rw [compTurn_out]
  refine wpAny_bind (wpAny_standAt (wpAny_bind (wpAny_mono (turn n s hI) (fun r s₁ h₁ => ?_) fun _ _ h' => h')))
  cases r with
  | none => exact wpAny_pure h₁
  | some v =>
    refine wpAny_bind (wpAny_of_eq (ht v) ?_)
    refine wpAny_bind (wpAny_mono h₁ (fun _ s₂ h₂ => ?_) fun _ _ h' => h')
    refine wpAny_bind (wpAny_mono h₂ (fun x s₃ h₃ => ?_) fun _ _ h' => h')
    refine wpAny_bind (wpAny_standAt (wpAny_bind (wpAny_of_eq (hs x) ?_)))
    refine wpAny_bind (wpAny_holding (wpAny_mono h₃ (fun it' s₄ h₄ => ?_) fun _ _ h' => h'))
    exact wpAny_bind (wpAny_mono (wpAny_runOwn (Q := fun _ s' => ∃ m, m < n ∧ I m s') h₄) (fun _ s₅ h₅ => wpAny_pure ⟨rfl, h₅⟩) fun _ _ h' => h')

end
/- Comp3 -/
section
variable {prog : Program} {w : World} {p : Program} {loose : List Str} {mean : ExcName → Option Value} {mg mb : Str → Option Value}
  {dp un : Nat} {gd : Option (List Code)} {cn : Str} {cs : Scope} {a : Addr} {ccd : Value} {cl : List (Str × Addr)} {outer : List Env} {A₀ : Around} {base h₀ : Heap} {L : Addr} {m : Str → Option Value} {s : Shared} {Q E : Value → Shared → Prop}
/-- a list comprehension with one test, its turns by an invariant over what is made and the ledger -/
theorem comp_invT {A : Around} {env : Env} {ct elt : PySem.Expr} {x : Str} {scope : Scope} {clo : List (Str × Addr)} {S : List (Addr × Obj) → Prop} {P : Nat → Value → Prop} {Fin : List Value → List (Addr × Obj) → Prop} {n : Nat} {news : List (Addr × Obj)}
    (J : Nat → List Value → List (Addr × Obj) → Prop) (J0 : J 0 [] news)
    (turn : ∀ i v ys news₁ I oI C oC D m₂ h tk (E' : Value → Shared → Prop), i < n → P i v → J i ys news₁ → LCg.NsObj oC m₂ → m₂ x = some v → Fr h₀ L h m → News h₀ L h ((I, oI) :: (C, oC) :: (D, LCg.lst ys) :: news₁) → LCg.Off3 I C D news₁ → ((@Ne Nat I C) ∧ (@Ne Nat I D) ∧ (@Ne Nat C D)) →
      wpAny (model prog w) A (isTrue ct (compEnvC scope clo C env) (eval ct (compEnvC scope clo C env))) (fun ok s' => if ok = true then
        wpAny (model prog w) A (eval elt (compEnvC scope clo C env)) (LCg.CompEnd h₀ L m { s with heap := h, toks := tk } I oI C oC D (LCg.lst ys) S (fun y news' => J (i + 1) (ys ++ [y]) news')) E' s'
        else LCg.CompEnd h₀ L m { s with heap := h, toks := tk } I oI C oC D (LCg.lst ys) S (fun _ news' => J (i + 1) ys news') Value.none s') E' { s with heap := h, toks := tk })
    (fin : ∀ ys news₁, J n ys news₁ → Fin ys news₁) : LCt.CompRestT prog w A h₀ L m env ct elt x scope clo s S P Fin n 0 [] news := by
  have key : ∀ (j i : Nat) (ys : List Value) (news₁ : List (Addr × Obj)), i + j = n → J i ys news₁ → LCt.CompRestT prog w A h₀ L m env ct elt x scope clo s S P Fin j i ys news₁ := by
    intro j
    induction j with
    | zero =>
      intro i ys news₁ hi hJ
      have e : i = n := by omega
      subst e
      exact LCt.CompRestT.zero (fin ys news₁ hJ)
    | succ j ih =>
      intro i ys news₁ hi hJ
      refine LCt.CompRestT.succ ?_
      intro v I oI C oC D m₂ h tk E' hv hC hx F N off ne
      refine wpAny_mono (turn i v ys news₁ I oI C oC D m₂ h tk E' (by omega) hv hJ hC hx F N off ne) (fun ok s₂ hq => ?_) fun _ _ e => e
      cases ok with
      | true =>
        simp only [if_true] at hq ⊢
        refine wpAny_mono hq (fun y s₃ hq => ?_) fun _ _ e => e
        obtain ⟨h', tk', nw, e, F', N', off', hS, hJ'⟩ := hq
        exact ⟨h', tk', nw, e, F', N', off', hS, ih (i + 1) _ _ (by omega) hJ'⟩
      | false =>
        simp only [Bool.false_eq_true, if_false] at hq ⊢
        obtain ⟨h', tk', nw, e, F', N', off', hS, hJ'⟩ := hq
        exact ⟨h', tk', nw, e, F', N', off', hS, ih (i + 1) _ _ (by omega) hJ'⟩
  exact key n 0 [] news (by omega) J0
abbrev trues (n : Nat) : List Value := List.replicate n (.bool true)
theorem trues_push (n : Nat) : ({ cls := .type "list", data := .seq ((trues n).toArray.push (.bool true)) ((trues n).length + 1) } : Obj) = LCg.lst (trues (n + 1)) := by
  rw [LCg.lst_snoc]
  congr 1
  exact (List.replicate_succ' (n := n) (a := Value.bool true)).symm
/-- what the inner clause's source and the element do -/
structure Two (prog : Program) (w : World) (A : Around) (h₀ : Heap) (L : Addr) (m : Str → Option Value) (env : Env) (elt i2 : PySem.Expr) (x y : Str) (scope : Scope) (clo : List (Str × Addr)) (own : List (Addr × Obj)) (l2 : Addr) (vs1 vs2 : List Value) (s₁ : Shared) : Prop where
  iter : ∀ C oC m₂ h tk (E' : Value → Shared → Prop), LCg.NsObj oC m₂ → h.get? C = some oC → Fr h₀ L h m → News h₀ L h own → wpAny (model prog w) A (eval i2 (compEnvC scope clo C env)) (fun v s' => v = .ref l2 ∧ ∃ tk', s' = { s₁ with heap := h, toks := tk' }) E' { s₁ with heap := h, toks := tk }
  turn : ∀ v1 v2 I1 oI1 I2 oI2 C oC D oD m₂ h tk (E' : Value → Shared → Prop), v1 ∈ vs1 → v2 ∈ vs2 → LCg.NsObj oC m₂ → m₂ x = some v1 → m₂ y = some v2 → Fr h₀ L h m → News h₀ L h ((I2, oI2) :: (I1, oI1) :: (C, oC) :: (D, oD) :: own) →
    wpAny (model prog w) A (eval elt (compEnvC scope clo C env)) (fun v s' => v = .bool true ∧ ∃ h' tk', s' = { s₁ with heap := h', toks := tk' } ∧ Fr h₀ L h' m ∧ News h₀ L h' ((I2, oI2) :: (I1, oI1) :: (C, oC) :: (D, oD) :: own)) E' { s₁ with heap := h, toks := tk }
theorem iter_same {h h' : Heap} {I l : Addr} {i : Nat} {o : Obj} (x : h.IsListIter I l i) (e : h.get? I = some o) (e' : h'.get? I = some o) : h'.IsListIter I l i := by
  obtain ⟨o', q, r⟩ := x
  rw [e] at q; cases q
  exact ⟨o, e', r⟩
theorem iter_obj {h : Heap} {I l : Addr} {i : Nat} (x : h.IsListIter I l i) : ∃ o, h.get? I = some o := let ⟨o, e, _⟩ := x; ⟨o, e⟩
theorem block_2 {A : Around} {env : Env} {elt i1 i2 : PySem.Expr} {x y : Str} {px py : Pos} {scope : Scope} {clo : List (Str × Addr)} {pos : Pos} {own : List (Addr × Obj)} {s₂ : Shared} {I l1 l2 : Addr} {vs1 vs2 : List Value} {k1 k2 : Nat} {RR : Value → Addr → Result → Shared → Prop}
    (hh : A.handled = none) (hcell : ∀ y ∈ scope.names, y.2 ≠ .cell) (hkind : scope.kind = .function) (hx : scope.names.lookup x = some .local) (hy : scope.names.lookup y = some .local) (hxy : x ≠ y)
    (m1 : (l1, listOf vs1.toArray k1) ∈ own) (m2 : (l2, listOf vs2.toArray k2) ∈ own) (hsz : vs1.length * vs2.length ≤ 1000)
    (hst : s₂.heap.IsListIter I l1 0) (F : Fr h₀ L s₂.heap m) (N : News h₀ L s₂.heap own) (hIL : L ≠ I) (hI₀ : h₀.get? I = none) (off : ∀ p ∈ own, p.1 ≠ I)
    (tw : Two prog w A h₀ L m env elt i2 x y scope clo own l2 vs1 vs2 s₂) (hs2 : ∀ env' x, foldedSetIterable i2 env' x = pure x)
    (hRR : ∀ D C h tk m' n, Fr h₀ L h m → News h₀ L h ((D, LCg.lst (trues n)) :: own) → LCg.Off1 D own → h.Ns C m' → h₀.get? C = none → h₀.get? D = none → C ≠ L → D ≠ L → C ≠ D → (∀ p ∈ own, p.1 ≠ C) → n ≤ 1000 → RR (.ref D) C (.ok .next) { s₂ with heap := h, toks := tk }) :
    wpAny (model prog w) A (newList []) (fun acc s₃ => wpAny (model prog w) A (newFunctionEnv scope env.globals clo [] env.qual none .none (some env)) (fun cenv s₄ =>
      codeAny (model prog w) A (.compStart (.ListComp elt [⟨.Name x px, i1, [], 0⟩, ⟨.Name y py, i2, [], 0⟩] scope pos) 0 (.ref I) acc { cenv with scope := relabel scope env }) (RR acc cenv.locals) s₄) E s₃) E s₂ := by
  have hl1 := News.isList N m1
  have hIlt : I < s₂.heap.objs.size := by obtain ⟨_, e, _⟩ := hst; exact Heap.lt_size e
  have hne1 : l1 ≠ I := off _ m1
  have W := Walks.list (prog := prog) (w := w) hh I l1 hne1 vs1.toArray
  rw [List.size_toArray] at W
  refine wpAny_newObj_type (wpAny_newFunctionEnv hcell (by intro y hy; simp at hy) (fun h₁ hns₁ hsb₁ => ?_) hkind)
  dsimp only at hns₁ hsb₁ ⊢
  generalize hH2 : s₂.heap.push { cls := .type "list", dict := none, data := .seq ([] : List Value).toArray } = H2 at hns₁ hsb₁ ⊢
  have hC : H2.objs.size = s₂.heap.objs.size + 1 := by rw [← hH2, Heap.size_push]
  have hDC : s₂.heap.objs.size ≠ H2.objs.size := by rw [hC]; exact Nat.ne_of_lt (Nat.lt_succ_self _)
  have below : ∀ b, b < s₂.heap.objs.size → b ≠ H2.objs.size ∧ b ≠ s₂.heap.objs.size := fun b hb => ⟨by rw [hC]; exact Nat.ne_of_lt (Nat.lt_succ_of_lt hb), Nat.ne_of_lt hb⟩
  have old : ∀ b o, s₂.heap.get? b = some o → h₁.get? b = some o := fun b o e => hsb₁.extBut b o (below b (Heap.lt_size e)).1 (Heap.get?_push_of_some _ (hH2 ▸ Heap.get?_push_of_some _ e))
  have hacc : h₁.get? s₂.heap.objs.size = some (LCg.lst (trues 0)) := hsb₁.extBut _ _ hDC (Heap.get?_push_of_some _ (hH2 ▸ Heap.get?_push_size _ rfl))
  have fresh : ∀ a, s₂.heap.objs.size ≤ a → s₂.heap.get? a = none := fun a ha => by
    cases e : s₂.heap.get? a with
    | none => rfl
    | some o' => exact absurd (Heap.lt_size e) (Nat.not_lt.mpr ha)
  have fresh₀ : ∀ a, s₂.heap.objs.size ≤ a → h₀.get? a = none := fun a ha => by
    cases e : h₀.get? a with
    | none => rfl
    | some o' => have := F.keep a o' e; rw [fresh a ha] at this; cases this
  have hD₀ : h₀.get? s₂.heap.objs.size = none := fresh₀ _ (Nat.le_refl _)
  have hC₀ : h₀.get? H2.objs.size = none := fresh₀ _ (by rw [hC]; exact Nat.le_succ _)
  have hLlt : L < s₂.heap.objs.size := F.ns.lt
  have hDL : s₂.heap.objs.size ≠ L := Ne.symm (below L hLlt).2
  have hCL : H2.objs.size ≠ L := Ne.symm (below L hLlt).1
  have hCI : I ≠ H2.objs.size := (below I hIlt).1
  have hDI : I ≠ s₂.heap.objs.size := (below I hIlt).2
  have offC : ∀ p ∈ own, p.1 ≠ H2.objs.size := fun p hp => (below _ (Heap.lt_size (N p hp).1)).1
  have offD : ∀ p ∈ own, p.1 ≠ s₂.heap.objs.size := fun p hp => (below _ (Heap.lt_size (N p hp).1)).2
  have off1D : LCg.Off1 s₂.heap.objs.size own := LCg.Off3.one (I := s₂.heap.objs.size) (C := s₂.heap.objs.size) (LCg.Off3.of fun p hp => ⟨offD p hp, offD p hp, offD p hp⟩)
  have hst₁ : h₁.IsListIter I l1 0 := hst.at fun o e => old _ o e
  have N₁ : News h₀ L h₁ ((s₂.heap.objs.size, LCg.lst (trues 0)) :: own) := fun p hp => by
    rcases List.mem_cons.mp hp with rfl | hp
    · exact ⟨hacc, hDL, hD₀⟩
    · exact ⟨old _ _ (N p hp).1, (N p hp).2⟩
  have F₁ : Fr h₀ L h₁ m := F.keeps old
  generalize s₂.heap.objs.size = D at *
  generalize H2.objs.size = C at *
  have loop : ∀ s₃ : Shared, s₃ = { s₂ with heap := h₁, toks := s₂.toks + ([] : List (Str × Value)).length } →
      codeAny (model prog w) A (.compLoop (.ListComp elt [⟨.Name x px, i1, [], 0⟩, ⟨.Name y py, i2, [], 0⟩] scope pos) 0 (.ref I) (.ref D) (compEnvC scope clo C env))
        (RR (.ref D) C) s₃ := by
    rintro s₃ rfl
    refine codeAny_compLoop_out
      (fun k s' => ∃ h' tk i nb m', s' = { s₂ with heap := h', toks := tk } ∧ i ≤ vs1.length ∧ k = vs1.length + 1 - i ∧ nb ≤ i * vs2.length ∧ h'.IsListIter I l1 i ∧ Fr h₀ L h' m ∧ h'.Ns C m' ∧ News h₀ L h' ((D, LCg.lst (trues nb)) :: own)) ?_ (vs1.length + 1)
      ⟨h₁, _, 0, 0, _, rfl, Nat.zero_le _, rfl, Nat.zero_le _, hst₁, F₁, hns₁, N₁⟩ (by intro _; rfl) (by intro x; exact hs2 _ x)
    intro k s' hJ9
    refine ex5and8 hJ9 ?_
    intro h' tk i nb m' e8 hi e9 hnb hst' F' hn' N'
    (try clear hJ9)
    subst e8
    subst e9
    have Nown : News h₀ L h' own := news_tail N'
    by_cases hlt : i < vs1.length
    · refine W.item i _ _ _ hlt ⟨hst', News.isList Nown m1⟩ fun v h₂ tk₂ hPv hst₂ hk₂ => ?_
      refine wpAny_assign_Name (wpAny_storeName_local (lookup_relabel_local hx) (hn'.at' fun o e => hk₂ _ o (by simpa using Ne.symm hCI) e) (fun h₃ hn₃ hs₃ => ?_) (by simp [compEnvC, relabel, hkind]))
      have hv : v ∈ vs1 := by
        have : vs1[i]? = some v := by simpa using hPv
        exact List.mem_of_getElem? this
      have F₂ : Fr h₀ L h₂ m := LCg.fr_but F' hk₂ hIL hI₀
      have F₃ : Fr h₀ L h₃ m := F₂.change hs₃ hCL hC₀
      have N₂ : News h₀ L h₂ ((D, LCg.lst (trues nb)) :: own) := LCg.news_but N' hk₂ fun p hp => by
        rcases List.mem_cons.mp hp with rfl | hp
        · exact Ne.symm hDI
        · exact off p hp
      have N₃ : News h₀ L h₃ ((D, LCg.lst (trues nb)) :: own) := fun p hp => by
        refine ⟨hs₃.extBut _ _ ?_ (N₂ p hp).1, (N₂ p hp).2⟩
        rcases List.mem_cons.mp hp with rfl | hp
        · exact hDC
        · exact offC p hp
      have hst₃ : h₃.IsListIter I l1 (i + 1) := hst₂.1.at fun o e => hs₃.extBut _ o hCI e
      obtain ⟨oC, heC, hoC⟩ := LCg.ns_obj hn₃
      refine wpAny_mono (tw.iter C oC _ h₃ _ _ hoC heC F₃ (news_tail N₃)) (fun u s₅ hu => ?_) fun _ _ e => e
      obtain ⟨rfl, tk₃, rfl⟩ := hu
      have N₃own : News h₀ L h₃ own := news_tail N₃
      have hl2 := News.isList N₃own m2
      refine wpAny_pyIter_list hl2 ?_
      obtain ⟨I2, hI2⟩ : ∃ I2, I2 = h₃.objs.size := ⟨_, rfl⟩
      have up : ∀ b o, h₃.get? b = some o → (h₃.push { cls := .type "list_iterator", data := .fields #[.ref l2, .int 0 0] }).get? b = some o := fun b o e => Heap.get?_push_of_some _ e
      have hst4 : (h₃.push { cls := .type "list_iterator", data := .fields #[.ref l2, .int 0 0] }).IsListIter I2 l2 0 := ⟨_, by rw [hI2]; exact Heap.get?_push_size _ rfl, rfl, rfl⟩
      have hlt2 : ∀ b o, h₃.get? b = some o → b ≠ I2 := fun b o e => by rw [hI2]; exact Nat.ne_of_lt (Heap.lt_size e)
      have hI2₀ : h₀.get? I2 = none := by
        cases e : h₀.get? I2 with
        | none => rfl
        | some o' => exact absurd rfl (hlt2 _ _ (F₃.keep I2 o' e))
      have hLI2 : L ≠ I2 := by rw [hI2]; exact Nat.ne_of_lt F₃.ns.lt
      have hI1I2 : I ≠ I2 := by obtain ⟨o, e⟩ := iter_obj hst₃; exact hlt2 _ _ e
      have hCI2 : C ≠ I2 := hlt2 _ _ heC
      have hDI2 : D ≠ I2 := hlt2 _ _ (N₃ _ (.head _)).1
      have off2 : ∀ p ∈ own, p.1 ≠ I2 := fun p hp => hlt2 _ _ (N₃own p hp).1
      have W2 := Walks.list (prog := prog) (w := w) hh I2 l2 (off2 _ m2) vs2.toArray
      rw [List.size_toArray] at W2
      rw [← hI2]
      have hst5 := hst₃.at (h' := h₃.push { cls := .type "list_iterator", data := .fields #[.ref l2, .int 0 0] }) fun o e => up _ o e
      have F₄ : Fr h₀ L (h₃.push { cls := .type "list_iterator", data := .fields #[.ref l2, .int 0 0] }) m := F₃.keeps up
      have N₄ : News h₀ L (h₃.push { cls := .type "list_iterator", data := .fields #[.ref l2, .int 0 0] }) ((D, LCg.lst (trues nb)) :: own) := fun p hp => ⟨up _ _ (N₃ p hp).1, (N₃ p hp).2⟩
      have hn₄ := hn₃.at' (h' := h₃.push { cls := .type "list_iterator", data := .fields #[.ref l2, .int 0 0] }) fun o e => up _ o e
      generalize h₃.push { cls := .type "list_iterator", data := .fields #[.ref l2, .int 0 0] } = h₄ at hst4 hst5 F₄ N₄ hn₄ ⊢
      have loop2 : ∀ s₆ : Shared, s₆ = { s₂ with heap := h₄, toks := tk₃ } →
          codeAny (model prog w) A (.compLoop (.ListComp elt [⟨.Name x px, i1, [], 0⟩, ⟨.Name y py, i2, [], 0⟩] scope pos) 1 (.ref I2) (.ref D) (compEnvC scope clo C env))
            (fun r s₅ => match r with | .ok _ => ∃ m_1, m_1 < vs1.length + 1 - i ∧ ∃ h' tk i nb m', s₅ = { s₂ with heap := h', toks := tk } ∧ i ≤ vs1.length ∧ m_1 = vs1.length + 1 - i ∧ nb ≤ i * vs2.length ∧ h'.IsListIter I l1 i ∧ Fr h₀ L h' m ∧ h'.Ns C m' ∧ News h₀ L h' ((D, LCg.lst (trues nb)) :: own) | .error e => cameBackBy (model prog w) A (compEnvC scope clo C env) (notedBy (model prog w) A (compEnvC scope clo C env) fun e s' => RR (.ref D) C (.error e) s') e s₅) s₆ := by
        rintro s₆ rfl
        refine codeAny_compLoop_in
          (fun k s' => ∃ h' tk j nb2 m', s' = { s₂ with heap := h', toks := tk } ∧ j ≤ vs2.length ∧ k = vs2.length + 1 - j ∧ nb2 ≤ i * vs2.length + j ∧ h'.IsListIter I2 l2 j ∧ h'.IsListIter I l1 (i + 1) ∧ Fr h₀ L h' m ∧ h'.Ns C m' ∧ m' x = some v ∧ News h₀ L h' ((D, LCg.lst (trues nb2)) :: own)) ?_ (vs2.length + 1)
          ⟨h₄, _, 0, nb, _, rfl, Nat.zero_le _, rfl, by omega, hst4, hst5, F₄, hn₄, by simp, N₄⟩ (by intro _; rfl)
        intro k2' s7 hJ9
        refine ex5and10 hJ9 ?_
        intro h5 tk5 j nb2 m5 e8 hj e9 hnb2 hs5 hs5' F5 hn5 hm5 N5
        (try clear hJ9)
        subst e8
        subst e9
        have N5own : News h₀ L h5 own := news_tail N5
        by_cases hlt2' : j < vs2.length
        · refine W2.item j _ _ _ hlt2' ⟨hs5, News.isList N5own m2⟩ fun v2 h6 tk6 hPv2 hst6 hk6 => ?_
          refine wpAny_assign_Name (wpAny_storeName_local (lookup_relabel_local hy) (hn5.at' fun o e => hk6 _ o (by simpa using hCI2) e) (fun h7 hn7 hs7 => ?_) (by simp [compEnvC, relabel, hkind]))
          have hv2 : v2 ∈ vs2 := by
            have : vs2[j]? = some v2 := by simpa using hPv2
            exact List.mem_of_getElem? this
          have F6 : Fr h₀ L h6 m := LCg.fr_but F5 hk6 hLI2 hI2₀
          have F7 : Fr h₀ L h7 m := F6.change hs7 hCL hC₀
          have N6 : News h₀ L h6 ((D, LCg.lst (trues nb2)) :: own) := LCg.news_but N5 hk6 fun p hp => by
            rcases List.mem_cons.mp hp with rfl | hp
            · exact hDI2
            · exact off2 p hp
          have N7 : News h₀ L h7 ((D, LCg.lst (trues nb2)) :: own) := fun p hp => by
            refine ⟨hs7.extBut _ _ ?_ (N6 p hp).1, (N6 p hp).2⟩
            rcases List.mem_cons.mp hp with rfl | hp
            · exact hDC
            · exact offC p hp
          have hst7 : h7.IsListIter I2 l2 (j + 1) := hst6.1.at fun o e => hs7.extBut _ o (Ne.symm hCI2) e
          have hst7' : h7.IsListIter I l1 (i + 1) := hs5'.at fun o e => hs7.extBut _ o hCI (hk6 _ o (by simpa using hI1I2) e)
          obtain ⟨oC7, heC7, hoC7⟩ := LCg.ns_obj hn7
          obtain ⟨oI2, heI2⟩ := iter_obj hst7
          obtain ⟨oI1, heI1⟩ := iter_obj hst7'
          refine wpAny_mono (tw.turn v v2 I oI1 I2 oI2 C oC7 D (LCg.lst (trues nb2)) _ h7 _ _ hv hv2 hoC7 (by simp [hxy, hm5]) (by simp) F7 (fun p hp => ?_)) (fun u s8 hu => ?_) fun _ _ e => e
          · rcases List.mem_cons.mp hp with rfl | hp
            · exact ⟨heI2, Ne.symm hLI2, hI2₀⟩
            · rcases List.mem_cons.mp hp with rfl | hp
              · exact ⟨heI1, Ne.symm hIL, hI₀⟩
              · rcases List.mem_cons.mp hp with rfl | hp
                · exact ⟨heC7, hCL, hC₀⟩
                · exact N7 p hp
          · obtain ⟨rfl, h8, tk8, rfl, F8, N8⟩ := hu
            have zI2 := (N8 _ (.head _)).1
            have zI1 := (N8 _ (.tail _ (.head _))).1
            have zC := (N8 _ (.tail _ (.tail _ (.head _)))).1
            have zD := (N8 _ (.tail _ (.tail _ (.tail _ (.head _))))).1
            have N8own : News h₀ L h8 own := fun p hp => N8 p (.tail _ (.tail _ (.tail _ (.tail _ hp))))
            have hb1 : i * vs2.length + vs2.length ≤ vs1.length * vs2.length := by
              have := Nat.mul_le_mul_right vs2.length (Nat.succ_le_of_lt hlt)
              rwa [Nat.succ_mul] at this
            refine append_at (hsz := by rw [List.size_toArray, List.length_replicate, sizeLine_eq]; omega) zD fun h9 hs9 hD9 => ?_
            rw [trues_push] at hD9
            refine ⟨vs2.length + 1 - (j + 1), by omega, h9, tk8, j + 1, nb2 + 1, _, rfl, hlt2', rfl, by omega, (iter_same hst7 heI2 zI2).at fun o e => hs9.extBut _ o (Ne.symm hDI2) e, (iter_same hst7' heI1 zI1).at fun o e => hs9.extBut _ o hDI e, F8.change hs9 hDL hD₀,
              (hoC7.ns zC).sameBut hs9 (Ne.symm hDC), by simp [hxy, hm5], fun p hp => ?_⟩
            rcases List.mem_cons.mp hp with rfl | hp
            · exact ⟨hD9, hDL, hD₀⟩
            · exact ⟨hs9.extBut _ _ (offD p hp) (N8own p hp).1, (N8own p hp).2⟩
        · obtain rfl : j = vs2.length := Nat.le_antisymm hj (Nat.not_lt.mp hlt2')
          refine W2.done _ _ _ ⟨hs5, News.isList N5own m2⟩ fun h6 tk6 hk6 => ?_
          refine ⟨vs1.length + 1 - (i + 1), by omega, h6, tk6, i + 1, nb2, m5, rfl, hlt, rfl, by rw [Nat.succ_mul]; exact hnb2, hs5'.at fun o e => hk6 _ o (by simpa using hI1I2) e, LCg.fr_but F5 hk6 hLI2 hI2₀, hn5.at' fun o e => hk6 _ o (by simpa using hCI2) e, LCg.news_but N5 hk6 fun p hp => ?_⟩
          rcases List.mem_cons.mp hp with rfl | hp
          · exact hDI2
          · exact off2 p hp
      exact codeAny_compStart_in (loop2 _ rfl) (W2.self 0 _ _ _ ⟨hst4, News.isList (news_tail N₄) m2⟩ (loop2 _ rfl))
    · obtain rfl : i = vs1.length := Nat.le_antisymm hi (Nat.not_lt.mp hlt)
      refine W.done _ _ _ ⟨hst', News.isList Nown m1⟩ fun h₂ tk₂ hk₂ => ?_
      exact hRR _ _ h₂ tk₂ _ nb (LCg.fr_but F' hk₂ hIL hI₀) (LCg.news_but N' hk₂ fun p hp => by
        rcases List.mem_cons.mp hp with rfl | hp
        · exact Ne.symm hDI
        · exact off p hp) off1D (hn'.at' fun o e => hk₂ _ o (by simpa using Ne.symm hCI) e) hC₀ hD₀ hCL hDL (Ne.symm hDC) offC (by omega)
  exact codeAny_compStart_list (loop _ rfl) (W.self 0 _ _ _ ⟨hst₁, News.isList (news_tail N₁) m1⟩ (loop _ rfl))
def Src2 (prog : Program) (w : World) (A : Around) (h₀ : Heap) (L : Addr) (m : Str → Option Value) (env : Env) (elt i2 : PySem.Expr) (x y : Str) (scope : Scope) (clo : List (Str × Addr)) (Q : Value → Shared → Prop) (xv : Value) (s₁ : Shared) : Prop :=
  ∃ l1 vs1 k1 l2 vs2 k2 own, xv = .ref l1 ∧ A.handled = none ∧ Fr h₀ L s₁.heap m ∧ News h₀ L s₁.heap own ∧ (l1, listOf vs1.toArray k1) ∈ own ∧ (l2, listOf vs2.toArray k2) ∈ own ∧ vs1.length * vs2.length ≤ 1000 ∧
    (∀ s₂ : Shared, (∃ h, s₂ = { s₁ with heap := h }) → Two prog w A h₀ L m env elt i2 x y scope clo own l2 vs1 vs2 s₂) ∧
    (∀ D h tk n, Fr h₀ L h m → News h₀ L h ((D, LCg.lst (trues n)) :: own) → LCg.Off1 D own → n ≤ 1000 → Q (.ref D) { s₁ with heap := h, toks := tk })
theorem ListComp_2 {A : Around} {env : Env} {elt i1 i2 : PySem.Expr} {x y : Str} {px py : Pos} {scope : Scope} {clo : List (Str × Addr)} {pos : Pos} (F₀ : Fr h₀ L s.heap m)
    (hclos : closureFor scope env = pure clo) (hcell : ∀ y ∈ scope.names, y.2 ≠ .cell) (hkind : scope.kind = .function)
    (hnames : ∀ y ∈ scope.names, y.2 = .local → scope.names.lookup y.1 = some .local) (hx : scope.names.lookup x = some .local) (hy : scope.names.lookup y = some .local) (hxy : x ≠ y)
    (h : wpAny (model prog w) A (eval i1 env) (Src2 prog w A h₀ L m env elt i2 x y scope clo Q) E s)
    (hs1 : ∀ x, foldedSetIterable i1 env x = pure x := by intro _; rfl) (hs2 : ∀ env' x, foldedSetIterable i2 env' x = pure x := by intro _ _; rfl) :
    wpAny (model prog w) A (eval (.ListComp elt [⟨.Name x px, i1, [], 0⟩, ⟨.Name y py, i2, [], 0⟩] scope pos) env) Q E s := by
  rw [eval_ListComp]
  refine wpAny_comprehension_free (use := none) rfl hs1 hclos hkind hnames (wpAny_mono h (fun xv s₁ h₁ => ?_) fun _ _ e => e)
  obtain ⟨l1, vs1, k1, l2, vs2, k2, own, rfl, hh, F, N, m1, m2, hsz, tw, fin⟩ := h₁
  have hl := News.isList N m1
  refine wpAny_pyIter_list hl ?_
  have up : ∀ b o, s₁.heap.get? b = some o → (s₁.heap.push { cls := .type "list_iterator", data := .fields #[.ref l1, .int 0 0] }).get? b = some o := fun b o e => Heap.get?_push_of_some _ e
  refine block_2 hh hcell hkind hx hy hxy m1 m2 hsz ⟨_, Heap.get?_push_size _ rfl, rfl, rfl⟩ (F.keeps up) (N.grown up) (Nat.ne_of_lt F.ns.lt) (next_is_new F) (fun p hp => Nat.ne_of_lt (Heap.lt_size (N p hp).1)) (tw _ ⟨_, rfl⟩) hs2 ?_
  intro D C h tk m' n F' N' o1 hn hC₀ hD₀ hCL hDL hCD offC hn1
  refine ⟨m', hn, fun h'' hs'' => fin D h'' tk n (F'.change hs'' hCL hC₀) (fun p hp => ?_) o1 hn1⟩
  refine ⟨hs''.extBut _ _ ?_ (N' p hp).1, (N' p hp).2⟩
  rcases List.mem_cons.mp hp with rfl | hp
  · exact Ne.symm hCD
  · exact offC p hp

end
section
variable {prog : Program} {w : World} {p : Program} {loose : List Str} {mean : ExcName → Option Value} {mg mb : Str → Option Value}
  {dp un : Nat} {gd : Option (List Code)} {cn : Str} {cs : Scope} {a : Addr} {ccd : Value} {cl : List (Str × Addr)} {outer : List Env} {A₀ : Around} {base h₀ : Heap} {L : Addr} {m : Str → Option Value} {s : Shared} {Q E : Value → Shared → Prop}
local macro_rules | `(tactic| k_mem) => `(tactic| first | ktr_member | exact List.mem_cons_self | (refine' List.mem_cons_of_mem _ ?_; k_mem))
local macro_rules | `(tactic| k_get) => `(tactic| first | assumption | exact isSome_of (by assumption))
local macro_rules | `(tactic| walk_at "subscriptTail") => `(tactic| (k_here; (with_reducible show wpAny _ _ (subscriptTail _ _ (Value.ref _) (Value.int _ _)) _ _ _); k_dflt (first
  | (refine' item_at ?Nq51754 ?mq51754 ?aq51754 ?bq51754 ?xq51754 ?_; (case Nq51754 => k_asm); (case mq51754 => k_mem); (case xq51754 => first | exact rfl | assumption); (case aq51754 => omega); (case bq51754 => omega); k_whole)
  | (refine' tup_item ?Nq51754 ?mq51754 ?iq51754 ?aq51754 ?bq51754 ?cq51754 ?_; (case iq51754 => assumption); (case Nq51754 => k_asm); (case mq51754 => k_mem); (case aq51754 => omega); (case bq51754 => omega); (case cq51754 => omega); k_whole; intro _))))
local macro_rules | `(tactic| walk_at "call builtin:len") => `(tactic| (k_here; (with_reducible show wpAny _ _ (call (Value.builtin "len") [Value.ref _]) _ _ _); k_dflt (first
  | (refine' tup_len ?Nq04852 ?mq04852 ?iq04852 ?aq04852 ?_; (case Nq04852 => k_asm); (case mq04852 => k_mem); (case iq04852 => assumption); (case aq04852 => omega); k_whole)
  | (refine' list_len ?Nq04852 ?mq04852 ?aq04852 ?_; (case Nq04852 => k_asm); (case mq04852 => k_mem); (case aq04852 => omega); k_whole))))
local macro_rules | `(tactic| walk_at "getMethod ref") => `(tactic| (k_here; (with_reducible show wpAny _ _ (getMethod (Value.ref _) (Str.ofString "get") _) _ _ _); k_dflt (refine' dget_meth ?Nq74188 ?mq74188 ?dq74188 ?_; (case Nq74188 => k_asm); (case mq74188 => k_mem); (case dq74188 => assumption); k_whole)))
local macro_rules | `(tactic| walk_at "call builtin:dict.get") => `(tactic| (k_here; k_dflt (first
  | (refine' dget_some ?Nq94882 ?mq94882 ?dq94882 ?lq94882 ?vq94882 ?_; (case Nq94882 => k_asm); (case mq94882 => k_mem); (case dq94882 => assumption); (case lq94882 => assumption); (case vq94882 => assumption); k_whole)
  | (refine' dget_none ?Nq94882 ?mq94882 ?dq94882 ?lq94882 ?vq94882 ?_; (case Nq94882 => k_asm); (case mq94882 => k_mem); (case dq94882 => assumption); (case lq94882 => assumption); (case vq94882 => assumption); k_whole))))
local macro_rules | `(tactic| walk_at "setAttr ref") => `(tactic| (k_here; k_dflt (refine' set_dict ?k1q57580 ?k2q57580 ?k3q57580 ?k4q57580 ?k5q57580 ?k6q57580 ?k7q57580 ?k8q57580 ?k9q57580 ?k10q57580 ?k11q57580 ?k12q57580 ?k13q57580 ?_; (case k1q57580 => k_asm); (case k2q57580 => k_asm); (case k3q57580 => k_asm); (case k4q57580 => k_inst); (case k5q57580 => exact rfl); (case k6q57580 => k_is); (case k7q57580 => k_is); (case k8q57580 => k_is); (case k9q57580 => k_is); (case k10q57580 => k_get); (case k11q57580 => k_put); (case k12q57580 => k_upd); (case k13q57580 => exact Nat.le_of_ble_eq_true rfl); k_whole); intro h' F' N'; (try dsimp only at N'); (try k_sweep)))
local macro_rules | `(tactic| walk_at "setAttr ref") => `(tactic| (k_here; k_dflt (refine' set_op ?Fq57838 ?Xq57838 ?Nq57838 ?xq57838 ?Uq57838 ?hsq57838 ?hpq57838 ?htq57838 ?hhq57838 ?hlq57838 ?hzq57838 ?_; (case Fq57838 => k_asm); (case Xq57838 => k_asm); (case Nq57838 => k_asm); (case xq57838 => k_mem); (case Uq57838 => k_updF); (case hsq57838 => k_is); (case hpq57838 => k_is); (case htq57838 => k_is); (case hhq57838 => k_is); (case hlq57838 => assumption); (case hzq57838 => omega); k_whole); intro h' hsh' tk' F' N'; (try dsimp only at N'); (try k_sweep)))
local macro_rules | `(tactic| walk_at "eval Name") => `(tactic| (k_here; k_dflt (refine' ld ?k1q35260 ?k2q35260 ?_; (case k1q35260 => k_asm); (case k2q35260 => first | exact rfl | assumption); k_whole)))
local macro_rules | `(tactic| walk_at "LedPost") => `(tactic| (dsimp only [LedPost]))
local macro_rules | `(tactic| k_room) => `(tactic| (first | ((try simp only [depth_under_make, depth_under_kw, depth_in1, depth_deeper, depth_caller]); (try dsimp only [ktrTop]); omega) | ktr_room))
local macro_rules | `(tactic| walk_at "ite") => `(tactic| (k_here; first | refine ite_neg (by assumption) ?_ | refine ite_pos (by assumption) ?_))
local macro_rules | `(tactic| walk_at "call type:range") => `(tactic| (k_here; (with_reducible show wpAny _ _ (call (Value.type "range") [Value.int _ _]) _ _ _); k_dflt (refine' range1_call ?Fq22190 ?Nq22190 ?_; (case Fq22190 => k_asm); (case Nq22190 => k_asm)); intro r9 h9 t9 u9 tk9 rg9 F' N'; (try k_fold)))
local macro_rules | `(tactic| walk_at "CompSrc") => `(tactic| (refine Hold.out ?_))
local macro_rules | `(tactic| walk_at "eval Name") => `(tactic| (k_here; k_dflt (refine' nameX_L ?Fq86295 ?vq86295 ?_ ?aq86295 ?bq86295; (case Fq86295 => k_asm); (case aq86295 => rfl); (case bq86295 => rfl); (case vq86295 => first | exact rfl | assumption); k_whole)))
local macro_rules | `(tactic| walk_at "CompEnd") => `(tactic| (refine Hold.out ?_))
local macro_rules | `(tactic| k_ne) => `(tactic| (refine neN ?_; (try dsimp only); first | exact Apart.out (by assumption) | exact (Apart.out (by assumption)).symm | assumption | exact Nat.ne_of_lt (by assumption) | exact Nat.ne_of_gt (by assumption) | exact Ne.symm (by assumption) | exact la0 (by assumption) | exact ga0 (by assumption) | exact la1 (by assumption) | exact ga1 (by assumption) | exact la2 (by assumption) | exact ga2 (by assumption) | exact la3 (by assumption) | exact ga3 (by assumption) | exact la4 (by assumption) | exact ga4 (by assumption) | exact la5 (by assumption) | exact ga5 (by assumption) | exact la6 (by assumption) | exact ga6 (by assumption) | exact la7 (by assumption) | exact ga7 (by assumption) | exact la8 (by assumption) | exact ga8 (by assumption) | exact la9 (by assumption) | exact ga9 (by assumption) | exact la10 (by assumption) | exact ga10 (by assumption) | exact la11 (by assumption) | exact ga11 (by assumption) | exact la12 (by assumption) | exact ga12 (by assumption) | exact la13 (by assumption) | exact ga13 (by assumption)))
local macro_rules | `(tactic| walk_at "call type:tuple") => `(tactic| (k_here; (with_reducible show wpAny _ _ (call (Value.type "tuple") [Value.ref _]) _ _ _); k_dflt (refine' tuple_of ?Fq88034 ?Nq88034 ?mq88034 ?zq88034 ?_; (case Fq88034 => k_asm); (case Nq88034 => k_asm); (case mq88034 => k_mem); (case zq88034 => first | assumption | omega)); intro t9 h9 F' N' l9; (try k_lt l9); (try k_fold)))
local macro_rules | `(tactic| walk_at "setItem ref int") => `(tactic| (k_here; (with_reducible show wpAny _ _ (setItem (Value.ref _) (Value.int _ _) (Value.ref _)) _ _ _); k_dflt (refine' kda_set (knd := PySem.intKind _ _) ?Fq18929 ?Nq18929 ?Uq18929 ?dq18929 (intKind_is _ _ _ _) ?zq18929 ?_; (case Fq18929 => k_asm); (case Nq18929 => k_asm); (case Uq18929 => k_updF); (case dq18929 => assumption); (case zq18929 => rw [sizeLine_eq]; omega)); intro h9 o9 F' N' d9; (try dsimp only at N')))
local macro_rules | `(tactic| walk_at "call type:dict") => `(tactic| (k_here; (with_reducible show wpAny _ _ (call (Value.type "dict") [Value.ref _]) _ _ _); k_dflt (refine' dict_copy ?bq44711 ?Fq44711 ?Nq44711 ?mq44711 ?dq44711 ?loq44711 ?lq44711 ?_; (case dq44711 => assumption); (case loq44711 => assumption); (case Nq44711 => k_asm); (case Fq44711 => k_asm); (case mq44711 => k_mem); (case lq44711 => omega); (case bq44711 => exact Top.nolimit (by k_asm))); intro D9 h9 o9 F' N' l9 lo9 d9; (try k_lt l9); (try k_fold)))
local macro_rules | `(tactic| walk_at "execs cons") => `(tactic| (k_here; (with_reducible show wpAny _ _ (execs (_ :: _) _) _ _ (Shared.mk _ _ _ (_ + 1) _)); k_dflt (refine' stat1 (s := ‹Shared›) ?Fq02873 ?aq02873 ?bq02873 ?cq02873 ?dq02873 ?_; (case Fq02873 => with_reducible assumption); (case aq02873 => rfl); (case bq02873 => rfl); (case cq02873 => rfl); (case dq02873 => rfl)); intro tk9))

/- Draw -/
section
theorem draw_call (C : Cx w p loose mean mg mb A₀ base h₀ outer cs) (F : Fr h₀ L s.heap m)
    {P c : Addr} {vs : List Value} {ns : List Int} {st pl : Int} {t1 t2 : Tok} {n k : Nat} {own : List (Addr × Obj)} {lim : Int} {t3 : Tok}
    (N : News h₀ L s.heap ((P, listOf #[.ref c, .int st t1, .int pl t2] n) :: (c, listOf vs.toArray k) :: own))
    (hPc : @Ne Nat P c) (hoff : OwnOff own [P, c]) (hi : IntsAre vs ns) (hpos : ∀ x ∈ ns, 0 ≤ x) (hlen : ns.length ≤ 40) (hst : 0 ≤ st ∧ st < 2147483647) (hpl : 0 ≤ pl ∧ pl < 1000) (hl1 : 1 ≤ lim) (hl2 : lim ≤ 256)
    (hd : dp + 10 < recursionLimit) (hu : un + 80 < cLine)
    (ret : ∀ r t h' tk' vs' ns' st' t1' t2', Fr h₀ L h' m → News h₀ L h' ((P, listOf #[.ref c, .int st' t1', .int (pl + 1) t2'] n) :: (c, listOf vs'.toArray k) :: own) → IntsAre vs' ns' → (∀ x ∈ ns', 0 ≤ x) → ns'.length = ns.length →
      0 ≤ st' ∧ st' < 2147483647 → 0 ≤ r ∧ r < lim → Q (.int r t) { s with heap := h', toks := tk' }) :
    wpAny (model prog w) (ktrTop dp un gd cn cs L a ccd cl outer) (call (.ref 651) [.ref P, .int lim t3]) Q E s := by
  obtain ⟨B, X, T, hk⟩ := C
  refine wpAny_call ?_
  k_dflt ktr_enter
  k_steps
  all_goals (
    refine' ret _ _ _ _ _ _ _ _ _ ?k1 ?k2 ?k3 ?k4 ?k5 ?k6 ?k7
    (case k1 => assumption)
    (case k2 => assumption)
    (case k3 => assumption)
    (case k5 => first | rfl | (simp; done))
    (case k4 => first | exact hpos | exact set_pos hpos (by assumption) (by assumption))
    (case k6 => first | exact hst | exact fmod_bounds (by decide))
    (case k7 => exact fmod_bounds (by omega)))
theorem updF_new {d : Addr} {o o' : Obj} : ∀ {l : List (Addr × Obj)} {f : Obj → List (Addr × Obj)}, UpdF d o l f → ∀ p ∈ f o', p = (d, o') ∨ (p ∈ l ∧ @Ne Nat p.1 d)
  | _, _, .head h, p, hp => by
    rcases List.mem_cons.mp hp with e | e
    · exact .inl e
    · exact .inr ⟨.tail _ e, h p e⟩
  | _, _, .tail h r, p, hp => by
    rcases List.mem_cons.mp hp with e | e
    · exact .inr ⟨e ▸ .head _, e ▸ h⟩
    · rcases updF_new r p e with e | ⟨e, n⟩
      · exact .inl e
      · exact .inr ⟨.tail _ e, n⟩
theorem draw_call2 (C : Cx w p loose mean mg mb A₀ base h₀ outer cs) (F : Fr h₀ L s.heap m)
    {P c : Addr} {vs : List Value} {ns : List Int} {st pl : Int} {t1 t2 : Tok} {n k : Nat} {news : List (Addr × Obj)} {g1 : Obj → List (Addr × Obj)} {g2 : Obj → Obj → List (Addr × Obj)} {lim : Int} {t3 : Tok}
    (N : News h₀ L s.heap news) (U1 : UpdF P (listOf #[.ref c, .int st t1, .int pl t2] n) news g1) (U2 : ∀ o, UpdF c (listOf vs.toArray k) (g1 o) (g2 o))
    (hPc : @Ne Nat P c) (hi : IntsAre vs ns) (hpos : ∀ x ∈ ns, 0 ≤ x) (hlen : ns.length ≤ 40) (hst : 0 ≤ st ∧ st < 2147483647) (hpl : 0 ≤ pl ∧ pl < 1000) (hl1 : 1 ≤ lim) (hl2 : lim ≤ 256)
    (hd : dp + 10 < recursionLimit) (hu : un + 80 < cLine)
    (ret : ∀ r t h' tk' vs' ns' st' t1' t2', Fr h₀ L h' m → News h₀ L h' (g2 (listOf #[.ref c, .int st' t1', .int (pl + 1) t2'] n) (listOf vs'.toArray k)) → IntsAre vs' ns' → (∀ x ∈ ns', 0 ≤ x) → ns'.length = ns.length →
      0 ≤ st' ∧ st' < 2147483647 → 0 ≤ r ∧ r < lim → Q (.int r t) { s with heap := h', toks := tk' }) :
    wpAny (model prog w) (ktrTop dp un gd cn cs L a ccd cl outer) (call (.ref 651) [.ref P, .int lim t3]) Q E s := by
  have mP := updF_mem U1
  have mc0 := updF_mem (U2 (listOf #[.ref c, .int st t1, .int pl t2] n))
  have mc : (c, listOf vs.toArray k) ∈ news := by
    rcases updF_new U1 _ mc0 with e | ⟨e, _⟩
    · exact absurd (congrArg Prod.fst e) (fun q => hPc q.symm)
    · exact e
  let own := news.filter fun p => !(decide (p.1 = P)) && !(decide (p.1 = c))
  have ho : ∀ {p}, p ∈ own ↔ p ∈ news ∧ p.1 ≠ P ∧ p.1 ≠ c := by
    intro p
    simp only [own, List.mem_filter, Bool.and_eq_true, Bool.not_eq_true', decide_eq_false_iff_not]
    try exact Iff.rfl
  refine draw_call C F (t1 := t1) (t2 := t2) (n := n) (k := k) (own := own) (fun p hp => ?_) hPc (fun p hp b hb => ?_) hi hpos hlen hst hpl hl1 hl2 hd hu ?_
  · rcases List.mem_cons.mp hp with e | e
    · exact N p (e ▸ mP)
    · rcases List.mem_cons.mp e with e | e
      · exact N p (e ▸ mc)
      · exact N p (ho.mp e).1
  · rcases List.mem_cons.mp hb with e | e
    · exact e ▸ (ho.mp hp).2.1
    · exact (List.mem_singleton.mp e) ▸ (ho.mp hp).2.2
  · intro r t h' tk' vs' ns' st' t1' t2' F' N' i1 i2 i3 i4 i5
    refine ret r t h' tk' vs' ns' st' t1' t2' F' (fun p hp => N' p ?_) i1 i2 i3 i4 i5
    rcases updF_new (U2 _) p hp with e | ⟨e, n2⟩
    · exact e ▸ .tail _ (.head _)
    · rcases updF_new U1 p e with e | ⟨e, n1⟩
      · exact e ▸ .head _
      · exact .tail _ (.tail _ (ho.mpr ⟨e, n1, n2⟩))
/-- the pot's list and its cells, between two draws -/
structure PotSt (c : Addr) (oP oc : Obj) (n k : Nat) (pl : Int) : Prop where
  ex : ∃ vs ns st t1 t2, oP = listOf #[.ref c, .int st t1, .int pl t2] n ∧ oc = listOf vs.toArray k ∧ IntsAre vs ns ∧ (∀ x ∈ ns, 0 ≤ x) ∧ ns.length ≤ 40 ∧ 0 ≤ st ∧ st < 2147483647
theorem draw_call3 (C : Cx w p loose mean mg mb A₀ base h₀ outer cs) (F : Fr h₀ L s.heap m)
    {P c : Addr} {oP oc : Obj} {pl : Int} {n k : Nat} {news : List (Addr × Obj)} {g1 : Obj → List (Addr × Obj)} {g2 : Obj → Obj → List (Addr × Obj)} {lim : Int} {t3 : Tok}
    (N : News h₀ L s.heap news) (hp : PotSt c oP oc n k pl) (U1 : UpdF P oP news g1) (U2 : ∀ o, UpdF c oc (g1 o) (g2 o))
    (hPc : @Ne Nat P c) (hpl : 0 ≤ pl ∧ pl < 1000) (hl1 : 1 ≤ lim) (hl2 : lim ≤ 256)
    (hd : dp + 10 < recursionLimit) (hu : un + 80 < cLine)
    (ret : ∀ r t h' tk' oP' oc', Fr h₀ L h' m → News h₀ L h' (g2 oP' oc') → PotSt c oP' oc' n k (pl + 1) → 0 ≤ r ∧ r < lim → Q (.int r t) { s with heap := h', toks := tk' }) :
    wpAny (model prog w) (ktrTop dp un gd cn cs L a ccd cl outer) (call (.ref 651) [.ref P, .int lim t3]) Q E s := by
  obtain ⟨⟨vs, ns, st, t1, t2, rfl, rfl, i1, i2, i3, i4, i5⟩⟩ := hp
  refine draw_call2 C F N U1 U2 hPc i1 i2 i3 ⟨i4, i5⟩ hpl hl1 hl2 hd hu ?_
  intro r t h' tk' vs' ns' st' t1' t2' F' N' j1 j2 j3 j4 j5
  exact ret r t h' tk' _ _ F' N' ⟨⟨vs', ns', st', t1', t2', rfl, rfl, j1, j2, by omega, j4.1, j4.2⟩⟩ j5

end
/- Choice -/
section
def halves : Nat → Int → Int
  | 0, x => x
  | n + 1, x => (halves n x).fdiv 2
theorem halves_all : (List.range 6).all (fun sh => [1, 2, 3].all fun wd => (List.range 256).all fun n => decide (halves sh (Builtin.bitAnd (n : Int) (bitsOf sh wd)) = numb (n : Int) sh wd)) = true := by decide +kernel
theorem halves_numb {mk : Int} (h : 0 ≤ mk ∧ mk < 256) (sh wd : Nat) (hs : sh ≤ 5) (hw : 1 ≤ wd ∧ wd ≤ 3) : halves sh (Builtin.bitAnd mk (bitsOf sh wd)) = numb mk sh wd := by
  have h1 := List.all_eq_true.mp halves_all sh (List.mem_range.mpr (by omega))
  have h3 : wd ∈ [1, 2, 3] := by simp only [List.mem_cons, List.not_mem_nil]; omega
  have h2 := List.all_eq_true.mp (List.all_eq_true.mp h1 wd h3) mk.toNat (List.mem_range.mpr (by omega))
  have h4 : ((mk.toNat : Nat) : Int) = mk := by omega
  rw [h4] at h2
  exact of_decide_eq_true h2
theorem ret_eq {h₀ h' : Heap} {L : Addr} {m : Str → Option Value} {news : List (Addr × Obj)} {s : Shared} {Q : Value → Shared → Prop} {t : Tok} {tk' : Nat} {v x : Int}
    (ret : ∀ t h' tk', Fr h₀ L h' m → News h₀ L h' news → Q (.int v t) { s with heap := h', toks := tk' }) (e : x = v) (F : Fr h₀ L h' m) (N : News h₀ L h' news) : Q (.int x t) { s with heap := h', toks := tk' } := by
  subst e; exact ret t h' tk' F N

theorem bits_even_all : (List.range 6).all (fun j => [1, 2, 3].all fun wd => decide ((bitsOf (j + 1) wd).fmod 2 = 0 ∧ (bitsOf (j + 1) wd).fdiv 2 = bitsOf j wd ∧ ¬ bitsOf j wd = 0 ∧ ¬ (bitsOf 0 wd).fmod 2 = 0)) = true := by decide +kernel
theorem bits_even {j wd : Nat} (hj : j ≤ 5) (hw : 1 ≤ wd ∧ wd ≤ 3) : (bitsOf (j + 1) wd).fmod 2 = 0 ∧ (bitsOf (j + 1) wd).fdiv 2 = bitsOf j wd ∧ ¬ bitsOf j wd = 0 ∧ ¬ (bitsOf 0 wd).fmod 2 = 0 := by
  have h1 := List.all_eq_true.mp bits_even_all j (List.mem_range.mpr (by omega))
  have h3 : wd ∈ [1, 2, 3] := by simp only [List.mem_cons, List.not_mem_nil]; omega
  exact of_decide_eq_true (List.all_eq_true.mp h1 wd h3)
theorem halves_in (j : Nat) (x : Int) : halves j (x.fdiv 2) = halves (j + 1) x := by
  induction j with
  | zero => rfl
  | succ j ih => show (halves j (x.fdiv 2)).fdiv 2 = _; rw [ih]; rfl
def ChJ (mk : Int) (sh wd : Nat) (nw : List (Addr × Obj)) (n : Nat) (m : Str → Option Value) (news : List (Addr × Obj)) : Prop :=
  ∃ j x, n = j ∧ j ≤ 5 ∧ news = nw ∧ halves j x = numb mk sh wd ∧ (∃ t, m (Str.ofString "bits") = some (.int (bitsOf j wd) t)) ∧ ∃ t, m (Str.ofString "choice") = some (.int x t)
theorem ch_end {mk x b : Int} {sh wd j : Nat} {news : List (Addr × Obj)} {h' : Heap} {tk' : Nat} {m₂ : Str → Option Value} {Q : Flow → Shared → Prop} {t t' : Tok} (hj : j + 1 ≤ 5) (hx : halves (j + 1) x = numb mk sh wd) (F : Fr h₀ L h' m₂) (N : News h₀ L h' news)
    (hb : m₂ (Str.ofString "bits") = some (.int b t)) (e : b = bitsOf j wd) (hc : m₂ (Str.ofString "choice") = some (.int (x.fdiv 2) t')) :
    WhileStep2 h₀ L s (ChJ mk sh wd news) Q (j + 1) .next { s with heap := h', toks := tk' } :=
  ⟨h', tk', m₂, news, j, rfl, F, N, Nat.lt_succ_self j, j, x.fdiv 2, rfl, by omega, rfl, (halves_in j x).trans hx, ⟨t, by rw [hb, e]⟩, ⟨t', hc⟩⟩

theorem choice_call (C : Cx w p loose mean mg mb A₀ base h₀ outer cs) (F : Fr h₀ L s.heap m)
    {news : List (Addr × Obj)} {mk : Int} {sh wd : Nat} {t1 t2 : Tok}
    (N : News h₀ L s.heap news) (hm : 0 ≤ mk ∧ mk < 256) (hs : sh ≤ 5) (hw : 1 ≤ wd ∧ wd ≤ 3)
    (hd : dp + 10 < recursionLimit) (hu : un + 80 < cLine)
    (ret : ∀ t h' tk', Fr h₀ L h' m → News h₀ L h' news → Q (.int (numb mk sh wd) t) { s with heap := h', toks := tk' }) :
    wpAny (model prog w) (ktrTop dp un gd cn cs L a ccd cl outer) (call (.ref 195) [.int mk t1, .int (bitsOf sh wd) t2]) Q E s := by
  obtain ⟨B, X, T, hk⟩ := C
  have hb0 := (bits_even hs hw).2.2.1
  refine wpAny_call ?_
  k_dflt ktr_enter
  k_with "exec While Compare" => (rename Fr _ _ _ _ => F1; rename News _ _ _ _ => N1; refine While_inv2 (n₀ := sh) (ChJ mk sh wd _) F1 N1 ⟨sh, _, rfl, hs, rfl, halves_numb hm sh wd hs hw, ⟨_, rfl⟩, ⟨_, rfl⟩⟩ (Hold.out ?_))
  k_steps
  · exact absurd (by assumption) hb0
  unfold Hold
  intro n m₁ news₁ h tk F1 N1 hJ9
  refine ex2and6 hJ9 ?_
  intro j x e8 hj e9 hx hb9 hc9
  (try clear hJ9)
  subst e8
  subst e9
  refine ex1and1 hb9 ?_
  intro tb hb
  (try clear hb9)
  refine ex1and1 hc9 ?_
  intro tc hc
  (try clear hc9)
  cases n with
  | zero =>
    have h0 := (bits_even hs hw).2.2.2
    k_steps
    · exact absurd (by assumption) h0
    · exact ret_eq ret hx (by assumption) (by assumption)
  | succ j =>
    obtain ⟨h0, h1, _⟩ := bits_even (j := j) (by omega) hw
    k_steps
    · rename Fr _ _ _ _ => F9
      rename News _ _ _ _ => N9
      exact ch_end hj hx F9 N9 rfl h1 rfl
    · exact absurd h0 (by assumption)

end
/- Alt -/
section

theorem alt_call (C : Cx w p loose mean mg mb A₀ base h₀ outer cs) (F : Fr h₀ L s.heap m)
    {x dx rl b db sc ds al da M : Addr} {es eb esc ea : List DictEntry} {n k nb nsc na sh wd : Nat} {vsr : List Value} {own : List (Addr × Obj)} {at' g mk cv : Int} {ta tb : Tok} {T : Int → Option (List Int)}
    (N : News h₀ L s.heap ((dx, dictOf es n) :: own)) (hoff : OwnOff own [dx]) (hI : InfoEs es g mk cv)
    (mx : (x, instObj 52 dx) ∈ own) (mrl : (rl, listOf vsr.toArray k) ∈ own) (hat : vsr[at'.toNat]? = some (.ref x)) (h0 : 0 ≤ at') (h1 : at' < 1000)
    (mb' : (b, instObj 103 db) ∈ own) (mdb : (db, dictOf eb nb) ∈ own) (hrow : getL (Str.ofString "row") eb = some (some (.ref rl)))
    (msc : (sc, instObj 293 ds) ∈ own) (mds : (ds, dictOf esc nsc) ∈ own) (hbuf : getL (Str.ofString "buffer") esc = some (some (.ref b))) (hmask : getL (Str.ofString "mask") esc = some (some (.int (bitsOf sh wd) tb)))
    (mal : (al, instObj 170 da) ∈ own) (mda : (da, dictOf ea na) ∈ own) (hmap : getL (Str.ofString "mapping") ea = some (some (.ref M))) (hT : TabIn prog w own M T)
    (hm : 0 ≤ mk ∧ mk < 256) (hs : sh ≤ 5) (hw : 1 ≤ wd ∧ wd ≤ 3)
    (hd : dp + 20 < recursionLimit) (hu : un + 160 < cLine)
    (ret1 : altOf T g (numb mk sh wd) = none → ∀ t h' tk', Fr h₀ L h' m → News h₀ L h' ((dx, dictOf es n) :: own) → Q (.int (-1) t) { s with heap := h', toks := tk' })
    (ret2 : ∀ x', altOf T g (numb mk sh wd) = some x' → ∀ t h' tk' es' n', Fr h₀ L h' m → News h₀ L h' ((dx, dictOf es' n') :: own) → InfoEs es' x' mk cv → Q (.int (at' + 1) t) { s with heap := h', toks := tk' }) :
    wpAny (model prog w) (ktrTop dp un gd cn cs L a ccd cl outer) (call (.ref 202) [.ref sc, .ref al, .int at' ta]) Q E s := by
  obtain ⟨B, X, T', hk⟩ := C
  obtain ⟨tg, hg⟩ := hI.glyph
  obtain ⟨tm, hmk⟩ := hI.mask
  have hlen := hI.len
  obtain ⟨lo, o, kvs, mM, hdk, hkl, hall⟩ := hT
  unfold altOf at ret1 ret2
  rcases hall g with ⟨hv, hTg⟩ | ⟨t, nt, vs, ns, hv, hTg, mt, hi, hl4, hbd⟩
  · rw [hTg] at ret1 ret2
    refine wpAny_call ?_
    k_dflt ktr_enter
    k_with_none
    k_with "call ref" => ((with_reducible show wpAny _ _ (call (Value.ref 195) _) _ _ _); k_dflt (refine' choice_call (Cx.mk (by k_asm) (by k_asm) (by k_asm) rfl) (by k_asm) (by k_asm) (by assumption) (by assumption) (by assumption) (by (first | omega | ((try simp only [depth_under_make, depth_under_kw, depth_in1, depth_deeper, depth_caller]); (try dsimp only [ktrTop]); omega) | ktr_room)) (by (first | omega | ((try simp only [units_in1, units_deeper, Around.mark_units, units_caller]); (try dsimp only [ktrTop]); omega) | ktr_units)) ?_); intro t9 h9 tk9 F' N'; (try k_fold))
    k_steps
    all_goals (refine' ret1 rfl _ _ _ ?k1 ?k2; (case k1 => assumption); (case k2 => exact news_tail (by assumption)))
  · rw [hTg] at ret1 ret2
    refine wpAny_call ?_
    k_dflt ktr_enter
    k_with_none
    k_with "call ref" => ((with_reducible show wpAny _ _ (call (Value.ref 195) _) _ _ _); k_dflt (refine' choice_call (Cx.mk (by k_asm) (by k_asm) (by k_asm) rfl) (by k_asm) (by k_asm) (by assumption) (by assumption) (by assumption) (by (first | omega | ((try simp only [depth_under_make, depth_under_kw, depth_in1, depth_deeper, depth_caller]); (try dsimp only [ktrTop]); omega) | ktr_room)) (by (first | omega | ((try simp only [units_in1, units_deeper, Around.mark_units, units_caller]); (try dsimp only [ktrTop]); omega) | ktr_units)) ?_); intro t9 h9 tk9 F' N'; (try k_fold))
    k_steps
    all_goals (first
      | (refine' ret1 (if_neg (by omega)) _ _ _ ?k1 ?k2; (case k1 => assumption); (case k2 => exact news_tail (by assumption)))
      | (refine' ret2 _ (if_pos (by omega)) _ _ _ _ _ ?k1 ?k2 ?k3; (case k1 => assumption); (case k2 => exact news_tail (by assumption)); (case k3 => exact InfoEs.put hI)))

end
/- Table -/
section
/-- an Alternate object whose mapping tells T -/
def AltIn (prog : Program) (w : World) (news : List (Addr × Obj)) (al : Addr) (T : Int → Option (List Int)) : Prop :=
  ∃ da ea na M, (al, instObj 170 da) ∈ news ∧ (da, dictOf ea na) ∈ news ∧ getL (Str.ofString "mapping") ea = some (some (.ref M)) ∧ TabIn prog w news M T
/-- a scene: its buffer's row, its mask, its lookup and gdef -/
structure SceneIn (news : List (Addr × Obj)) (sc rl lk gd' : Addr) (vsr : List Value) (sh wd : Nat) : Prop where
  ex : ∃ b db ds eb esc nb nsc k tb, (rl, listOf vsr.toArray k) ∈ news ∧ (b, instObj 103 db) ∈ news ∧ (db, dictOf eb nb) ∈ news ∧ getL (Str.ofString "row") eb = some (some (.ref rl)) ∧
    (sc, instObj 293 ds) ∈ news ∧ (ds, dictOf esc nsc) ∈ news ∧ getL (Str.ofString "buffer") esc = some (some (.ref b)) ∧ getL (Str.ofString "mask") esc = some (some (.int (bitsOf sh wd) tb)) ∧
    getL (Str.ofString "lookup") esc = some (some (.ref lk)) ∧ getL (Str.ofString "gdef") esc = some (some (.ref gd'))
theorem alt_call' (C : Cx w p loose mean mg mb A₀ base h₀ outer cs) (F : Fr h₀ L s.heap m)
    {x dx rl lk gd' sc al : Addr} {es : List DictEntry} {n sh wd : Nat} {vsr : List Value} {own : List (Addr × Obj)} {at' g mk cv : Int} {ta : Tok} {T : Int → Option (List Int)}
    (N : News h₀ L s.heap ((dx, dictOf es n) :: own)) (hoff : OwnOff own [dx]) (hI : InfoEs es g mk cv)
    (mx : (x, instObj 52 dx) ∈ own) (hat : vsr[at'.toNat]? = some (.ref x)) (h0 : 0 ≤ at') (h1 : at' < 1000)
    (hsc : SceneIn own sc rl lk gd' vsr sh wd) (hal : AltIn prog w own al T)
    (hm : 0 ≤ mk ∧ mk < 256) (hs : sh ≤ 5) (hw : 1 ≤ wd ∧ wd ≤ 3)
    (hd : dp + 20 < recursionLimit) (hu : un + 160 < cLine)
    (ret1 : altOf T g (numb mk sh wd) = none → ∀ t h' tk', Fr h₀ L h' m → News h₀ L h' ((dx, dictOf es n) :: own) → Q (.int (-1) t) { s with heap := h', toks := tk' })
    (ret2 : ∀ x', altOf T g (numb mk sh wd) = some x' → ∀ t h' tk' es' n', Fr h₀ L h' m → News h₀ L h' ((dx, dictOf es' n') :: own) → InfoEs es' x' mk cv → Q (.int (at' + 1) t) { s with heap := h', toks := tk' }) :
    wpAny (model prog w) (ktrTop dp un gd cn cs L a ccd cl outer) (call (.ref 202) [.ref sc, .ref al, .int at' ta]) Q E s := by
  refine ex9and10 (hsc.ex) ?_
  intro b db ds eb esc nb nsc k tb e1 e2 e3 e4 e5 e6 e7 e8 e9 e10
  clear hsc
  obtain ⟨da, ea, na, M, f1, f2, f3, f4⟩ := hal
  exact alt_call C F N hoff hI mx e1 hat h0 h1 e2 e3 e4 e5 e6 e7 e8 f1 f2 f3 f4 hm hs hw hd hu ret1 ret2


theorem table_call (C : Cx w p loose mean mg mb A₀ base h₀ outer cs) (F : Fr h₀ L s.heap m)
    {x dx rl lk gd' sc al : Addr} {es : List DictEntry} {n sh wd : Nat} {vsr : List Value} {own : List (Addr × Obj)} {at' g mk cv : Int} {ta tkd : Tok} {T : Int → Option (List Int)}
    (N : News h₀ L s.heap ((dx, dictOf es n) :: own)) (hoff : OwnOff own [dx]) (hI : InfoEs es g mk cv)
    (mx : (x, instObj 52 dx) ∈ own) (hat : vsr[at'.toNat]? = some (.ref x)) (h0 : 0 ≤ at') (h1 : at' < 1000)
    (hsc : SceneIn own sc rl lk gd' vsr sh wd) (hal : AltIn prog w own al T)
    (hm : 0 ≤ mk ∧ mk < 256) (hs : sh ≤ 5) (hw : 1 ≤ wd ∧ wd ≤ 3)
    (hd : dp + 30 < recursionLimit) (hu : un + 240 < cLine)
    (ret1 : altOf T g (numb mk sh wd) = none → ∀ t h' tk', Fr h₀ L h' m → News h₀ L h' ((dx, dictOf es n) :: own) → Q (.int (-1) t) { s with heap := h', toks := tk' })
    (ret2 : ∀ x', altOf T g (numb mk sh wd) = some x' → ∀ t h' tk' es' n', Fr h₀ L h' m → News h₀ L h' ((dx, dictOf es' n') :: own) → InfoEs es' x' mk cv → Q (.int (at' + 1) t) { s with heap := h', toks := tk' }) :
    wpAny (model prog w) (ktrTop dp un gd cn cs L a ccd cl outer) (call (.ref 611) [.ref sc, .str (Str.ofString "alternate") tkd, .ref al, .int at' ta]) Q E s := by
  obtain ⟨B, X, T', hk⟩ := C
  refine wpAny_call ?_
  k_dflt ktr_enter
  k_with_none
  k_with "call ref" => (focus ((with_reducible show wpAny _ _ (call (Value.ref 202) _) _ _ _); k_dflt (refine' alt_call' (Cx.mk (by k_asm) (by k_asm) (by k_asm) rfl) (by k_asm) (by k_asm) (by assumption) (by assumption) (by assumption) (by assumption) (by assumption) (by assumption) (by assumption) (by assumption) (by assumption) (by assumption) (by assumption) (by (first | omega | ((try simp only [depth_under_make, depth_under_kw, depth_in1, depth_deeper, depth_caller]); (try dsimp only [ktrTop]); omega) | ktr_room)) (by (first | omega | ((try simp only [units_in1, units_deeper, Around.mark_units, units_caller]); (try dsimp only [ktrTop]); omega) | ktr_units)) ?_ ?_); (intro hr1 t9 h9 tk9 F' N'; (try k_fold)); rotate_left; (intro x9 hr2 t9 h9 tk9 es9 n9 F' N' i9; (try k_fold))))
  k_steps
  all_goals (first
      | (refine' ret1 (by assumption) _ _ _ ?k1 ?k2; (case k1 => assumption); (case k2 => assumption))
      | (refine' ret2 _ (by assumption) _ _ _ _ _ ?k1 ?k2 ?k3; (case k1 => assumption); (case k2 => assumption); (case k3 => assumption))
      | trace_state)

end
/- Subst -/
section
theorem TabIn.mono {news news' : List (Addr × Obj)} {M : Addr} {T : Int → Option (List Int)} (h : TabIn prog w news M T) (hs : ∀ p ∈ news, p ∈ news') : TabIn prog w news' M T := by
  obtain ⟨lo, o, kvs, m1, hd, hl, hall⟩ := h
  refine ⟨lo, o, kvs, hs _ m1, hd, hl, fun g => ?_⟩
  rcases hall g with h | ⟨t, n, vs, ns, e1, e2, e3, e4⟩
  · exact .inl h
  · exact .inr ⟨t, n, vs, ns, e1, e2, hs _ e3, e4⟩
theorem AltIn.mono {news news' : List (Addr × Obj)} {M : Addr} {T : Int → Option (List Int)} (h : AltIn prog w news M T) (hs : ∀ p ∈ news, p ∈ news') : AltIn prog w news' M T := by
  obtain ⟨da, ea, na, M, f1, f2, f3, f4⟩ := h
  exact ⟨da, ea, na, M, hs _ f1, hs _ f2, f3, f4.mono hs⟩
theorem SceneIn.mono {news news' : List (Addr × Obj)} {sc rl lk gd' : Addr} {vsr : List Value} {sh wd : Nat} (h : SceneIn news sc rl lk gd' vsr sh wd) (hs : ∀ p ∈ news, p ∈ news') : SceneIn news' sc rl lk gd' vsr sh wd := by
  obtain ⟨⟨b, db, ds, eb, esc, nb, nsc, k, tb, e1, e2, e3, e4, e5, e6, e7, e8, e9, e10⟩⟩ := h
  exact ⟨⟨b, db, ds, eb, esc, nb, nsc, k, tb, hs _ e1, hs _ e2, hs _ e3, e4, hs _ e5, hs _ e6, e7, e8, e9, e10⟩⟩
inductive All2 {α β : Type} (R : α → β → Prop) : List α → List β → Prop
  | nil : All2 R [] []
  | cons {x : α} {y : β} {l : List α} {l' : List β} : R x y → All2 R l l' → All2 R (x :: l) (y :: l')
theorem All2.length {α β : Type} {R : α → β → Prop} {l : List α} {l' : List β} (f : All2 R l l') : l.length = l'.length := by
  induction f with
  | nil => rfl
  | cons _ _ ih => simp [ih]
theorem All2.get {β : Type} {R : Addr → β → Prop} {l : List Addr} {l' : List β} (f : All2 R l l') : ∀ {i : Nat} {v : Value}, (l.map Value.ref)[i]? = some v → ∃ x y, l[i]? = some x ∧ l'[i]? = some y ∧ v = .ref x ∧ R x y := by
  induction f with
  | nil => intro i v h; simp at h
  | cons h _ ih =>
    intro i v hv
    cases i with
    | zero => exact ⟨_, _, rfl, rfl, by simpa using hv.symm, h⟩
    | succ i => exact ih (by simpa using hv)
/-- a lookup of Alternates -/
structure LookIn (prog : Program) (w : World) (news : List (Addr × Obj)) (lk : Addr) (fl : Int) (Ts : List (Int → Option (List Int))) : Prop where
  ex : ∃ dlk elk nl tl als k tkd tf, (lk, instObj 271 dlk) ∈ news ∧ (dlk, dictOf elk nl) ∈ news ∧ getL (Str.ofString "tables") elk = some (some (.ref tl)) ∧ getL (Str.ofString "kind") elk = some (some (.str (Str.ofString "alternate") tkd)) ∧
    getL (Str.ofString "flag") elk = some (some (.int fl tf)) ∧ (tl, listOf (als.map Value.ref).toArray k) ∈ news ∧ All2 (AltIn prog w news) als Ts ∧ (als.length = 1 ∨ als.length = 2)
theorem forall₂_imp {α β : Type} {R S : α → β → Prop} (h : ∀ x y, R x y → S x y) {l : List α} {l' : List β} (f : All2 R l l') : All2 S l l' := by
  induction f with
  | nil => exact .nil
  | cons x _ ih => exact .cons (h _ _ x) ih
theorem LookIn.mono {news news' : List (Addr × Obj)} {lk : Addr} {fl : Int} {Ts : List (Int → Option (List Int))} (h : LookIn prog w news lk fl Ts) (hs : ∀ p ∈ news, p ∈ news') : LookIn prog w news' lk fl Ts := by
  obtain ⟨⟨dlk, elk, nl, tl, als, k, tkd, tf, e1, e2, e3, e4, e5, e6, e7, e8⟩⟩ := h
  exact ⟨⟨dlk, elk, nl, tl, als, k, tkd, tf, hs _ e1, hs _ e2, e3, e4, e5, hs _ e6, forall₂_imp (fun _ _ h => h.mono hs) e7, e8⟩⟩
/-- what the first table that has it gives -/
def firstAlt (Ts : List (Int → Option (List Int))) (g nb : Int) : Option Int := Ts.findSome? fun T => altOf T g nb

theorem news_sub2 {h : Heap} {q : Addr × Obj} {l l' : List (Addr × Obj)} (hs : ∀ p ∈ l, p ∈ l') (N : News h₀ L h (q :: l')) : News h₀ L h (q :: l) := fun p hp => by
  rcases List.mem_cons.mp hp with e | e
  · exact N p (e ▸ .head _)
  · exact N p (.tail _ (hs p e))
theorem news_back {h : Heap} {q r : Addr × Obj} {l l' : List (Addr × Obj)} (e : l' = r :: l) (N : News h₀ L h (q :: l')) : News h₀ L h (r :: q :: l) := fun p hp => by
  subst e
  rcases List.mem_cons.mp hp with e | e
  · exact N p (e ▸ .tail _ (.head _))
  · rcases List.mem_cons.mp e with e | e
    · exact N p (e ▸ .head _)
    · exact N p (.tail _ (.tail _ e))
theorem take_next {Ts : List (Int → Option (List Int))} {i : Nat} {T : Int → Option (List Int)} {P : (Int → Option (List Int)) → Prop} (hT : Ts[i]? = some T) (hall : ∀ T ∈ Ts.take i, P T) (h : P T) : ∀ T ∈ Ts.take (i + 1), P T := by
  intro T' hT'
  rw [List.take_add_one, hT] at hT'
  rcases List.mem_append.mp hT' with e | e
  · exact hall _ e
  · have : T' = T := by simpa using e
    rw [this]; exact h
theorem firstAlt_at {Ts : List (Int → Option (List Int))} {i : Nat} {T : Int → Option (List Int)} {g nb x : Int} (hT : Ts[i]? = some T) (hall : ∀ T ∈ Ts.take i, altOf T g nb = none) (h : altOf T g nb = some x) : firstAlt Ts g nb = some x := by
  induction Ts generalizing i with
  | nil => simp at hT
  | cons T' r ih =>
    unfold firstAlt
    rw [List.findSome?_cons]
    cases i with
    | zero => have : T' = T := by simpa using hT
              rw [this, h]
    | succ i =>
      rw [hall T' (by simp)]
      exact ih (by simpa using hT) fun T'' hT'' => hall T'' (by simp [hT''])
theorem ne_of_off {q : Addr × Obj} {l : List (Addr × Obj)} {a : Addr} (h : OwnOff l [a]) (hq : q ∈ l) : @Ne Nat q.1 a := h q hq a (.head _)

theorem subst_call (C : Cx w p loose mean mg mb A₀ base h₀ outer cs) (F : Fr h₀ L s.heap m)
    {x dx rl lk gd' sc : Addr} {es : List DictEntry} {n sh wd : Nat} {vsr : List Value} {own : List (Addr × Obj)} {at' g mk cv fl : Int} {ta : Tok} {Ts : List (Int → Option (List Int))}
    (N : News h₀ L s.heap ((dx, dictOf es n) :: own)) (hoff : OwnOff own [dx]) (hI : InfoEs es g mk cv)
    (mx : (x, instObj 52 dx) ∈ own) (hat : vsr[at'.toNat]? = some (.ref x)) (h0 : 0 ≤ at') (h1 : at' < 1000)
    (hsc : SceneIn own sc rl lk gd' vsr sh wd) (hlk : LookIn prog w own lk fl Ts)
    (hm : 0 ≤ mk ∧ mk < 256) (hs : sh ≤ 5) (hw : 1 ≤ wd ∧ wd ≤ 3)
    (hd : dp + 40 < recursionLimit) (hu : un + 320 < cLine)
    (ret1 : firstAlt Ts g (numb mk sh wd) = none → ∀ t h' tk', Fr h₀ L h' m → News h₀ L h' ((dx, dictOf es n) :: own) → Q (.int (-1) t) { s with heap := h', toks := tk' })
    (ret2 : ∀ x', firstAlt Ts g (numb mk sh wd) = some x' → ∀ t h' tk' es' n', Fr h₀ L h' m → News h₀ L h' ((dx, dictOf es' n') :: own) → InfoEs es' x' mk cv → Q (.int (at' + 1) t) { s with heap := h', toks := tk' }) :
    wpAny (model prog w) (ktrTop dp un gd cn cs L a ccd cl outer) (call (.ref 618) [.ref sc, .int at' ta]) Q E s := by
  obtain ⟨B, X, T', hk⟩ := C
  refine ex8and8 (hlk.ex) ?_
  intro dlk elk nl tl als kt tkd tf f1 f2 f3 f4 f5 f6 f7 f8
  clear hlk
  have hsc' := hsc
  refine ex9and10 (hsc.ex) ?_
  intro b db ds eb esc nb nsc k tb e1 e2 e3 e4 e5 e6 e7 e8 e9 e10
  clear hsc
  refine wpAny_call ?_
  k_dflt ktr_enter
  k_with_none
  k_with "call ref" => (focus ((with_reducible show wpAny _ _ (call (Value.ref 611) _) _ _ _); k_dflt (refine' table_call (Cx.mk (by k_asm) (by k_asm) (by k_asm) rfl) (by k_asm) (by k_asm) (by assumption) (by assumption) (by assumption) (by assumption) (by assumption) (by assumption) (by assumption) (by assumption) (by assumption) (by assumption) (by assumption) (by (first | omega | ((try simp only [depth_under_make, depth_under_kw, depth_in1, depth_deeper, depth_caller]); (try dsimp only [ktrTop]); omega) | ktr_room)) (by (first | omega | ((try simp only [units_in1, units_deeper, Around.mark_units, units_caller]); (try dsimp only [ktrTop]); omega) | ktr_units)) ?_ ?_); (intro hr1 t9 h9 tk9 F' N'; (try k_fold)); rotate_left; (intro x9 hr2 t9 h9 tk9 es9 n9 F' N' i9; (try k_fold))))
  k_steps
  rename Fr _ _ _ _ => F1
  rename News _ _ _ _ => N1
  refine iter_led (vs := als.map Value.ref) (n := kt) (fun i m₁ news₁ => news₁ = (dx, dictOf es n) :: own ∧ m₁ (Str.ofString "scene") = some (.ref sc) ∧ m₁ (Str.ofString "at") = some (.int at' ta) ∧ ∀ T ∈ Ts.take i, altOf T g (numb mk sh wd) = none) (by rfl) F1 N1 ⟨rfl, rfl, rfl, fun T h => nomatch h⟩ ?hJl ?turn ?done
  case hJl => rintro i m₁ news₁ ⟨rfl, _⟩; exact .tail _ f6
  case done =>
    rintro m₁ news₁ h tk ⟨rfl, hms, hma, hall⟩ F2 N2
    clear F1 N1
    k_steps
    refine ret1 ?_ _ _ _ (by assumption) (by assumption)
    unfold firstAlt
    rw [List.findSome?_eq_none_iff]
    intro T hT
    exact hall T (by rw [List.length_map, All2.length f7, List.take_length]; exact hT)
  case turn =>
    rintro i v m₁ news₁ h tk I oI hv ⟨rfl, hms, hma, hall⟩ hne F2 N2
    clear F1 N1
    obtain ⟨al, T, hal, hTi, rfl, hat2⟩ := All2.get f7 hv
    have hIx : @Ne Nat I dx := fun e => hne _ (.head _) e.symm
    obtain ⟨own2, hown2⟩ : ∃ o2, o2 = (I, oI) :: own := ⟨_, rfl⟩
    have sub : ∀ p ∈ own, p ∈ own2 := fun p hp => by rw [hown2]; exact .tail _ hp
    have N3 : News _ _ h ((dx, dictOf es n) :: own2) := fun p hp => N2 p (by rw [hown2] at hp; rcases List.mem_cons.mp hp with e | e; exact e ▸ .tail _ (.head _); rcases List.mem_cons.mp e with e | e; exact e ▸ .head _; exact .tail _ (.tail _ e))
    clear N2
    have hoff2 : OwnOff own2 [dx] := fun p hp => by
      rw [hown2] at hp
      rcases List.mem_cons.mp hp with e | e
      · intro b hb; rw [List.mem_singleton.mp hb, e]; exact hIx
      · exact hoff p e
    replace mx := sub _ mx
    replace hsc' := hsc'.mono sub
    replace hat2 := hat2.mono sub
    replace e5 := sub _ e5
    replace e6 := sub _ e6
    replace f1 := sub _ f1
    replace f2 := sub _ f2
    k_steps
    · refine' ret2 _ ?k0 _ _ _ _ _ ?k1 (news_sub2 sub ?k2) ?k3
      (case k0 => exact firstAlt_at hTi hall (by assumption))
      (case k1 => assumption)
      (case k2 => assumption)
      (case k3 => assumption)
    · rename Fr _ _ _ _ => F9
      refine' LedEnd.intro ((dx, dictOf es n) :: own) F9 ?k2 hne ⟨rfl, hms, hma, ?k3⟩
      (case k2 => exact news_back hown2 (by assumption))
      (case k3 => exact take_next hTi hall (by assumption))

end
/- Takes -/
section
/-- the law's gdef: 5 a mark, 1 a base -/
structure GdefIn (prog : Program) (w : World) (news : List (Addr × Obj)) (gd' : Addr) : Prop where
  ex : ∃ dgd egd ngd c1 dc ec nc D oD kvs t5 t1, (gd', instObj 383 dgd) ∈ news ∧ (dgd, dictOf egd ngd) ∈ news ∧ getL (Str.ofString "classes") egd = some (some (.ref c1)) ∧ (c1, instObj 245 dc) ∈ news ∧ (dc, dictOf ec nc) ∈ news ∧
    getL (Str.ofString "classes") ec = some (some (.ref D)) ∧ (D == sysModules) = false ∧ (D, oD) ∈ news ∧ oD.IsDictOf (intKind prog w) kvs ∧ valueAt kvs 5 = some (.int 3 t5) ∧ valueAt kvs 1 = some (.int 1 t1) ∧ (∀ g, g ≠ 5 → g ≠ 1 → valueAt kvs g = none) ∧ getL (Str.ofString "glyph_class") egd = some none ∧ getL (Str.ofString "class_of") ec = some none
theorem GdefIn.mono {news news' : List (Addr × Obj)} {gd' : Addr} (h : GdefIn prog w news gd') (hs : ∀ p ∈ news, p ∈ news') : GdefIn prog w news' gd' := by
  obtain ⟨⟨dgd, egd, ngd, c1, dc, ec, nc, D, oD, kvs, t5, t1, e1, e2, e3, e4, e5, e6, e7, e8, e9, e10⟩⟩ := h
  exact ⟨⟨dgd, egd, ngd, c1, dc, ec, nc, D, oD, kvs, t5, t1, hs _ e1, hs _ e2, e3, hs _ e4, hs _ e5, e6, e7, hs _ e8, e9, e10⟩⟩
theorem and_zero_all : (List.range 6).all (fun sh => [1, 2, 3].all fun wd => (List.range 256).all fun n => decide ((Builtin.bitAnd (n : Int) (bitsOf sh wd) = 0) ↔ (numb (n : Int) sh wd = 0))) = true := by decide +kernel
theorem and_zero {mk : Int} (h : 0 ≤ mk ∧ mk < 256) {sh wd : Nat} (hs : sh ≤ 5) (hw : 1 ≤ wd ∧ wd ≤ 3) : (Builtin.bitAnd mk (bitsOf sh wd) = 0) ↔ (numb mk sh wd = 0) := by
  have h1 := List.all_eq_true.mp and_zero_all sh (List.mem_range.mpr (by omega))
  have h3 : wd ∈ [1, 2, 3] := by simp only [List.mem_cons, List.not_mem_nil]; omega
  have h2 := List.all_eq_true.mp (List.all_eq_true.mp h1 wd h3) mk.toNat (List.mem_range.mpr (by omega))
  have h4 : ((mk.toNat : Nat) : Int) = mk := by omega
  rw [h4] at h2
  exact of_decide_eq_true h2
/-- is a glyph taken -/
def taken (mk : Int) (sh wd : Nat) (fl g : Int) : Bool := !decide (numb mk sh wd = 0) && !(decide (fl = 8) && decide (g = 5))

theorem ret_bool {h₀ h' : Heap} {L : Addr} {m : Str → Option Value} {news : List (Addr × Obj)} {s : Shared} {Q : Value → Shared → Prop} {tk' : Nat} {v x : Bool}
    (ret : ∀ h' tk', Fr h₀ L h' m → News h₀ L h' news → Q (.bool v) { s with heap := h', toks := tk' }) (e : x = v) (F : Fr h₀ L h' m) (N : News h₀ L h' news) : Q (.bool x) { s with heap := h', toks := tk' } := by
  subst e; exact ret h' tk' F N
theorem takes_call (C : Cx w p loose mean mg mb A₀ base h₀ outer cs) (F : Fr h₀ L s.heap m)
    {x dx rl lk gd' sc : Addr} {es : List DictEntry} {n sh wd : Nat} {vsr : List Value} {news : List (Addr × Obj)} {at' g mk cv fl : Int} {ta : Tok} {Ts : List (Int → Option (List Int))}
    (N : News h₀ L s.heap news) (hI : InfoEs es g mk cv) (mx : (x, instObj 52 dx) ∈ news) (mdx : (dx, dictOf es n) ∈ news) (hat : vsr[at'.toNat]? = some (.ref x)) (h0 : 0 ≤ at') (h1 : at' < 1000)
    (hsc : SceneIn news sc rl lk gd' vsr sh wd) (hlk : LookIn prog w news lk fl Ts) (hgd : GdefIn prog w news gd')
    (hm : 0 ≤ mk ∧ mk < 256) (hs : sh ≤ 5) (hw : 1 ≤ wd ∧ wd ≤ 3) (hfl : fl = 0 ∨ fl = 8)
    (hd : dp + 40 < recursionLimit) (hu : un + 320 < cLine)
    (ret : ∀ h' tk', Fr h₀ L h' m → News h₀ L h' news → Q (.bool (taken mk sh wd fl g)) { s with heap := h', toks := tk' }) :
    wpAny (model prog w) (ktrTop dp un gd cn cs L a ccd cl outer) (call (.ref 332) [.ref sc, .int at' ta]) Q E s := by
  obtain ⟨B, X, T', hk⟩ := C
  refine ex9and10 (hsc.ex) ?_
  intro b db ds eb esc nb nsc k tb e1 e2 e3 e4 e5 e6 e7 e8 e9 e10
  clear hsc
  refine ex8and8 (hlk.ex) ?_
  intro dlk elk nl tl als kt tkd tf f1 f2 f3 f4 f5 f6 f7 f8
  clear hlk
  refine ex12and14 (hgd.ex) ?_
  intro dgd egd ngd c1 dc ec nc D oD kvs t5 t1 g1 g2 g3 g4 g5 g6 g7 g8 g9 g10 g11 g12 g13 g14
  clear hgd
  obtain ⟨tg, hg⟩ := hI.glyph
  obtain ⟨tm, hmk⟩ := hI.mask
  by_cases hz : Builtin.bitAnd mk (bitsOf sh wd) = 0
  · have hr : taken mk sh wd fl g = false := by unfold taken; rw [decide_eq_true ((and_zero hm hs hw).mp hz)]; rfl
    rw [hr] at ret
    have hzn : ¬ ((Builtin.bitAnd mk (bitsOf sh wd) != 0) = true) := by simp [hz]
    refine wpAny_call ?_
    k_dflt ktr_enter
    k_steps
    rw [show (Builtin.bitAnd mk (bitsOf sh wd) != 0) = false by simp [hz]]
    exact ret _ _ (by assumption) (by assumption)
  · have hz' : decide (numb mk sh wd = 0) = false := decide_eq_false fun e => hz ((and_zero hm hs hw).mpr e)
    have hzp : (Builtin.bitAnd mk (bitsOf sh wd) != 0) = true := by simp [hz]
    have hg3 : g = 5 ∨ g = 1 ∨ (g ≠ 5 ∧ g ≠ 1) := by omega
    rcases hfl with rfl | rfl <;> rcases hg3 with h5 | h5 | ⟨h5, h6⟩
    all_goals (first | subst h5 | (have hgn := g12 g h5 h6))
    all_goals (
      refine wpAny_call ?_
      k_dflt ktr_enter
      k_steps
      refine ret_bool ret ?k1 (by assumption) (by (first | assumption | exact news_tail (by assumption) | exact news_tail (news_tail (by assumption)) | exact news_tail (news_tail (news_tail (by assumption))) | exact news_tail (news_tail (news_tail (news_tail (by assumption))))))
      (case k1 => unfold taken; rw [hz']; first | decide | (rw [decide_eq_false h5]; decide)))

end
/- Forward -/
section
/-- an Info of the buffer: the thing, its dict, what it bears -/
structure Inf where
  x : Addr
  dx : Addr
  es : List DictEntry
  n : Nat
  g : Int
  mv : Int
  cl : Int
abbrev Inf.ent (i : Inf) : Addr × Obj := (i.dx, dictOf i.es i.n)
structure InfOk (i : Inf) : Prop where
  es : InfoEs i.es i.g i.mv i.cl
  mv : 0 ≤ i.mv ∧ i.mv < 256
/-- what a lookup makes of a glyph, and whether it did -/
def stepG (Ts : List (Int → Option (List Int))) (fl : Int) (sh wd : Nat) (g mk : Int) : Int × Bool :=
  if taken mk sh wd fl g then match firstAlt Ts g (numb mk sh wd) with | some x => (x, true) | none => (g, false) else (g, false)
theorem stepG_some {Ts : List (Int → Option (List Int))} {fl : Int} {sh wd : Nat} {g mv x : Int} (h : taken mv sh wd fl g = true) (e : firstAlt Ts g (numb mv sh wd) = some x) : stepG Ts fl sh wd g mv = (x, true) := by
  unfold stepG; rw [if_pos h, e]
structure Stepped (S : Int → Int → Int × Bool) (a b : Inf) : Prop where
  x : b.x = a.x
  dx : b.dx = a.dx
  mv : b.mv = a.mv
  cl : b.cl = a.cl
  g : b.g = (S a.g a.mv).1
  ok : InfOk b
theorem stepped_put {S : Int → Int → Int × Bool} {c : Inf} {es : List DictEntry} {n : Nat} {x : Int} (hS : S c.g c.mv = (x, true)) (i : InfoEs es x c.mv c.cl) (h : 0 ≤ c.mv ∧ c.mv < 256) : Stepped S c ⟨c.x, c.dx, es, n, x, c.mv, c.cl⟩ :=
  ⟨rfl, rfl, rfl, rfl, by rw [hS], ⟨i, h⟩⟩
def cntOf (S : Int → Int → Int × Bool) (l : List Inf) : Int := (l.countP fun a => (S a.g a.mv).2 : Nat)
theorem All2.snoc {α β : Type} {R : α → β → Prop} {l : List α} {l' : List β} {x : α} {y : β} (f : All2 R l l') (h : R x y) : All2 R (l ++ [x]) (l' ++ [y]) := by
  induction f with
  | nil => exact .cons h .nil
  | cons h' _ ih => exact .cons h' ih
theorem All2.mem_right {α β : Type} {R : α → β → Prop} {l : List α} {l' : List β} (f : All2 R l l') : ∀ {y : β}, y ∈ l' → ∃ x ∈ l, R x y := by
  induction f with
  | nil => intro y h; cases h
  | cons h' _ ih =>
    intro y h
    rcases List.mem_cons.mp h with e | e
    · exact ⟨_, .head _, e ▸ h'⟩
    · obtain ⟨x, hx, hr⟩ := ih e; exact ⟨x, .tail _ hx, hr⟩
theorem cntOf_snoc_true {S : Int → Int → Int × Bool} {l : List Inf} {a : Inf} (h : (S a.g a.mv).2 = true) : cntOf S (l ++ [a]) = cntOf S l + 1 := by
  simp [cntOf, List.countP_append, h]
theorem cntOf_snoc_false {S : Int → Int → Int × Bool} {l : List Inf} {a : Inf} (h : (S a.g a.mv).2 = false) : cntOf S (l ++ [a]) = cntOf S l := by
  simp [cntOf, List.countP_append, h]
/-- the invariant of run_forward's while -/
def FwdJ (S : Int → Int → Int × Bool) (infs : List Inf) (own : List (Addr × Obj)) (sc : Addr) (n : Nat) (m : Str → Option Value) (news : List (Addr × Obj)) : Prop :=
  ∃ pre dn rest, infs = pre ++ rest ∧ All2 (Stepped S) pre dn ∧ n = rest.length ∧ news = dn.map Inf.ent ++ (rest.map Inf.ent ++ own) ∧ m (Str.ofString "scene") = some (.ref sc) ∧
    (∃ t, m (Str.ofString "at") = some (.int pre.length t)) ∧ ∃ t, m (Str.ofString "count") = some (.int (cntOf S pre) t)
theorem own2_off {S : Int → Int → Int × Bool} {pre dn rest : List Inf} {b : Inf} {own : List (Addr × Obj)} (ha : All2 (Stepped S) pre dn) (hnd : ((pre ++ b :: rest).map Inf.dx).Nodup) (hoff : OwnOff own ((pre ++ b :: rest).map Inf.dx)) :
    OwnOff (dn.map Inf.ent ++ (rest.map Inf.ent ++ own)) [b.dx] := by
  intro p hp c hc
  rw [List.mem_singleton.mp hc]
  simp only [List.map_append, List.map_cons] at hnd hoff
  have hnd' := List.nodup_append.mp hnd
  rcases List.mem_append.mp hp with h | h
  · obtain ⟨d, hd, rfl⟩ := List.mem_map.mp h
    obtain ⟨x, hx, hr⟩ := ha.mem_right hd
    rw [show d.ent.1 = d.dx from rfl, hr.dx]
    exact hnd'.2.2 _ (List.mem_map_of_mem hx) _ (.head _)
  · rcases List.mem_append.mp h with h | h
    · obtain ⟨d, hd, rfl⟩ := List.mem_map.mp h
      intro e
      exact (List.nodup_cons.mp hnd'.2.1).1 (e ▸ List.mem_map_of_mem hd)
    · exact hoff p h _ (List.mem_append_right _ (.head _))
theorem fwd_split {h : Heap} {pre rest : List Inf} {b : Inf} {own : List (Addr × Obj)} (N : News h₀ L h (pre.map Inf.ent ++ ((b :: rest).map Inf.ent ++ own))) : News h₀ L h ((b.dx, dictOf b.es b.n) :: (pre.map Inf.ent ++ (rest.map Inf.ent ++ own))) := fun p hp => N p (by
  rcases List.mem_cons.mp hp with e | e
  · rw [e]; exact List.mem_append_right _ (.head _)
  · rcases List.mem_append.mp e with e | e
    · exact List.mem_append_left _ e
    · exact List.mem_append_right _ (.tail _ e))
theorem fwd_join {h : Heap} {pre rest : List Inf} {b : Inf} {own : List (Addr × Obj)} (N : News h₀ L h ((b.dx, dictOf b.es b.n) :: (pre.map Inf.ent ++ (rest.map Inf.ent ++ own)))) : News h₀ L h ((pre ++ [b]).map Inf.ent ++ (rest.map Inf.ent ++ own)) := fun p hp => N p (by
  rcases List.mem_append.mp hp with e | e
  · rw [List.map_append] at e
    rcases List.mem_append.mp e with e | e
    · exact .tail _ (List.mem_append_left _ e)
    · rw [List.mem_singleton.mp e]; exact .head _
  · exact .tail _ (List.mem_append_right _ e))

theorem fwd_end {S : Int → Int → Int × Bool} {infs pre dn rest : List Inf} {b c : Inf} {own : List (Addr × Obj)} {sc : Addr} {h' : Heap} {tk' : Nat} {m₂ : Str → Option Value} {Q : Flow → Shared → Prop} {ta tc : Tok} (hcut : infs = pre ++ c :: rest) (hst : All2 (Stepped S) pre dn) (hb : Stepped S c b) (F : Fr h₀ L h' m₂)
    (N : News h₀ L h' ((b.dx, dictOf b.es b.n) :: (dn.map Inf.ent ++ (rest.map Inf.ent ++ own)))) (hms : m₂ (Str.ofString "scene") = some (.ref sc)) (hat : m₂ (Str.ofString "at") = some (.int ((pre.length : Int) + 1) ta)) (hct : m₂ (Str.ofString "count") = some (.int (cntOf S (pre ++ [c])) tc)) :
    WhileStep2 h₀ L s (FwdJ S infs own sc) Q (c :: rest).length .next { s with heap := h', toks := tk' } :=
  ⟨h', tk', m₂, (dn ++ [b]).map Inf.ent ++ (rest.map Inf.ent ++ own), rest.length, rfl, F, fwd_join N, by simp, pre ++ [c], dn ++ [b], rest, by simp [hcut], hst.snoc hb, rfl, rfl, hms, ⟨ta, by rw [hat, List.length_append]; rfl⟩, ⟨tc, hct⟩⟩


theorem forward_call (C : Cx w p loose mean mg mb A₀ base h₀ outer cs) (F : Fr h₀ L s.heap m)
    {rl lk gd' sc : Addr} {infs : List Inf} {sh wd : Nat} {own : List (Addr × Obj)} {fl : Int} {Ts : List (Int → Option (List Int))}
    (N : News h₀ L s.heap (infs.map Inf.ent ++ own)) (hnd : (infs.map Inf.dx).Nodup) (hoff : OwnOff own (infs.map Inf.dx)) (hok : ∀ i ∈ infs, InfOk i)
    (hx : ∀ i ∈ infs, (i.x, instObj 52 i.dx) ∈ own) (hlen : infs.length ≤ 100)
    (hsc : SceneIn own sc rl lk gd' (infs.map fun i => Value.ref i.x) sh wd) (hlk : LookIn prog w own lk fl Ts) (hgd : GdefIn prog w own gd')
    (hs : sh ≤ 5) (hw : 1 ≤ wd ∧ wd ≤ 3) (hfl : fl = 0 ∨ fl = 8)
    (hd : dp + 50 < recursionLimit) (hu : un + 400 < cLine)
    (ret : ∀ t h' tk' infs', All2 (Stepped (stepG Ts fl sh wd)) infs infs' → Fr h₀ L h' m → News h₀ L h' (infs'.map Inf.ent ++ own) → Q (.int (cntOf (stepG Ts fl sh wd) infs) t) { s with heap := h', toks := tk' }) :
    wpAny (model prog w) (ktrTop dp un gd cn cs L a ccd cl outer) (call (.ref 625) [.ref sc]) Q E s := by
  obtain ⟨B, X, T', hk⟩ := C
  have hsc' := hsc
  refine ex9and10 (hsc.ex) ?_
  intro b db ds eb esc nb nsc k tb e1 e2 e3 e4 e5 e6 e7 e8 e9 e10
  clear hsc
  refine wpAny_call ?_
  k_dflt ktr_enter
  k_with_none
  k_with "call ref" => ((with_reducible show wpAny _ _ (call (Value.ref 332) _) _ _ _); k_dflt (refine' takes_call (Cx.mk (by k_asm) (by k_asm) (by k_asm) rfl) (by k_asm) (by k_asm) (by assumption) (by k_mem) (by k_mem) (by assumption) (by assumption) (by assumption) (by refine SceneIn.mono (by assumption) (fun p hp => List.Mem.tail _ hp)) (by refine LookIn.mono (by assumption) (fun p hp => List.Mem.tail _ hp)) (by refine GdefIn.mono (by assumption) (fun p hp => List.Mem.tail _ hp)) (by assumption) (by assumption) (by assumption) (by assumption) (by (first | omega | ((try simp only [depth_under_make, depth_under_kw, depth_in1, depth_deeper, depth_caller]); (try dsimp only [ktrTop]); omega) | ktr_room)) (by (first | omega | ((try simp only [units_in1, units_deeper, Around.mark_units, units_caller]); (try dsimp only [ktrTop]); omega) | ktr_units)) ?_); intro h9 tk9 F' N'; (try k_fold))
  k_with "call ref" => (focus ((with_reducible show wpAny _ _ (call (Value.ref 618) _) _ _ _); k_dflt (refine' subst_call (Cx.mk (by k_asm) (by k_asm) (by k_asm) rfl) (by k_asm) (by k_asm) (by assumption) (by assumption) (by assumption) (by assumption) (by assumption) (by assumption) (by assumption) (by assumption) (by assumption) (by assumption) (by assumption) (by (first | omega | ((try simp only [depth_under_make, depth_under_kw, depth_in1, depth_deeper, depth_caller]); (try dsimp only [ktrTop]); omega) | ktr_room)) (by (first | omega | ((try simp only [units_in1, units_deeper, Around.mark_units, units_caller]); (try dsimp only [ktrTop]); omega) | ktr_units)) ?_ ?_); (intro hr1 t9 h9 tk9 F' N'; (try k_fold)); rotate_left; (intro x9 hr2 t9 h9 tk9 es9 n9 F' N' i9; (try k_fold))))
  k_with "exec While Compare cons nil" => (rename Fr _ _ _ _ => F1; rename News _ _ _ _ => N1; refine While_inv2 (n₀ := infs.length) (FwdJ (stepG Ts fl sh wd) infs own sc) F1 N1 ⟨[], [], infs, rfl, .nil, rfl, rfl, rfl, ⟨_, rfl⟩, ⟨_, rfl⟩⟩ (Hold.out ?_))
  k_steps
  unfold Hold
  intro n m₁ news₁ h tk F1 N1 hJ106z
  refine ex3and7 hJ106z ?_
  intro pre dn rest hcut hst e107z e108z hms h109z h110z
  (try clear hJ106z)
  subst e107z
  subst e108z
  refine ex1and1 h109z ?_
  intro ta hma
  (try clear h109z)
  refine ex1and1 h110z ?_
  intro tc hmc
  (try clear h110z)
  have sub0 : ∀ p ∈ own, p ∈ dn.map Inf.ent ++ (rest.map Inf.ent ++ own) := fun p hp => List.mem_append_right _ (List.mem_append_right _ hp)
  have hrl := sub0 _ e1
  have e20 := sub0 _ e2
  have e30 := sub0 _ e3
  have e50 := sub0 _ e5
  have e60 := sub0 _ e6
  clear sub0
  have hl2 : (infs.map fun i => Value.ref i.x).length ≤ 1000 := by rw [List.length_map]; omega
  cases rest with
  | nil =>
    have hl3 : ((infs.map fun i => Value.ref i.x).length : Int) = pre.length := by rw [List.length_map, hcut, List.append_nil]
    k_steps
    rw [List.append_nil] at hcut
    subst hcut
    exact ret _ _ _ dn hst (by assumption) (by assumption)
  | cons c rest =>
    have hl3 : (pre.length : Int) < (infs.map fun i => Value.ref i.x).length := by rw [List.length_map, hcut, List.length_append, List.length_cons]; omega
    have hl4 : pre.length ≤ 100 := by rw [hcut, List.length_append] at hlen; omega
    have hcm : c ∈ infs := by rw [hcut]; exact List.mem_append_right _ (.head _)
    have hic := hok c hcm
    have hxc := hx c hcm
    have hat : (infs.map fun i => Value.ref i.x)[(pre.length : Int).toNat]? = some (.ref c.x) := by rw [Int.toNat_natCast, hcut]; simp
    rw [hcut] at hnd hoff
    have hoff2 := own2_off hst hnd hoff
    have N2 := fwd_split N1
    clear N1
    have sub : ∀ p ∈ own, p ∈ dn.map Inf.ent ++ (rest.map Inf.ent ++ own) := fun p hp => List.mem_append_right _ (List.mem_append_right _ hp)
    obtain ⟨own2, hown2⟩ : ∃ o2, o2 = dn.map Inf.ent ++ (rest.map Inf.ent ++ own) := ⟨_, rfl⟩
    rw [← hown2] at N2 hoff2 sub
    have hsc2 := hsc'.mono sub
    have hlk2 := hlk.mono sub
    have hgd2 := hgd.mono sub
    have hxc2 := sub _ hxc
    have mrl2 := sub _ e1
    have e22 := sub _ e2
    have e32 := sub _ e3
    have e52 := sub _ e5
    have e62 := sub _ e6
    clear hrl e20 e30 e50 e60
    have hi1 := hic.es
    have hi2 := hic.mv
    have h00 : (0 : Int) ≤ (pre.length : Int) := by omega
    have h01 : (pre.length : Int) < 1000 := by omega
    k_steps
    · rename firstAlt _ _ _ = some _ => e9
      have hS := stepG_some (by assumption) e9
      rename InfoEs _ _ _ _ => i9
      rename Fr _ _ _ _ => F9
      rename News _ _ _ _ => N9
      rw [hown2] at N9
      exact fwd_end hcut hst (stepped_put hS i9 hi2) F9 N9 hms rfl (by rw [cntOf_snoc_true (by rw [hS])]; exact rfl)
    · have hS : stepG Ts fl sh wd c.g c.mv = (c.g, false) := by
        unfold stepG
        rename firstAlt _ _ _ = none => e9
        rw [if_pos (by assumption), e9]
      rename Fr _ _ _ _ => F9
      rename News _ _ _ _ => N9
      rw [hown2] at N9
      refine fwd_end hcut hst (b := c) ⟨rfl, rfl, rfl, rfl, (by rw [hS]), hic⟩ F9 N9 hms rfl (tc := tc) ?_
      rw [cntOf_snoc_false (by rw [hS])]
      exact hmc
    · have hS : stepG Ts fl sh wd c.g c.mv = (c.g, false) := by
        unfold stepG
        rename taken _ _ _ _ _ = false => e9
        rw [if_neg (by rw [e9]; decide)]
      rename Fr _ _ _ _ => F9
      rename News _ _ _ _ => N9
      rw [hown2] at N9
      refine fwd_end hcut hst (b := c) ⟨rfl, rfl, rfl, rfl, (by rw [hS]), hic⟩ F9 N9 hms rfl (tc := tc) ?_
      rw [cntOf_snoc_false (by rw [hS])]
      exact hmc

end
/- RunSub -/
section
theorem runsub_tail (C : Cx w p loose mean mg mb A₀ base h₀ outer cs) (F : Fr h₀ L s.heap m)
    {b db rl lk gd' l' x' d' : Addr} {o1 : Obj} {eb esc : List DictEntry} {nb nsc kr : Nat} {tb : Tok} {infs : List Inf} {sh wd : Nat} {own led : List (Addr × Obj)} {fl : Int} {Ts : List (Int → Option (List Int))}
    (N : News h₀ L s.heap ((l', o1) :: (x', instObj 293 d') :: (d', dictOf esc nsc) :: led)) (h1 : ∀ p ∈ led, p.1 < d') (h2 : d' < x') (h3 : x' < l' ∧ d' < l' ∧ AllLt l' led) (hled : led = infs.map Inf.ent ++ own)
    (hnd : (infs.map Inf.dx).Nodup) (hoff : OwnOff own (infs.map Inf.dx)) (hok : ∀ i ∈ infs, InfOk i)
    (hx : ∀ i ∈ infs, (i.x, instObj 52 i.dx) ∈ own) (hlen : infs.length ≤ 100)
    (mrl : (rl, listOf (infs.map fun i => Value.ref i.x).toArray kr) ∈ own) (mb' : (b, instObj 103 db) ∈ own) (mdb : (db, dictOf eb nb) ∈ own) (hrow : getL (Str.ofString "row") eb = some (some (.ref rl)))
    (hbuf : getL (Str.ofString "buffer") esc = some (some (.ref b))) (hmask : getL (Str.ofString "mask") esc = some (some (.int (bitsOf sh wd) tb))) (hlook : getL (Str.ofString "lookup") esc = some (some (.ref lk))) (hgdf : getL (Str.ofString "gdef") esc = some (some (.ref gd')))
    (hlk : LookIn prog w own lk fl Ts) (hgd : GdefIn prog w own gd')
    (hs : sh ≤ 5) (hw : 1 ≤ wd ∧ wd ≤ 3) (hfl : fl = 0 ∨ fl = 8)
    (hd : dp + 50 < recursionLimit) (hu : un + 400 < cLine)
    (ret : ∀ t h' tk' infs', All2 (Stepped (stepG Ts fl sh wd)) infs infs' → Fr h₀ L h' m → News h₀ L h' (infs'.map Inf.ent ++ own) → Q (.int (cntOf (stepG Ts fl sh wd) infs) t) { s with heap := h', toks := tk' }) :
    wpAny (model prog w) (ktrTop dp un gd cn cs L a ccd cl outer) (call (.ref 625) [.ref x']) Q E s := by
  subst hled
  have sub : ∀ p ∈ own, p ∈ (l', o1) :: (x', instObj 293 d') :: (d', dictOf esc nsc) :: own := fun p hp => .tail _ (.tail _ (.tail _ hp))
  refine forward_call C F (own := (l', o1) :: (x', instObj 293 d') :: (d', dictOf esc nsc) :: own) ?_ hnd ?_ hok (fun i hi => sub _ (hx i hi)) hlen ⟨⟨b, db, d', eb, esc, nb, nsc, kr, tb, sub _ mrl, sub _ mb', sub _ mdb, hrow, .tail _ (.head _), .tail _ (.tail _ (.head _)), hbuf, hmask, hlook, hgdf⟩⟩ (hlk.mono sub) (hgd.mono sub) hs hw hfl hd hu ?_
  · intro p hp
    apply N p
    rcases List.mem_append.mp hp with e | e
    · exact .tail _ (.tail _ (.tail _ (List.mem_append_left _ e)))
    · rcases List.mem_cons.mp e with e | e
      · exact e ▸ .head _
      · rcases List.mem_cons.mp e with e | e
        · exact e ▸ .tail _ (.head _)
        · rcases List.mem_cons.mp e with e | e
          · exact e ▸ .tail _ (.tail _ (.head _))
          · exact .tail _ (.tail _ (.tail _ (List.mem_append_right _ e)))
  · intro p hp c hc
    obtain ⟨i, hi, rfl⟩ := List.mem_map.mp hc
    have hm : i.ent ∈ infs.map Inf.ent ++ own := List.mem_append_left _ (List.mem_map_of_mem hi)
    have q1 : @LT.lt Nat _ i.dx d' := h1 _ hm
    have q2 : @LT.lt Nat _ d' x' := h2
    have q3 : @LT.lt Nat _ d' l' := h3.2.1
    rcases List.mem_cons.mp hp with e | e
    · rw [e]; show @Ne Nat l' i.dx; omega
    · rcases List.mem_cons.mp e with e | e
      · rw [e]; show @Ne Nat x' i.dx; omega
      · rcases List.mem_cons.mp e with e | e
        · rw [e]; show @Ne Nat d' i.dx; omega
        · exact hoff p e _ hc
  · intro t h' tk' infs' ha F' N'
    refine ret t h' tk' infs' ha F' fun p hp => N' p ?_
    rcases List.mem_append.mp hp with e | e
    · exact List.mem_append_left _ e
    · exact List.mem_append_right _ (sub _ e)

theorem runsub_call (C : Cx w p loose mean mg mb A₀ base h₀ outer cs) (F : Fr h₀ L s.heap m)
    {b db rl lk gd' ll : Addr} {eb : List DictEntry} {nb kr kl : Nat} {lks : List Addr} {num : Int} {tn tb : Tok} {infs : List Inf} {sh wd : Nat} {own : List (Addr × Obj)} {fl : Int} {Ts : List (Int → Option (List Int))}
    (N : News h₀ L s.heap (infs.map Inf.ent ++ own)) (hnd : (infs.map Inf.dx).Nodup) (hoff : OwnOff own (infs.map Inf.dx)) (hok : ∀ i ∈ infs, InfOk i)
    (hx : ∀ i ∈ infs, (i.x, instObj 52 i.dx) ∈ own) (hlen : infs.length ≤ 100)
    (mrl : (rl, listOf (infs.map fun i => Value.ref i.x).toArray kr) ∈ own) (mb' : (b, instObj 103 db) ∈ own) (mdb : (db, dictOf eb nb) ∈ own) (hrow : getL (Str.ofString "row") eb = some (some (.ref rl)))
    (mll : (ll, listOf (lks.map Value.ref).toArray kl) ∈ own) (hnum : 0 ≤ num ∧ num < 100) (hlkn : (lks.map Value.ref)[num.toNat]? = some (.ref lk))
    (hlk : LookIn prog w own lk fl Ts) (hgd : GdefIn prog w own gd')
    (hs : sh ≤ 5) (hw : 1 ≤ wd ∧ wd ≤ 3) (hfl : fl = 0 ∨ fl = 8)
    (hd : dp + 60 < recursionLimit) (hu : un + 480 < cLine)
    (ret : ∀ t h' tk' infs', All2 (Stepped (stepG Ts fl sh wd)) infs infs' → Fr h₀ L h' m → News h₀ L h' (infs'.map Inf.ent ++ own) → Q (.int (cntOf (stepG Ts fl sh wd) infs) t) { s with heap := h', toks := tk' }) :
    wpAny (model prog w) (ktrTop dp un gd cn cs L a ccd cl outer) (call (.ref 639) [.ref b, .ref gd', .ref ll, .int num tn, .int (bitsOf sh wd) tb]) Q E s := by
  obtain ⟨B, X, T', hk⟩ := C
  have hlk0 := hlk
  refine ex8and8 (hlk.ex) ?_
  intro dlk elk nl tl als kt tkd tf f1 f2 f3 f4 f5 f6 f7 f8
  clear hlk
  obtain ⟨led, hled⟩ : ∃ l, l = infs.map Inf.ent ++ own := ⟨_, rfl⟩
  rw [← hled] at N
  have sub : ∀ p ∈ own, p ∈ led := fun p hp => by rw [hled]; exact List.mem_append_right _ hp
  have f11 := sub _ f1
  have f21 := sub _ f2
  have mll1 := sub _ mll
  obtain ⟨hn0, hn1⟩ := hnum
  refine wpAny_call ?_
  k_dflt ktr_enter
  k_with "call ref" => ((with_reducible show wpAny _ _ (call (Value.ref 625) _) _ _ _); k_dflt (refine' runsub_tail (Cx.mk ?rsB ?rsX ?rsT ?rsK) ?rsF ?rsN ?rs1 ?rs2 ?rs3 hled hnd hoff hok hx hlen mrl mb' mdb hrow ?g1 ?g2 ?g3 ?g4 hlk0 hgd hs hw hfl ?rd ?ru ?_; (case rsB => k_asm); (case rsX => k_asm); (case rsT => k_asm); (case rsK => rfl); (case rsF => k_asm); (case rsN => k_asm); (case rs1 => assumption); (case rs2 => assumption); (case rs3 => assumption); (case g1 => k_get); (case g2 => k_get); (case g3 => k_get); (case g4 => k_get); (case rd => (first | omega | ((try simp only [depth_under_make, depth_under_kw, depth_in1, depth_deeper, depth_caller]); (try dsimp only [ktrTop]); omega) | ktr_room)); (case ru => (first | omega | ((try simp only [units_in1, units_deeper, Around.mark_units, units_caller]); (try dsimp only [ktrTop]); omega) | ktr_units))); intro t9 h9 tk9 infs9 ha9 F' N'; (try k_fold))
  k_steps
  exact ret _ _ _ _ (by assumption) (by assumption) (by assumption)

end
/- TabEnds -/
section
/-- a ledger that has grown: what is new lies above all that was -/
def Grown (own own' : List (Addr × Obj)) : Prop := (∀ p ∈ own, p ∈ own') ∧ ∀ p ∈ own', p ∈ own ∨ ∀ q ∈ own, @LT.lt Nat _ q.1 p.1
/-- what a dict's pairs tell as a table -/
def Pairs (news : List (Addr × Obj)) (kvs : List (Int × Value)) (T : Int → Option (List Int)) : Prop :=
  ∀ g, (valueAt kvs g = none ∧ T g = none) ∨ ∃ t n vs ns, valueAt kvs g = some (.ref t) ∧ T g = some ns ∧ (t, tupObj vs n) ∈ news ∧ IntsAre vs ns ∧ ns.length ≤ 4 ∧ ∀ x ∈ ns, 1 ≤ x ∧ x ≤ 5
/-- what has grown onto a ledger is new, and bears the pairs -/
def PairsN (own own' : List (Addr × Obj)) (kvs : List (Int × Value)) (T : Int → Option (List Int)) : Prop :=
  ∃ ext, own' = ext ++ own ∧ (∀ p ∈ ext, ∀ q ∈ own, @LT.lt Nat _ q.1 p.1) ∧ Pairs ext kvs T
def TabsN (prog : Program) (w : World) (own own' : List (Addr × Obj)) (tds : List Addr) (Ts : List (Int → Option (List Int))) : Prop :=
  ∃ ext, own' = ext ++ own ∧ (∀ p ∈ ext, ∀ q ∈ own, @LT.lt Nat _ q.1 p.1) ∧ All2 (TabIn prog w ext) tds Ts
def RowJ (prog : Program) (w : World) (P c td tl ce I : Addr) (otl oce oI : Obj) (n k : Nat) (pl : Int) (own : List (Addr × Obj)) (i : Nat) (m : Str → Option Value) (news : List (Addr × Obj)) : Prop :=
  ∃ oP oc own' o kvs T pl', m (Str.ofString "table") = some (.ref td) ∧ m (Str.ofString "tables") = some (.ref tl) ∧ news = (td, o) :: (tl, otl) :: (ce, oce) :: (P, oP) :: (c, oc) :: (I, oI) :: own' ∧ PotSt c oP oc n k pl' ∧ (pl ≤ pl' ∧ pl' ≤ pl + 6 * i) ∧
    Grown own own' ∧ o.IsDictOf (intKind prog w) kvs ∧ kvs.length ≤ i ∧ PairsN own own' kvs T ∧ OwnOff own' [td, tl, ce, P, c, I]
def TabsJ (prog : Program) (w : World) (P c tl ce : Addr) (oce : Obj) (n k : Nat) (pl : Int) (own : List (Addr × Obj)) (i : Nat) (m : Str → Option Value) (news : List (Addr × Obj)) : Prop :=
  ∃ oP oc own' tds Ts kk pl', m (Str.ofString "tables") = some (.ref tl) ∧ news = (tl, listOf (tds.map Value.ref).toArray kk) :: (ce, oce) :: (P, oP) :: (c, oc) :: own' ∧ PotSt c oP oc n k pl' ∧ (pl ≤ pl' ∧ pl' ≤ pl + 30 * i) ∧
    Grown own own' ∧ TabsN prog w own own' tds Ts ∧ tds.length = i ∧ OwnOff own' [tl, ce, P, c]
theorem led_td {h : Heap} {a1 a2 a3 a4 a5 a6 : Addr × Obj} {l : List (Addr × Obj)} (N : News h₀ L h (a1 :: a2 :: a3 :: a4 :: a5 :: a6 :: l)) : News h₀ L h (a1 :: a3 :: a4 :: a5 :: a6 :: a2 :: l) := fun p hp => N p (by
  simp only [List.mem_cons] at hp ⊢
  rcases hp with e | e | e | e | e | e | e
  · exact .inl e
  · exact .inr (.inr (.inl e))
  · exact .inr (.inr (.inr (.inl e)))
  · exact .inr (.inr (.inr (.inr (.inl e))))
  · exact .inr (.inr (.inr (.inr (.inr (.inl e)))))
  · exact .inr (.inl e)
  · exact .inr (.inr (.inr (.inr (.inr (.inr e))))))
theorem off_cons {l : List (Addr × Obj)} {a : Addr} {as : List Addr} (h : ∀ p ∈ l, @Ne Nat p.1 a) (h' : OwnOff l as) : OwnOff l (a :: as) := fun p hp b hb => by
  rcases List.mem_cons.mp hb with e | e
  · rw [e]; exact h p hp
  · exact h' p hp b e
theorem off_snoc {l : List (Addr × Obj)} {a : Addr} {as : List Addr} (h' : OwnOff l as) (h : ∀ p ∈ l, @Ne Nat p.1 a) : OwnOff l (as ++ [a]) := fun p hp b hb => by
  rcases List.mem_append.mp hb with e | e
  · exact h' p hp b e
  · rw [List.mem_singleton.mp e]; exact h p hp
theorem led_end1 {h : Heap} {a1 a2 a3 a4 a5 a6 : Addr × Obj} {l : List (Addr × Obj)} (N : News h₀ L h (a1 :: a2 :: a3 :: a4 :: a5 :: a6 :: l)) : News h₀ L h (a6 :: a2 :: a3 :: a4 :: a5 :: a1 :: l) := fun p hp => N p (by
  simp only [List.mem_cons] at hp ⊢
  rcases hp with e | e | e | e | e | e | e
  · exact .inr (.inr (.inr (.inr (.inr (.inl e)))))
  · exact .inr (.inl e)
  · exact .inr (.inr (.inl e))
  · exact .inr (.inr (.inr (.inl e)))
  · exact .inr (.inr (.inr (.inr (.inl e))))
  · exact .inl e
  · exact .inr (.inr (.inr (.inr (.inr (.inr e))))))
/-- addresses apart stay apart when objects change -/
theorem ne_heads {I : Addr} {a1 a2 a3 a4 a5 a6 : Addr} {o1 o2 o3 o4 o5 o6 o1' o2' o3' o4' o5' o6' : Obj} {l : List (Addr × Obj)} (h : ∀ p ∈ (a1, o1) :: (a2, o2) :: (a3, o3) :: (a4, o4) :: (a5, o5) :: (a6, o6) :: l, @Ne Nat p.1 I) :
    ∀ p ∈ (a1, o1') :: (a2, o2') :: (a3, o3') :: (a4, o4') :: (a5, o5') :: (a6, o6') :: l, @Ne Nat p.1 I := fun p hp => by
  simp only [List.mem_cons] at hp
  rcases hp with rfl | rfl | rfl | rfl | rfl | rfl | e
  · exact h (a1, o1) (by simp)
  · exact h (a2, o2) (by simp)
  · exact h (a3, o3) (by simp)
  · exact h (a4, o4) (by simp)
  · exact h (a5, o5) (by simp)
  · exact h (a6, o6) (by simp)
  · exact h p (by simp [e])
theorem Grown.trans {l l' l'' : List (Addr × Obj)} (h : Grown l l') (h' : Grown l' l'') : Grown l l'' := ⟨fun p hp => h'.1 p (h.1 p hp), fun p hp => by
  rcases h'.2 p hp with e | e
  · exact h.2 p e
  · exact .inr fun q hq => e q (h.1 q hq)⟩
theorem Grown.cons {l l' : List (Addr × Obj)} {q : Addr × Obj} (h : Grown l l') (hq : ∀ p ∈ l, @LT.lt Nat _ p.1 q.1) : Grown l (q :: l') := ⟨fun p hp => .tail _ (h.1 p hp), fun p hp => by
  rcases List.mem_cons.mp hp with e | e
  · exact .inr fun r hr => e ▸ hq r hr
  · exact h.2 p e⟩
theorem Grown.rfl' {l : List (Addr × Obj)} : Grown l l := ⟨fun _ h => h, fun _ h => .inl h⟩
theorem all2_imp {α β : Type} {R S : α → β → Prop} (h : ∀ x y, R x y → S x y) {l : List α} {l' : List β} (f : All2 R l l') : All2 S l l' := forall₂_imp h f
theorem all2_snoc {α β : Type} {R : α → β → Prop} {l : List α} {l' : List β} {x : α} {y : β} (f : All2 R l l') (h : R x y) : All2 R (l ++ [x]) (l' ++ [y]) := by
  induction f with
  | nil => exact .cons h .nil
  | cons h' _ ih => exact .cons h' ih
theorem Pairs.tab {news : List (Addr × Obj)} {kvs : List (Int × Value)} {T : Int → Option (List Int)} {td : Addr} {o : Obj} (h : Pairs news kvs T) (hlo : (td == sysModules) = false) (hm : (td, o) ∈ news) (hd : o.IsDictOf (intKind prog w) kvs) (hl : kvs.length ≤ 5) : TabIn prog w news td T :=
  ⟨hlo, o, kvs, hm, hd, by omega, h⟩
theorem Pairs.mono {news news' : List (Addr × Obj)} {kvs : List (Int × Value)} {T : Int → Option (List Int)} (h : Pairs news kvs T) (hs : ∀ p ∈ news, p ∈ news') : Pairs news' kvs T := fun g => by
  rcases h g with e | ⟨t, n, vs, ns, e1, e2, e3, e4⟩
  · exact .inl e
  · exact .inr ⟨t, n, vs, ns, e1, e2, hs _ e3, e4⟩
theorem off_head {l : List (Addr × Obj)} {q : Addr × Obj} {as : List Addr} (h : ∀ b ∈ as, @Ne Nat q.1 b) (h' : OwnOff l as) : OwnOff (q :: l) as := fun p hp b hb => by
  rcases List.mem_cons.mp hp with e | e
  · rw [e]; exact h b hb
  · exact h' p e b hb
theorem tabs_end {h' : Heap} {tk' : Nat} {P c td tl ce I : Addr} {o2 oce oI oP2 oc2 : Obj} {n k kk i : Nat} {pl pl2 : Int} {own own1 own2 : List (Addr × Obj)} {tds : List Addr} {Ts : List (Int → Option (List Int))} {T : Int → Option (List Int)} {kvs : List (Int × Value)} {m₂ : Str → Option Value}
    (F : Fr h₀ L h' m₂) (N : News h₀ L h' ((td, o2) :: (tl, listOf ((tds.map Value.ref).toArray.push (.ref td)) (kk + 1)) :: (ce, oce) :: (P, oP2) :: (c, oc2) :: (I, oI) :: own2))
    (hm : m₂ (Str.ofString "tables") = some (.ref tl)) (hp : PotSt c oP2 oc2 n k pl2) (hpl : pl ≤ pl2 ∧ pl2 ≤ pl + 30 * ((i + 1 : Nat) : Int)) (hgr : Grown own own1) (hall : TabsN prog w own own1 tds Ts) (hlen : tds.length = i) (hgr2 : Grown own1 own2)
    (hdk : o2.IsDictOf (intKind prog w) kvs) (hkl : kvs.length ≤ 5) (hprs : PairsN own1 own2 kvs T) (hoff2 : OwnOff own2 [td, tl, ce, P, c, I]) (hlo : (td == sysModules) = false)
    (ho1 : ∀ p ∈ own1, @LT.lt Nat _ p.1 td) (u1 : @LT.lt Nat _ I td) (u2 : @LT.lt Nat _ tl td) (u3 : @LT.lt Nat _ ce td) (u4 : @LT.lt Nat _ P td) (u5 : @LT.lt Nat _ c td) (k1 : Apart tl I) (k2 : Apart ce I) (k3 : Apart P I) (k4 : Apart c I) :
    LedEnd h₀ L (TabsJ prog w P c tl ce oce n k pl own (i + 1)) I oI s { s with heap := h', toks := tk' } := by
  have e : (tds.map Value.ref).toArray.push (.ref td) = ((tds ++ [td]).map Value.ref).toArray := by simp
  have hne : ∀ b ∈ [tl, ce, P, c], @Ne Nat td b := by
    intro b hb
    simp only [List.mem_cons, List.not_mem_nil, or_false] at hb
    rcases hb with rfl | rfl | rfl | rfl <;> omega
  refine LedEnd.intro ((tl, listOf ((tds ++ [td]).map Value.ref).toArray (kk + 1)) :: (ce, oce) :: (P, oP2) :: (c, oc2) :: (td, o2) :: own2) F (by rw [← e]; exact led_end1 N) ?_ ⟨oP2, oc2, (td, o2) :: own2, tds ++ [td], Ts ++ [T], kk + 1, pl2, hm, rfl, hp, hpl, (hgr.trans hgr2).cons ?_, ?_, by simp [hlen], off_head hne ?_⟩
  · intro p hp
    simp only [List.mem_cons] at hp
    rcases hp with rfl | rfl | rfl | rfl | rfl | e
    · exact k1
    · exact k2
    · exact k3
    · exact k4
    · show @Ne Nat td I; omega
    · exact hoff2 p e I (by simp)
  · intro p hp
    exact ho1 p (hgr.1 p hp)
  · obtain ⟨e1, rfl, n1, a1⟩ := hall
    obtain ⟨e2, rfl, n2, a2⟩ := hprs
    refine ⟨(td, o2) :: (e2 ++ e1), by simp, fun p hp q hq => ?_, all2_snoc (all2_imp (fun _ _ h => h.mono fun p hp => .tail _ (List.mem_append_right _ hp)) a1) ((a2.mono fun p hp => .tail _ (List.mem_append_left _ hp)).tab hlo (.head _) hdk hkl)⟩
    rcases List.mem_cons.mp hp with e | e
    · rw [e]; exact ho1 q (List.mem_append_right _ hq)
    · rcases List.mem_append.mp e with e | e
      · exact n2 p e q (List.mem_append_right _ hq)
      · exact n1 p e q hq
  · intro p hp b hb
    exact hoff2 p hp b (by simp only [List.mem_cons, List.not_mem_nil, or_false] at hb ⊢; rcases hb with rfl | rfl | rfl | rfl <;> simp)
/-- the choices of one glyph, as they are drawn -/
def CompJ (P c : Addr) (hdl : List (Addr × Obj)) (tll : List (Addr × Obj)) (n k : Nat) (pl : Int) (i : Nat) (ys : List Value) (news : List (Addr × Obj)) : Prop :=
  ∃ oP oc pl', news = hdl ++ ((P, oP) :: (c, oc) :: tll) ∧ PotSt c oP oc n k pl' ∧ (pl ≤ pl' ∧ pl' ≤ pl + i) ∧ ∃ zs, IntsAre ys zs ∧ zs.length = i ∧ ∀ z ∈ zs, 1 ≤ z ∧ z ≤ 5
theorem ints_snoc {vs : List Value} {ns : List Int} (h : IntsAre vs ns) (z : Int) (t : Tok) : IntsAre (vs ++ [.int z t]) (ns ++ [z]) := by
  induction h with
  | nil => exact .cons z t .nil
  | cons a u _ ih => exact .cons a u ih
theorem off3_at {I C D : Addr} {a : Addr} {o : Obj} {l : List (Addr × Obj)} (h : LCg.Off3 I C D ((a, o) :: l)) : Apart a I ∧ Apart a C ∧ Apart a D := h.1
theorem valueAt_stored (kvs : List (Int × Value)) (k g : Int) (v : Value) : valueAt (stored kvs k v) g = if g = k then some v else valueAt kvs g := by
  have h1 : ∀ l : List (Int × Value), l.any (fun kv => kv.1 = k) = true → valueAt (l.map fun kv => if kv.1 = k then (kv.1, v) else kv) g = if g = k then some v else valueAt l g := by
    intro l
    induction l with
    | nil => intro h; simp at h
    | cons kv r ih =>
      intro h
      by_cases hk : kv.1 = k
      · by_cases hg : g = k
        · subst hg; simp [valueAt, hk]
        · have hkg : ¬ kv.1 = g := fun e => hg (e.symm.trans hk)
          have hkg' : ¬ k = g := fun e => hg e.symm
          by_cases ha : r.any (fun kv => kv.1 = k) = true
          · have := ih ha
            rw [if_neg hg] at this ⊢
            simp only [valueAt, List.map_cons, List.find?_cons, if_pos hk, decide_eq_true_eq, hkg, decide_false] at this ⊢
            exact this
          · have : r.map (fun kv => if kv.1 = k then (kv.1, v) else kv) = r := by
              have h2 : ∀ kv ∈ r, ¬ kv.1 = k := fun kv hkv e => ha (List.any_eq_true.mpr ⟨kv, hkv, by simpa using e⟩)
              exact (List.map_congr_left fun kv hkv => if_neg (h2 kv hkv)).trans (List.map_id' r)
            simp only [valueAt, List.map_cons, List.find?_cons, if_pos hk, hkg, decide_false, this, if_neg hg]
      · have ha : r.any (fun kv => kv.1 = k) = true := by simpa [hk] using h
        have := ih ha
        by_cases hkg : kv.1 = g
        · have hg : ¬ g = k := fun e => hk (hkg.trans e)
          rw [if_neg hg]
          simp only [valueAt, List.map_cons, List.find?_cons, if_neg hk, if_neg hg, hkg, decide_true]
        · simp only [valueAt, List.map_cons, List.find?_cons, if_neg hk, hkg, decide_false] at this ⊢
          exact this
  unfold stored
  by_cases ha : kvs.any (fun kv => kv.1 = k) = true
  · rw [if_pos ha]; exact h1 kvs ha
  · rw [if_neg ha]
    have h2 : ∀ kv ∈ kvs, ¬ kv.1 = k := fun kv hkv e => ha (List.any_eq_true.mpr ⟨kv, hkv, by simpa using e⟩)
    by_cases hg : g = k
    · subst hg
      have h3 : kvs.find? (fun kv => decide (kv.1 = g)) = none := by
        rw [List.find?_eq_none]
        intro kv hkv
        simpa using h2 kv hkv
      simp [valueAt, List.find?_append, h3]
    · have hg' : ¬ k = g := fun e => hg e.symm
      simp [valueAt, List.find?_append, hg, hg']
theorem row_end {h' : Heap} {tk' : Nat} {P c td tl ce I I2 t D : Addr} {o' otl oce oI oI2 oD oP oc : Obj} {n k j : Nat} {gl pl pl2 : Int} {own1 own2 : List (Addr × Obj)} {T : Int → Option (List Int)} {kvs : List (Int × Value)} {ys : List Value} {zs : List Int} {m₂ : Str → Option Value}
    (F : Fr h₀ L h' m₂) (N : News h₀ L h' ((t, tupObj ys 0) :: (D, oD) :: (I2, oI2) :: (td, o') :: (tl, otl) :: (ce, oce) :: (P, oP) :: (c, oc) :: (I, oI) :: own2))
    (hm1 : m₂ (Str.ofString "table") = some (.ref td)) (hm2 : m₂ (Str.ofString "tables") = some (.ref tl)) (hp : PotSt c oP oc n k pl2) (hpl : pl ≤ pl2 ∧ pl2 ≤ pl + 6 * ((j + 1 : Nat) : Int)) (hgr2 : Grown own1 own2)
    (hd : o'.IsDictOf (intKind prog w) (stored kvs gl (.ref t))) (hkl : kvs.length ≤ j) (hprs : PairsN own1 own2 kvs T) (hoff2 : OwnOff own2 [td, tl, ce, P, c, I])
    (hi : IntsAre ys zs) (hz : zs.length ≤ 4) (hb : ∀ z ∈ zs, 1 ≤ z ∧ z ≤ 5) (hlt : D < t ∧ I2 < t ∧ td < t ∧ tl < t ∧ ce < t ∧ P < t ∧ c < t ∧ I < t ∧ AllLt t own2)
    (k1 : Apart td I2) (k2 : Apart tl I2) (k3 : Apart ce I2) (k4 : Apart P I2) (k5 : Apart c I2) (k6 : Apart I I2) (hne : ∀ p ∈ own2, @Ne Nat p.1 I2) :
    LedEnd h₀ L (RowJ prog w P c td tl ce I otl oce oI n k pl own1 (j + 1)) I2 oI2 s { s with heap := h', toks := tk' } := by
  obtain ⟨q1, q2, q3, q4, q5, q6, q7, q8, q9⟩ := hlt
  replace q2 : @LT.lt Nat _ I2 t := q2
  replace q3 : @LT.lt Nat _ td t := q3
  replace q4 : @LT.lt Nat _ tl t := q4
  replace q5 : @LT.lt Nat _ ce t := q5
  replace q6 : @LT.lt Nat _ P t := q6
  replace q7 : @LT.lt Nat _ c t := q7
  replace q8 : @LT.lt Nat _ I t := q8
  have q10 := ktn_ltOf q9
  have hst : ∀ b ∈ [td, tl, ce, P, c, I], @Ne Nat t b := by
    intro b hb
    simp only [List.mem_cons, List.not_mem_nil, or_false] at hb
    rcases hb with rfl | rfl | rfl | rfl | rfl | rfl <;> omega
  refine LedEnd.intro ((td, o') :: (tl, otl) :: (ce, oce) :: (P, oP) :: (c, oc) :: (I, oI) :: (t, tupObj ys 0) :: own2) F (fun p hp => N p ?_) ?_
    ⟨oP, oc, (t, tupObj ys 0) :: own2, o', stored kvs gl (.ref t), fun g => if g = gl then some zs else T g, pl2, hm1, hm2, rfl, hp, hpl, hgr2.cons ?_, hd, Nat.le_trans (stored_length_le _ _ _) (by omega), ?_, off_head hst hoff2⟩
  · simp only [List.mem_cons] at hp ⊢
    rcases hp with e | e | e | e | e | e | e | e | e <;> simp [e]
  · intro p hp
    simp only [List.mem_cons] at hp
    rcases hp with rfl | rfl | rfl | rfl | rfl | rfl | rfl | e
    · exact k1
    · exact k2
    · exact k3
    · exact k4
    · exact k5
    · exact k6
    · show @Ne Nat t I2; omega
    · exact hne p e
  · intro p hp
    exact q10 p (hgr2.1 p hp)
  · obtain ⟨e2, rfl, n2, a2⟩ := hprs
    refine ⟨(t, tupObj ys 0) :: e2, by simp, fun p hp q hq => ?_, fun g => ?_⟩
    · rcases List.mem_cons.mp hp with e | e
      · rw [e]; exact q10 q (List.mem_append_right _ hq)
      · exact n2 p e q hq
    · rw [valueAt_stored]
      by_cases hg : g = gl
      · rw [if_pos hg]
        dsimp only
        rw [if_pos hg]
        exact .inr ⟨t, 0, ys, zs, rfl, rfl, .head _, hi, hz, hb⟩
      · rw [if_neg hg]
        dsimp only
        rw [if_neg hg]
        exact (a2.mono fun p hp => .tail _ hp) g
theorem zs_snoc {zs : List Int} {z : Int} (h : ∀ z ∈ zs, 1 ≤ z ∧ z ≤ 5) (hz : 1 ≤ z ∧ z ≤ 5) : ∀ y ∈ zs ++ [z], 1 ≤ y ∧ y ≤ 5 := fun y hy => by
  rcases List.mem_append.mp hy with e | e
  · exact h y e
  · rw [List.mem_singleton.mp e]; exact hz
theorem off1_7 {D a1 a2 a3 a4 a5 a6 a7 : Addr} {o1 o2 o3 o4 o5 o6 o7 : Obj} {l : List (Addr × Obj)} (h : LCg.Off1 D ((a1, o1) :: (a2, o2) :: (a3, o3) :: (a4, o4) :: (a5, o5) :: (a6, o6) :: (a7, o7) :: l)) :
    Apart a1 D ∧ Apart a2 D ∧ Apart a3 D ∧ Apart a4 D ∧ Apart a5 D ∧ Apart a6 D ∧ Apart a7 D ∧ LCg.Off1 D l := ⟨h.1, h.2.1, h.2.2.1, h.2.2.2.1, h.2.2.2.2.1, h.2.2.2.2.2.1, h.2.2.2.2.2.2.1, h.2.2.2.2.2.2.2⟩
theorem tabs_led {h : Heap} {a1 a2 a3 a4 : Addr × Obj} {l : List (Addr × Obj)} (N : News h₀ L h (a1 :: a2 :: a3 :: a4 :: l)) : News h₀ L h (a3 :: a4 :: a1 :: l) := fun p hp => N p (by
  simp only [List.mem_cons] at hp ⊢
  rcases hp with e | e | e | e <;> simp [e])

end
/- Tables -/
section
local macro_rules | `(tactic| walk_at "eval Name") => `(tactic| (k_here; (with_reducible show wpAny _ _ (eval (Expr.Name (Str.ofString "pot") _) (envOfC _ _ _ _ _)) _ _ _); k_dflt (refine' nameX_C ?Nq20759 ?cq20759 ?mq20759 ?dq20759 ?_ ?aq20759 ?bq20759; (case aq20759 => rfl); (case bq20759 => rfl); (case Nq20759 => k_asm); (case cq20759 => rfl); (case mq20759 => k_mem); (case dq20759 => k_asm); k_whole)))
local macro_rules | `(tactic| walk_at "eval Name") => `(tactic| (k_here; (with_reducible show wpAny _ _ (eval (Expr.Name (Str.ofString "pot") _) (compEnvC _ _ _ _)) _ _ _); k_dflt (refine' lcf_cell ?Nq52020 ?cq52020 ?mq52020 ?dq52020 ?_ ?aq52020 ?bq52020; (case aq52020 => rfl); (case bq52020 => rfl); (case Nq52020 => k_asm); (case cq52020 => rfl); (case mq52020 => k_mem); (case dq52020 => k_asm); k_whole)))
theorem tables_call (C : Cx w p loose mean mg mb A₀ base h₀ outer cs) (F : Fr h₀ L s.heap m)
    {P c : Addr} {oP oc : Obj} {pl : Int} {n k : Nat} {own : List (Addr × Obj)}
    (N : News h₀ L s.heap ((P, oP) :: (c, oc) :: own)) (hp : PotSt c oP oc n k pl)
    (hPc : @Ne Nat P c) (hoff : OwnOff own [P, c]) (hpl : 0 ≤ pl ∧ pl < 800)
    (hd : dp + 20 < recursionLimit) (hu : un + 160 < cLine)
    (ret : ∀ tl tds Ts kk h' tk' oP' oc' pl' ext, Fr h₀ L h' m → News h₀ L h' ((P, oP') :: (c, oc') :: (ext ++ own)) → PotSt c oP' oc' n k pl' → (pl ≤ pl' ∧ pl' ≤ pl + 61) → (∀ p ∈ ext, ∀ q ∈ own, @LT.lt Nat _ q.1 p.1) → (tl, listOf (tds.map Value.ref).toArray kk) ∈ ext → All2 (TabIn prog w ext) tds Ts → (tds.length = 1 ∨ tds.length = 2) → OwnOff (ext ++ own) [P, c] →
      Q (.ref tl) { s with heap := h', toks := tk' }) :
    wpAny (model prog w) (ktrTop dp un gd cn cs L a ccd cl outer) (call (.ref 656) [.ref P]) Q E s := by
  obtain ⟨B, X, T', hk⟩ := C
  refine wpAny_call ?_
  k_dflt (refine' code_defC ?k1 ?k2 ?k3 ?k4 ?k5 ?kA ?kF ?kK ?k6 ?k7 ?k8 ?k9 ?kB ?kD ?_ ?c2 ?c3 ?c4; (case kA => exact rfl); (case kF => exact rfl); (case kK => assumption); (case k1 => k_asm); (case k2 => k_asm); (case k3 => k_asm); (case k4 => k_asm); (case k5 => k_asm); (case k6 => k_is); (case k7 => k_is); (case k8 => ktr_room); (case k9 => exact BindsTo.of_eq rfl); (case kB => exact rfl); (case kD => decide +kernel); (case c2 => exact rfl); (case c3 => exact rfl); (case c4 => exact rfl); k_whole; intro g' L' h' tk' cells' FG' F' N' Y' B' X' T' l1; (try k_lt l1); k_cells Y'; (try simp only [List.cons_append, List.nil_append] at N'); (try dsimp only); (try k_fold))
  k_with_none
  k_with "call ref" => ((with_reducible show wpAny _ _ (call (Value.ref 651) _) _ _ _); k_dflt (refine' draw_call3 (Cx.mk (by k_asm) (by k_asm) (by k_asm) rfl) (by k_asm) (by k_asm) (by assumption) (by k_updF) (by intro o; k_updF) (by assumption) (by omega) (by omega) (by omega) (by (first | omega | ((try simp only [depth_under_make, depth_under_kw, depth_in1, depth_deeper, depth_caller]); (try dsimp only [ktrTop]); omega) | ktr_room)) (by (first | omega | ((try simp only [units_in1, units_deeper, Around.mark_units, units_caller]); (try dsimp only [ktrTop]); omega) | ktr_units)) ?_); intro r9 t9 h9 tk9 oP9 oc9 F' N' p9 b9; (try dsimp only at N'); (try k_fold))
  k_with "pyIter ref" => (refine Hold.out ?_)
  k_steps
  unfold Hold
  rename IsRange _ _ _ _ _ _ _ _ => rg
  rename Fr _ _ _ _ => F1
  rename News _ _ _ _ => N1
  rename _ ∧ _ < (2 : Int) => hb
  rename PotSt _ _ _ _ _ _ => hp1
  rename _ ∧ _ ∧ _ ∧ AllLt _ _ => hlt
  have q1 := hlt.1
  have q2 := hlt.2.1
  have q3 := hlt.2.2.1
  have q4 := hlt.2.2.2
  clear hlt
  obtain ⟨q5, q6, q7⟩ := l1
  refine iter_rng (TabsJ prog w P c _ (L' + 1) _ n k (pl + 1) own) (by rfl) rg (small_one (by omega) (by omega) (by omega) (by omega)) (rangeSize_nat _ _) F1 N1 ⟨_, _, own, [], [], 0, _, rfl, rfl, hp1, ⟨Int.le_refl _, by omega⟩, ⟨fun _ h => h, fun _ h => .inl h⟩, ⟨[], rfl, (fun _ h => nomatch h), .nil⟩, rfl, ?off⟩ ?turn ?done
  case off =>
    have q4' := ktn_ltOf q4
    have q7' := ktn_ltOf q7
    refine off_cons (fun p hp => Nat.ne_of_lt (q4' p hp)) (off_cons (fun p hp => ?_) hoff)
    have q8 : @LT.lt Nat _ p.1 L' := q7' p hp
    omega
  case done =>
    intro m₁ news₁ h tk hJ1z
    refine ex7and8 hJ1z ?_
    intro oP1 oc1 own1 tds Ts kk pl1 hmt e2z hp2 hpl2 hgr hall hlen hoff1
    (try clear hJ1z)
    subst e2z
    intro F2 N2
    clear F1 N1
    k_steps
    have q4' := ktn_ltOf q4
    have e9 : @LT.lt Nat _ P _ := q2
    have e8 : @LT.lt Nat _ c _ := q3
    rename News _ _ _ _ => N9
    obtain ⟨ext1, rfl, hn1, ha1⟩ := hall
    refine ret _ tds Ts kk _ _ oP1 oc1 pl1 ((_, listOf (tds.map Value.ref).toArray kk) :: ext1) (by assumption) (tabs_led N9) hp2 ⟨by omega, by omega⟩ ?hnew (.head _) (all2_imp (fun _ _ h => h.mono fun p hp => .tail _ hp) ha1) (by omega) (off_head ?_ fun p hp b hb => hoff1 p hp b (.tail _ (.tail _ hb)))
    case hnew =>
      intro p hp q hq
      rcases List.mem_cons.mp hp with e | e
      · rw [e]; exact q4' q hq
      · exact hn1 p e q hq
    intro b hb
    simp only [List.mem_cons, List.not_mem_nil, or_false] at hb
    rcases hb with rfl | rfl <;> omega
  case turn =>
    intro i t m₁ news₁ h tk I oI hi hJ3z
    refine ex7and8 hJ3z ?_
    intro oP1 oc1 own1 tds Ts kk pl1 hmt e4z hp2 hpl2 hgr hall hlen hoff1
    (try clear hJ3z)
    subst e4z
    intro hne F2 N2
    clear F1 N1
    have hI1 : Apart _ I := hne _ (.head _)
    have hI2 : Apart _ I := hne _ (.tail _ (.head _))
    have hI3 : Apart _ I := hne _ (.tail _ (.tail _ (.head _)))
    have hI4 : Apart _ I := hne _ (.tail _ (.tail _ (.tail _ (.head _))))
    dsimp only at hI1 hI2 hI3 hI4
    k_steps
    unfold Hold
    rename IsRange _ _ _ _ _ _ _ _ => rg2
    rename Fr _ _ _ _ => F3
    rename News _ _ _ _ => N3
    rename Obj.IsDictOf (intKind _ _) _ _ => hdk
    rename (_ == sysModules) = false => hlo
    rename _ ∧ _ ∧ _ ∧ _ ∧ _ ∧ AllLt _ _ => hlt2
    have u1 := hlt2.1
    have u2 := hlt2.2.1
    have u3 := hlt2.2.2.1
    have u4 := hlt2.2.2.2.1
    have u5 := hlt2.2.2.2.2.1
    have u6 := hlt2.2.2.2.2.2
    clear hlt2
    have N4 := led_td N3
    clear N3
    refine iter_rng (RowJ prog w P c _ _ (L' + 1) I _ _ oI n k pl1 own1) (by rfl) rg2 (small_one (by omega) (by omega) (by omega) (by omega)) (rangeSize_nat _ _) F3 N4 ⟨_, _, own1, _, [], fun _ => none, _, rfl, hmt, rfl, hp2, ⟨Int.le_refl _, by omega⟩, ⟨fun _ h => h, fun _ h => .inl h⟩, hdk, Nat.le_refl _, ⟨[], rfl, (fun _ h => nomatch h), fun g => .inl ⟨rfl, rfl⟩⟩, ?off2⟩ ?turn2 ?done2
    case off2 =>
      have uu := ktn_ltOf u6
      exact off_cons (fun p hp => Nat.ne_of_lt (uu p hp)) (off_snoc hoff1 fun p hp => hne _ (.tail _ (.tail _ (.tail _ (.tail _ hp)))))
    case done2 =>
      intro m₂ news₂ h2 tk2 hJ5z
      refine ex7and10 hJ5z ?_
      intro oP2 oc2 own2 o2 kvs T pl2 hm1 hm2 e6z hp3 hpl3 hgr2 hdk2 hkl hprs hoff2
      (try clear hJ5z)
      subst e6z
      intro F5 N5
      clear F3 N4
      k_steps
      rename Fr _ _ _ _ => F9
      rename News _ _ _ _ => N9
      refine' tabs_end F9 N9 hm2 hp3 ?hb9 hgr hall hlen hgr2 hdk2 hkl hprs hoff2 hlo (ktn_ltOf u6) u1 u2 u3 u4 u5 hI1 hI2 hI3 hI4
      exact ⟨by omega, by omega⟩
    case turn2 =>
      intro j t2 m₂ news₂ h2 tk2 I2 oI2 hj hJ7z
      refine ex7and10 hJ7z ?_
      intro oP2 oc2 own2 o2 kvs T pl2 hm1 hm2 e8z hp3 hpl3 hgr2 hdk2 hkl hprs hoff2
      (try clear hJ7z)
      subst e8z
      intro hne2 F5 N5
      clear F3 N4
      have hK1 : Apart _ I2 := hne2 _ (.head _)
      have hK2 : Apart _ I2 := hne2 _ (.tail _ (.head _))
      have hK3 : Apart _ I2 := hne2 _ (.tail _ (.tail _ (.head _)))
      have hK4 : Apart _ I2 := hne2 _ (.tail _ (.tail _ (.tail _ (.head _))))
      have hK5 : Apart _ I2 := hne2 _ (.tail _ (.tail _ (.tail _ (.tail _ (.head _)))))
      have hK6 : Apart _ I2 := hne2 _ (.tail _ (.tail _ (.tail _ (.tail _ (.tail _ (.head _))))))
      dsimp only at hK1 hK2 hK3 hK4 hK5 hK6
      k_steps
      · unfold Hold
        rename IsRange _ _ _ _ _ _ _ _ => rg3
        rename Fr _ _ _ _ => F7
        rename News _ _ _ _ => N7
        rename PotSt _ _ _ _ _ _ => hp7
        rename _ ∧ _ < (5 : Int) => hb5
        refine LCg.CompSrc.range (by rfl) F7 N7 rg3 (small_one (by omega) (by omega) (by omega) (by omega)) (rangeSize_nat _ _) (by rw [sizeLine_eq]; omega) (fun g => comp_inv (CompJ P c [(I2, oI2), (_, o2), (_, _), (L' + 1, _)] ((I, oI) :: own2) n k (pl2 + 1 + 1)) ⟨_, _, _, rfl, hp7, ⟨by omega, by omega⟩, [], .nil, rfl, fun _ h => nomatch h⟩ ?cturn ?cfin)
        case cfin =>
          intro ys news₃ hJ9z
          refine ex3and4 hJ9z ?_
          intro oP3 oc3 pl3 e10z hp8 hpl8 hz9z
          (try clear hJ9z)
          subst e10z
          refine ex1and3 hz9z ?_
          intro zs hzi hzl hzb
          (try clear hz9z)
          intro D hD tkD FD ND offD
          clear F7 N7
          simp only [List.cons_append, List.nil_append] at ND offD
          have hyl : ys.length ≤ 1000 := by rw [hzi.length]; omega
          obtain ⟨z1, z2, z3, z4, z5, z6, z7, z8⟩ := off1_7 offD
          dsimp only
          k_steps
          rename Fr _ _ _ _ => F9
          rename News _ _ _ _ => N9
          rename Obj.IsDictOf (intKind _ _) _ (stored _ _ _) => hd9
          rename _ ∧ _ ∧ _ ∧ _ ∧ _ ∧ _ ∧ _ ∧ _ ∧ AllLt _ _ => hl9
          exact row_end F9 N9 hm1 hm2 hp8 ⟨by omega, by omega⟩ hgr2 hd9 hkl hprs hoff2 hzi (by omega) hzb hl9 hK1 hK2 hK3 hK4 hK5 hK6 (fun p hp => hne2 p (.tail _ (.tail _ (.tail _ (.tail _ (.tail _ (.tail _ hp)))))))
        case cturn =>
          intro ci cv ys news₃ Ic oIc Cc oCc Dc mc hc tkc Ec hci hcv hJ11z
          refine ex3and4 hJ11z ?_
          intro oP3 oc3 pl3 e12z hp8 hpl8 hz9z
          (try clear hJ11z)
          subst e12z
          refine ex1and3 hz9z ?_
          intro zs hzi hzl hzb
          (try clear hz9z)
          intro hC hx Fc Nc off hJ13z
          have ne1 := hJ13z.1
          have ne2 := hJ13z.2.1
          have ne3 := hJ13z.2.2
          clear hJ13z
          clear F7 N7
          simp only [List.cons_append, List.nil_append] at Nc off
          have w1 := off3_at off
          have w2 := off3_at off.2
          have w3 := off3_at off.2.2
          have w4 := off3_at off.2.2.2
          have w5 := off3_at off.2.2.2.2
          have w6 := off3_at off.2.2.2.2.2
          have w7 := off3_at off.2.2.2.2.2.2
          have w8 := off.2.2.2.2.2.2.2
          have w11 := w1.1
          have w12 := w1.2.1
          have w13 := w1.2.2
          clear w1
          have w21 := w2.1
          have w22 := w2.2.1
          have w23 := w2.2.2
          clear w2
          have w31 := w3.1
          have w32 := w3.2.1
          have w33 := w3.2.2
          clear w3
          have w41 := w4.1
          have w42 := w4.2.1
          have w43 := w4.2.2
          clear w4
          have w51 := w5.1
          have w52 := w5.2.1
          have w53 := w5.2.2
          clear w5
          have w61 := w6.1
          have w62 := w6.2.1
          have w63 := w6.2.2
          clear w6
          have w71 := w7.1
          have w72 := w7.2.1
          have w73 := w7.2.2
          clear w7
          replace ne1 := Apart.of ne1
          replace ne2 := Apart.of ne2
          replace ne3 := Apart.of ne3
          k_steps
          unfold Hold
          rename Fr _ _ _ _ => F9
          rename News _ _ _ _ => N9
          rename PotSt _ _ _ _ _ _ => hp9
          rename _ ∧ _ < (5 : Int) => hb9
          exact LCg.CompEnd.intro F9 N9 _ (fun p hp => hp) off trivial ⟨_, _, _, rfl, hp9, ⟨by omega, by omega⟩, _, ints_snoc hzi _ _, by simp [hzl], zs_snoc hzb ⟨by omega, by omega⟩⟩
      · rename Fr _ _ _ _ => F9
        rename News _ _ _ _ => N9
        rename PotSt _ _ _ _ _ _ => hp9
        refine LedEnd.intro _ F9 N9 ?_ ⟨_, _, own2, o2, kvs, T, pl2 + 1, hm1, hm2, rfl, hp9, ⟨by omega, by omega⟩, hgr2, hdk2, by omega, hprs, hoff2⟩
        exact ne_heads hne2

end
/- Pot -/
section
/-- ints made turn by turn -/
def IntsJ (news₀ : List (Addr × Obj)) (P : Int → Prop) (i : Nat) (ys : List Value) (news : List (Addr × Obj)) : Prop :=
  news = news₀ ∧ ∃ zs, IntsAre ys zs ∧ zs.length = i ∧ ∀ z ∈ zs, P z
theorem IntsJ.next {news₀ : List (Addr × Obj)} {P : Int → Prop} {i : Nat} {ys : List Value} {zs : List Int} {z : Int} {t : Tok} (h : IntsAre ys zs) (hl : zs.length = i) (hp : ∀ z ∈ zs, P z) (hz : P z) : IntsJ news₀ P (i + 1) (ys ++ [.int z t]) news₀ :=
  ⟨rfl, zs ++ [z], ints_snoc h z t, by simp [hl], fun y hy => by
    rcases List.mem_append.mp hy with e | e
    · exact hp y e
    · rw [List.mem_singleton.mp e]; exact hz⟩
theorem ints_item {vs : List Value} {ns : List Int} (hi : IntsAre vs ns) {i : Nat} {v : Value} (h : vs[i]? = some v) : ∃ z t, v = .int z t ∧ z ∈ ns := by
  induction hi generalizing i with
  | nil => simp at h
  | cons n t _ ih =>
    cases i with
    | zero => exact ⟨n, t, by simpa using h.symm, .head _⟩
    | succ i =>
      obtain ⟨z, u, e, hz⟩ := ih (by simpa using h)
      exact ⟨z, u, e, .tail _ hz⟩
def StateJ (cD : Addr) (news₀ : List (Addr × Obj)) (_i : Nat) (m : Str → Option Value) (news : List (Addr × Obj)) : Prop :=
  news = news₀ ∧ m (Str.ofString "cells") = some (.ref cD) ∧ ∃ st t, m (Str.ofString "state") = some (.int st t) ∧ 0 ≤ st ∧ st < 2147483647
theorem off1_mem {D : Addr} : ∀ {l : List (Addr × Obj)}, LCg.Off1 D l → ∀ p ∈ l, @Ne Nat p.1 D
  | [], _, _, h => nomatch h
  | _ :: _, x, p, h => by
    rcases List.mem_cons.mp h with rfl | h
    · exact x.1
    · exact off1_mem x.2 p h
theorem pot_led {h : Heap} {a1 a2 a3 a4 : Addr × Obj} {l : List (Addr × Obj)} (N : News h₀ L h (a1 :: a2 :: a3 :: a4 :: l)) : News h₀ L h (a1 :: a2 :: l) := fun p hp => N p (by
  simp only [List.mem_cons] at hp ⊢
  rcases hp with e | e | e <;> simp [e])
theorem pot_call (C : Cx w p loose mean mg mb A₀ base h₀ outer cs) (F : Fr h₀ L s.heap m)
    {sl : Addr} {vs : List Value} {ns : List Int} {own : List (Addr × Obj)}
    (N : News h₀ L s.heap own) (hs : base.IsList sl vs.toArray) (hi : IntsAre vs ns) (hlen : ns.length ≤ 63)
    (hd : dp + 20 < recursionLimit) (hu : un + 160 < cLine)
    (ret : ∀ P c oP oc n k h' tk', Fr h₀ L h' m → News h₀ L h' ((P, oP) :: (c, oc) :: own) → PotSt c oP oc n k 0 → @Ne Nat P c → OwnOff own [P, c] → Q (.ref P) { s with heap := h', toks := tk' }) :
    wpAny (model prog w) (ktrTop dp un gd cn cs L a ccd cl outer) (call (.ref 644) [.ref sl]) Q E s := by
  obtain ⟨B, X, T', hk⟩ := C
  refine wpAny_call ?_
  k_dflt cell_enter
  k_with "pyIter ref" => (refine Hold.out ?_)
  k_steps
  unfold Hold
  rename Fr _ _ _ _ => F1
  rename News _ _ _ _ => N1
  rename IntsAre _ (List.take 40 ns) => hI
  have hl40 : (List.take 40 ns).length ≤ 40 := by rw [List.length_take]; omega
  refine LCg.CompSrc.ledger (by rfl) F1 N1 (.head _) (by rw [List.size_toArray, hI.length, sizeLine_eq]; omega) (fun g => comp_inv (IntsJ _ fun _ => True) ⟨rfl, [], .nil, rfl, fun _ h => nomatch h⟩ ?turn1 ?fin1)
  case turn1 =>
    rintro ci cv ys news₃ Ic oIc Cc oCc Dc mc hc tkc Ec hci hcv ⟨rfl, zs, hzi, hzl, hzb⟩ hC hx Fc Nc off ⟨ne1, ne2, ne3⟩
    clear F1 N1
    obtain ⟨z, tz, rfl, hz⟩ := ints_item hI (by simpa using hcv)
    replace ne1 := Apart.of ne1
    replace ne2 := Apart.of ne2
    replace ne3 := Apart.of ne3
    k_steps
    unfold Hold
    exact LCg.CompEnd.intro Fc Nc _ (fun p hp => hp) off (.inr ⟨_, .head _, rfl, _, rfl⟩) (IntsJ.next hzi hzl hzb trivial)
  case fin1 =>
    rintro ys news₃ ⟨rfl, zs, hzi, hzl, hzb⟩
    intro D hD tkD FD ND offD
    clear F1 N1
    dsimp only
    k_steps
    unfold Hold
    rename Fr _ _ _ _ => F2
    rename News _ _ _ _ => N2
    have hyl : ys.length ≤ 40 := by rw [hzi.length, hzl, List.size_toArray, hI.length]; exact hl40
    refine iter_led (vs := ys) (n := ys.length) (StateJ D _) (by rfl) F2 N2 ⟨rfl, rfl, 1, _, rfl, by decide, by decide⟩ ?hJl ?turn2 ?done2
    case hJl => rintro i m₁ news₁ ⟨rfl, _⟩; exact .head _
    case turn2 =>
      rintro i v m₁ news₁ h tk I oI hv ⟨rfl, hmc, st, ts, hms, hs1, hs2⟩ hne F3 N3
      clear F2 N2
      obtain ⟨z, tz, rfl, hz⟩ := ints_item hzi hv
      k_steps
      rename Fr _ _ _ _ => F9
      rename News _ _ _ _ => N9
      refine LedEnd.intro _ F9 N9 hne ⟨rfl, hmc, _, _, rfl, ?_⟩
      exact fmod_bounds (by decide)
    case done2 =>
      rintro m₁ news₁ h tk ⟨rfl, hmc, st, ts, hms, hs1, hs2⟩ F3 N3
      clear F2 N2
      k_steps
      unfold Hold
      rename Fr _ _ _ _ => F4
      rename News _ _ _ _ => N4
      refine LCg.CompSrc.ledger (by rfl) F4 N4 (.head _) (by rw [List.size_toArray, sizeLine_eq]; omega) (fun g => comp_inv (IntsJ _ fun z => 0 ≤ z) ⟨rfl, [], .nil, rfl, fun _ h => nomatch h⟩ ?turn3 ?fin3)
      case turn3 =>
        rintro ci cv ys3 news₃ Ic oIc Cc oCc Dc mc hc tkc Ec hci hcv ⟨rfl, zs3, hzi3, hzl3, hzb3⟩ hC hx Fc Nc off ⟨ne1, ne2, ne3⟩
        clear F4 N4
        obtain ⟨z, tz, rfl, hz⟩ := ints_item hzi (by simpa using hcv)
        replace ne1 := Apart.of ne1
        replace ne2 := Apart.of ne2
        replace ne3 := Apart.of ne3
        k_steps
        unfold Hold
        rename Fr _ _ _ _ => F9
        rename News _ _ _ _ => N9
        refine LCg.CompEnd.intro F9 N9 _ (fun p hp => hp) off (.inr ⟨_, .head _, rfl, _, rfl⟩) (IntsJ.next hzi3 hzl3 hzb3 ?_)
        exact (fmod_bounds (by decide)).1
      case fin3 =>
        rintro ys3 news₃ ⟨rfl, zs3, hzi3, hzl3, hzb3⟩
        intro D3 hD3 tkD3 FD3 ND3 offD3
        clear F4 N4
        dsimp only
        k_steps
        rename _ ∧ _ ∧ _ ∧ AllLt _ _ => hl9
        obtain ⟨q1, q2, q3, q4⟩ := hl9
        rename News h₀ _ _ _ => N9
        refine ret _ _ _ _ _ _ _ _ (by assumption) (pot_led N9) ⟨⟨ys3, zs3, st, _, _, rfl, rfl, hzi3, hzb3, by rw [hzl3, List.size_toArray]; exact hyl, hs1, hs2⟩⟩ (fun e => Nat.ne_of_lt q1 e.symm) (off_cons (fun p hp => Nat.ne_of_lt (ktn_ltOf q4 p hp)) (off_cons (fun p hp => off1_mem offD3.2.2 p hp) fun p hp b hb => nomatch hb))

end
/- Number -/
section
theorem numb_val {mk : Int} (h : 0 ≤ mk) (sh wd : Nat) : (mk.fdiv (2 ^ sh)).fmod (2 ^ wd) = numb mk sh wd := by
  unfold numb
  have h1 : (0 : Int) < 2 ^ sh := Int.pow_pos (by decide)
  have h2 : (0 : Int) < 2 ^ wd := Int.pow_pos (by decide)
  rw [Int.fdiv_eq_ediv_of_nonneg _ (Int.le_of_lt h1), Int.fmod_eq_emod_of_nonneg _ (Int.le_of_lt h2)]
theorem number_call (C : Cx w p loose mean mg mb A₀ base h₀ outer cs) (F : Fr h₀ L s.heap m)
    {mv : Int} {sh wd : Nat} {t1 t2 t3 : Tok} {news : List (Addr × Obj)}
    (N : News h₀ L s.heap news) (hm : 0 ≤ mv ∧ mv < 256) (hs : sh ≤ 5) (hw : 1 ≤ wd ∧ wd ≤ 3)
    (hd : dp + 10 < recursionLimit) (hu : un + 80 < cLine)
    (ret : ∀ t h' tk', Fr h₀ L h' m → News h₀ L h' news → Q (.int (numb mv sh wd) t) { s with heap := h', toks := tk' }) :
    wpAny (model prog w) (ktrTop dp un gd cn cs L a ccd cl outer) (call (.ref 663) [.int mv t1, .int (sh : Int) t2, .int (wd : Int) t3]) Q E s := by
  obtain ⟨B, X, T', hk⟩ := C
  refine wpAny_call ?_
  k_dflt ktr_enter
  k_steps
  exact ret_eq ret (numb_val hm.1 sh wd) (by assumption) (by assumption)

end
/- AloneMid -/
section
theorem ne_kind {h : Heap} {news : List (Addr × Obj)} {x y : Addr} {o o' : Obj} (N : News h₀ L h news) (hx : (x, o) ∈ news) (hy : (y, o') ∈ news) (hne : o ≠ o') : x ≠ y := fun e => by
  have h1 := (N _ hx).1
  have h2 := (N _ hy).1
  dsimp only at h1 h2
  rw [e, h2] at h1
  exact hne (Option.some.inj h1).symm
theorem alt_call2 (C : Cx w p loose mean mg mb A₀ base h₀ outer cs) (F : Fr h₀ L s.heap m)
    {x dx rl b db sc ds al da M : Addr} {es eb esc ea : List DictEntry} {n k nb nsc na sh wd : Nat} {vsr : List Value} {news : List (Addr × Obj)} {f : Obj → List (Addr × Obj)} {at' g mk cv : Int} {ta tb : Tok} {T : Int → Option (List Int)} {oM : Obj} {kvs : List (Int × Value)}
    (N : News h₀ L s.heap news) (U : UpdF dx (dictOf es n) news f) (hI : InfoEs es g mk cv)
    (mx : (x, instObj 52 dx) ∈ news) (mrl : (rl, listOf vsr.toArray k) ∈ news) (hat : vsr[at'.toNat]? = some (.ref x)) (h0 : 0 ≤ at') (h1 : at' < 1000)
    (mb' : (b, instObj 103 db) ∈ news) (mdb : (db, dictOf eb nb) ∈ news) (hrow : getL (Str.ofString "row") eb = some (some (.ref rl)))
    (msc : (sc, instObj 293 ds) ∈ news) (mds : (ds, dictOf esc nsc) ∈ news) (hbuf : getL (Str.ofString "buffer") esc = some (some (.ref b))) (hmask : getL (Str.ofString "mask") esc = some (some (.int (bitsOf sh wd) tb)))
    (mal : (al, instObj 170 da) ∈ news) (mda : (da, dictOf ea na) ∈ news) (hmap : getL (Str.ofString "mapping") ea = some (some (.ref M)))
    (lo : (M == sysModules) = false) (mM : (M, oM) ∈ news) (hdk : oM.IsDictOf (intKind prog w) kvs) (hkl : kvs.length ≤ 100) (hprs : Pairs news kvs T)
    (d1 : @Ne Nat db dx) (d2 : @Ne Nat ds dx) (d3 : @Ne Nat da dx) (d4 : @Ne Nat M dx)
    (hm : 0 ≤ mk ∧ mk < 256) (hs : sh ≤ 5) (hw : 1 ≤ wd ∧ wd ≤ 3)
    (hd : dp + 20 < recursionLimit) (hu : un + 160 < cLine)
    (ret1 : altOf T g (numb mk sh wd) = none → ∀ t h' tk', Fr h₀ L h' m → News h₀ L h' news → Q (.int (-1) t) { s with heap := h', toks := tk' })
    (ret2 : ∀ x', altOf T g (numb mk sh wd) = some x' → ∀ t h' tk' es' n', Fr h₀ L h' m → News h₀ L h' (f (dictOf es' n')) → InfoEs es' x' mk cv → Q (.int (at' + 1) t) { s with heap := h', toks := tk' }) :
    wpAny (model prog w) (ktrTop dp un gd cn cs L a ccd cl outer) (call (.ref 202) [.ref sc, .ref al, .int at' ta]) Q E s := by
  have mdx := updF_mem U
  let own := news.filter fun p => !(decide (p.1 = dx))
  have ho : ∀ {p}, p ∈ own ↔ p ∈ news ∧ p.1 ≠ dx := by
    intro p
    simp only [own, List.mem_filter, Bool.not_eq_true', decide_eq_false_iff_not]
  refine alt_call C F (n := n) (T := T) (own := own) (fun p hp => ?_) (fun p hp b hb => ?_) hI (ho.mpr ⟨mx, ne_kind N mx mdx (by simp)⟩) (ho.mpr ⟨mrl, ne_kind N mrl mdx (by simp)⟩) hat h0 h1 (ho.mpr ⟨mb', ne_kind N mb' mdx (by simp)⟩) (ho.mpr ⟨mdb, d1⟩) hrow (ho.mpr ⟨msc, ne_kind N msc mdx (by simp)⟩) (ho.mpr ⟨mds, d2⟩) hbuf hmask
    (ho.mpr ⟨mal, ne_kind N mal mdx (by simp)⟩) (ho.mpr ⟨mda, d3⟩) hmap ⟨lo, oM, kvs, ho.mpr ⟨mM, d4⟩, hdk, hkl, fun g => ?_⟩ hm hs hw hd hu ?_ ?_
  · rcases List.mem_cons.mp hp with e | e
    · exact N p (e ▸ mdx)
    · exact N p (ho.mp e).1
  · exact (List.mem_singleton.mp hb) ▸ (ho.mp hp).2
  · rcases hprs g with e | ⟨t, n, vs, ns, e1, e2, e3, e4⟩
    · exact .inl e
    · exact .inr ⟨t, n, vs, ns, e1, e2, ho.mpr ⟨e3, ne_kind N e3 mdx (by simp)⟩, e4⟩
  · intro e t h' tk' F' N'
    refine ret1 e t h' tk' F' fun p hp => ?_
    by_cases hq : p.1 = dx
    · have h2 := (N _ mdx).1
      have h3 := (N p hp).1
      rw [hq] at h3
      dsimp only at h2
      rw [h2] at h3
      have e4 : p = (dx, dictOf es n) := Prod.ext hq (Option.some.inj h3).symm
      rw [e4]; exact N' _ (.head _)
    · exact N' p (.tail _ (ho.mpr ⟨hp, hq⟩))
  · intro x' e t h' tk' es' n' F' N' hI'
    refine ret2 x' e t h' tk' es' n' F' (fun p hp => N' p ?_) hI'
    rcases updF_new U p hp with e | ⟨e, hq⟩
    · exact e ▸ .head _
    · exact .tail _ (ho.mpr ⟨e, hq⟩)
theorem numb_bounds (mv : Int) (sh wd : Nat) : 0 ≤ numb mv sh wd := Int.emod_nonneg _ (Int.ne_of_gt (Int.pow_pos (by decide)))
/-- what apply_alternate tells alone, and what it makes of the glyph -/
def AloneR (T : Int → Option (List Int)) (g nb v g' : Int) : Prop := (altOf T g nb = none ∧ v = -1 ∧ g' = g) ∨ ∃ x', altOf T g nb = some x' ∧ v = 1 ∧ g' = x'
theorem alone_mid (C : Cx w p loose mean mg mb A₀ base h₀ outer cs) (F : Fr h₀ L s.heap m)
    {x dx rl b db sc ds al da M : Addr} {es eb esc ea : List DictEntry} {n k nb nsc na sh wd : Nat} {vsr : List Value} {news own : List (Addr × Obj)} {f : Obj → List (Addr × Obj)} {g mk cv : Int} {ta tb : Tok} {T : Int → Option (List Int)} {oM : Obj} {kvs : List (Int × Value)}
    (N : News h₀ L s.heap news) (U : UpdF dx (dictOf es n) news f) (hI : InfoEs es g mk cv)
    (mx : (x, instObj 52 dx) ∈ news) (mrl : (rl, listOf vsr.toArray k) ∈ news) (hat : vsr[(0 : Int).toNat]? = some (.ref x))
    (mb' : (b, instObj 103 db) ∈ news) (mdb : (db, dictOf eb nb) ∈ news) (hrow : getL (Str.ofString "row") eb = some (some (.ref rl)))
    (msc : (sc, instObj 293 ds) ∈ news) (mds : (ds, dictOf esc nsc) ∈ news) (hbuf : getL (Str.ofString "buffer") esc = some (some (.ref b))) (hmask : getL (Str.ofString "mask") esc = some (some (.int (bitsOf sh wd) tb)))
    (mal : (al, instObj 170 da) ∈ news) (mda : (da, dictOf ea na) ∈ news) (hmap : getL (Str.ofString "mapping") ea = some (some (.ref M)))
    (lo : (M == sysModules) = false) (mM : (M, oM) ∈ news) (hdk : oM.IsDictOf (intKind prog w) kvs) (hkl : kvs.length ≤ 100) (hprs : Pairs news kvs T)
    (d1 : @Ne Nat db dx) (d2 : @Ne Nat ds dx) (d3 : @Ne Nat da dx) (d4 : @Ne Nat M dx) (hown : ∀ p ∈ own, p ∈ news ∧ @Ne Nat p.1 dx)
    (hm : 0 ≤ mk ∧ mk < 256) (hs : sh ≤ 5) (hw : 1 ≤ wd ∧ wd ≤ 3)
    (hd : dp + 20 < recursionLimit) (hu : un + 160 < cLine)
    (ret : ∀ v g' t h' tk' es' n', AloneR T g (numb mk sh wd) v g' → Fr h₀ L h' m → News h₀ L h' ((x, instObj 52 dx) :: (dx, dictOf es' n') :: own) → InfoEs es' g' mk cv → Q (.int v t) { s with heap := h', toks := tk' }) :
    wpAny (model prog w) (ktrTop dp un gd cn cs L a ccd cl outer) (call (.ref 202) [.ref sc, .ref al, .int 0 ta]) Q E s := by
  have mdx := updF_mem U
  refine alt_call2 C F (T := T) N U hI mx mrl hat (by decide) (by decide) mb' mdb hrow msc mds hbuf hmask mal mda hmap lo mM hdk hkl hprs d1 d2 d3 d4 hm hs hw hd hu ?_ ?_
  · intro e t h' tk' F' N'
    refine ret (-1) g t h' tk' es n (.inl ⟨e, rfl, rfl⟩) F' (fun p hp => ?_) hI
    rcases List.mem_cons.mp hp with e | e
    · exact N' p (e ▸ mx)
    · rcases List.mem_cons.mp e with e | e
      · exact N' p (e ▸ mdx)
      · exact N' p (hown p e).1
  · intro x' e t h' tk' es' n' F' N' hI'
    have keep : ∀ p, p ∈ news → @Ne Nat p.1 dx → p ∈ f (dictOf es' n') := fun p hp hq => by
      obtain ⟨pre, post, e1, e2, e3⟩ := U.split
      rw [e1] at hp
      rw [e2]
      rcases List.mem_append.mp hp with h | h
      · exact List.mem_append_left _ h
      · rcases List.mem_cons.mp h with h | h
        · exact absurd (congrArg Prod.fst h) hq
        · exact List.mem_append_right _ (.tail _ h)
    refine ret 1 x' t h' tk' es' n' (.inr ⟨x', e, rfl, rfl⟩) F' (fun p hp => ?_) hI'
    rcases List.mem_cons.mp hp with e | e
    · exact N' p (e ▸ keep _ mx (ne_kind N mx mdx (by simp)))
    · rcases List.mem_cons.mp e with e | e
      · obtain ⟨pre, post, e1, e2, e3⟩ := U.split
        refine N' p ?_
        rw [e2, e]
        exact List.mem_append_right _ (.head _)
      · exact N' p (keep _ (hown p e).1 (hown p e).2)

end
/- Alone -/
section
structure Box (P : Prop) : Prop where
  out : P
theorem hide_info {h : Heap} {a b : Addr × Obj} {dx : Addr} {es : List DictEntry} {n : Nat} {l : List (Addr × Obj)} {g mv cl : Int} (N : News h₀ L h (a :: b :: (dx, dictOf es n) :: l)) (I : InfoEs es g mv cl) :
    ∃ es', InfoEs es' g mv cl ∧ News h₀ L h (a :: b :: (dx, dictOf es' n) :: l) := ⟨es, I, N⟩
theorem drop_led {h : Heap} {x dx : Addr} {es : List DictEntry} {n : Nat} {news own : List (Addr × Obj)} (N : News h₀ L h news) (m1 : (dx, dictOf es n) ∈ news) (m2 : (x, instObj 52 dx) ∈ news) (mo : ∀ p ∈ own, p ∈ news) : News h₀ L h ((dx, dictOf es n) :: (x, instObj 52 dx) :: own) := fun p hp => by
  rcases List.mem_cons.mp hp with e | e
  · exact N p (e ▸ m1)
  · rcases List.mem_cons.mp e with e | e
    · exact N p (e ▸ m2)
    · exact N p (mo p e)
theorem alone_call (C : Cx w p loose mean mg mb A₀ base h₀ outer cs) (F : Fr h₀ L s.heap m)
    {ra td : Addr} {g mv cv : Int} {tg tm tc t2 t3 : Tok} {n sh wd : Nat} {own : List (Addr × Obj)} {T : Int → Option (List Int)}
    (N : News h₀ L s.heap own) (mra : (ra, listOf #[.int g tg, .int mv tm, .int cv tc] n) ∈ own) (hT : TabIn prog w own td T)
    (hm : 0 ≤ mv ∧ mv < 256) (hs : sh ≤ 5) (hw : 1 ≤ wd ∧ wd ≤ 3)
    (hd : dp + 40 < recursionLimit) (hu : un + 320 < cLine)
    (ret : ∀ h' tk', Fr h₀ L h' m → News h₀ L h' own → Q (.bool true) { s with heap := h', toks := tk' }) :
    wpAny (model prog w) (ktrTop dp un gd cn cs L a ccd cl outer) (call (.ref 675) [.ref ra, .ref td, .int (sh : Int) t2, .int (wd : Int) t3]) Q E s := by
  obtain ⟨B, X, T', hk⟩ := C
  obtain ⟨lo, o, kvs, mM, hdk, hkl, hall⟩ := hT
  refine wpAny_call ?_
  k_dflt ktr_enter
  k_with_none
  k_with "call ref" => ((with_reducible show wpAny _ _ (call (Value.ref 663) _) _ _ _); k_dflt (refine' number_call (Cx.mk (by k_asm) (by k_asm) (by k_asm) rfl) (by k_asm) (by k_asm) (by assumption) (by assumption) (by assumption) (by (first | omega | ((try simp only [depth_under_make, depth_under_kw, depth_in1, depth_deeper, depth_caller]); (try dsimp only [ktrTop]); omega) | ktr_room)) (by (first | omega | ((try simp only [units_in1, units_deeper, Around.mark_units, units_caller]); (try dsimp only [ktrTop]); omega) | ktr_units)) ?_); intro t9 h9 tk9 F' N'; (try k_fold))
  k_with "call ref" => ((first | (with_reducible show wpAny _ _ (call (Value.ref 202) _) _ _ _) | (with_reducible show wpAny _ _ (call (Value.ref 103) _) _ _ _)); refine Hold.out ?_)
  k_steps
  unfold Hold
  rename News _ _ _ _ => N5
  refine ex1and2 (hide_info (g := g) (mv := mv) (cl := 0) N5 ⟨⟨_, by k_get⟩, ⟨_, by k_get⟩, ⟨_, by k_get⟩, Nat.le_of_ble_eq_true rfl⟩) ?_
  intro es5 I5 N6
  clear N5
  k_with_none
  k_with "call ref" => ((with_reducible show wpAny _ _ (call (Value.ref 663) _) _ _ _); k_dflt (refine' number_call (Cx.mk (by k_asm) (by k_asm) (by k_asm) rfl) (by k_asm) (by k_asm) (by assumption) (by assumption) (by assumption) (by (first | omega | ((try simp only [depth_under_make, depth_under_kw, depth_in1, depth_deeper, depth_caller]); (try dsimp only [ktrTop]); omega) | ktr_room)) (by (first | omega | ((try simp only [units_in1, units_deeper, Around.mark_units, units_caller]); (try dsimp only [ktrTop]); omega) | ktr_units)) ?_); intro t9 h9 tk9 F' N'; (try k_fold))
  k_with "call ref" => ((with_reducible show wpAny _ _ (call (Value.ref 202) _) _ _ _); refine Hold.out ?_)
  k_steps
  unfold Hold
  rename ∀ p ∈ own, p.1 < _ => hlo
  k_dflt (refine' alone_mid (T := T) (sh := sh) (wd := wd) (g := g) (mk := mv) (cv := 0) (own := own) (Cx.mk ?B ?X ?T ?K) ?F ?N ?U ?I ?mx ?mrl ?hat ?mb ?mdb ?hrow ?msc ?mds ?hbuf ?hmask ?mal ?mda ?hmap ?lo ?mM ?hdk ?hkl ?hprs ?d1 ?d2 ?d3 ?d4 ?hown hm hs hw ?hd ?hu ?r1)
  case B => k_asm
  case X => k_asm
  case T => k_asm
  case K => rfl
  case F => k_asm
  case N => k_asm
  case msc => k_mem
  case mds => k_mem
  case hbuf => k_get
  case hmask => k_get
  case mb => k_mem
  case mdb => k_mem
  case hrow => k_get
  case mrl => k_mem
  case hat => exact rfl
  case mx => k_mem
  case U => first | k_updF | fail "U"
  case I => first | exact I5 | exact ⟨⟨_, by k_get⟩, ⟨_, by k_get⟩, ⟨_, by k_get⟩, Nat.le_of_ble_eq_true rfl⟩
  case mal => k_mem
  case mda => k_mem
  case hmap => k_get
  case mM => k_mem
  case hdk => assumption
  case lo => assumption
  case hkl => exact hkl
  case hprs => exact Pairs.mono hall (by intro p hp; repeat (first | exact hp | apply List.Mem.tail))
  case d1 => first | k_ne | fail "d1"
  case d2 => first | k_ne | fail "d2"
  case d3 => first | k_ne | fail "d3"
  case d4 => first | k_ne | fail "d4"
  case hown => exact fun p hp => ⟨by repeat (first | exact hp | apply List.Mem.tail), Nat.ne_of_lt (hlo p hp)⟩
  case hd => (first | omega | ((try simp only [depth_under_make, depth_under_kw, depth_in1, depth_deeper, depth_caller]); (try dsimp only [ktrTop]); omega) | ktr_room)
  case hu => (first | omega | ((try simp only [units_in1, units_deeper, Around.mark_units, units_caller]); (try dsimp only [ktrTop]); omega) | ktr_units)
  case r1 =>
    intro v9 g9 t9 h9 tk9 es9 n9 hR9 F9 N9 i9
    repeat (rename Flow → Shared → Prop => zz; clear zz)
    repeat (rename Value → Shared → Prop => zz; clear zz)
    have N2 := Box.mk N9
    have F2 := Box.mk F9
    have hmH := Box.mk hm
    have hwH := Box.mk hw
    have hdH := Box.mk hd
    have huH := Box.mk hu
    rename Fr h₀ L _ m => FG9
    have GG := Box.mk FG9
    rename Below (ktrTop dp un gd cn cs L a ccd cl outer) _ _ _ => B9
    rename Frag.In _ _ => X9
    rename Top _ _ _ _ _ _ => T9
    have BB := Box.mk B9
    have XX := Box.mk X9
    have TT := Box.mk T9
    repeat (rename Below _ _ _ _ => zz; clear zz)
    repeat (rename Frag.In _ _ => zz; clear zz)
    repeat (rename Top _ _ _ _ _ _ => zz; clear zz)
    repeat (rename News _ _ _ _ => zz; clear zz)
    repeat (rename Fr _ _ _ _ => zz; clear zz)
    repeat (rename _ ∧ _ => zz; clear zz)
    repeat (rename @LT.lt Nat _ _ _ => zz; clear zz)
    repeat (rename @LT.lt Addr _ _ _ => zz; clear zz)
    have B9 := BB.out
    have X9 := XX.out
    have T9 := TT.out
    have G9 := GG.out
    clear BB XX TT GG
    have N3 := drop_led (es := es9) (n := n9) (own := own) N2.out (by k_mem) (by k_mem) (by intro p hp; repeat (first | exact hp | apply List.Mem.tail))
    have F3 := F2.out
    clear N2 F2
    have hm := hmH.out
    have hw := hwH.out
    have hd := hdH.out
    have hu := huH.out
    clear hmH hwH hdH huH
    obtain ⟨tg9, hg9⟩ := i9.glyph
    have hnb := numb_bounds mv sh wd
    unfold AloneR altOf at hR9
    rcases hall g with ⟨hv, hTg⟩ | ⟨t, nt, vs, ns, hv, hTg, mt, hi, hl4, hbd⟩
    · rw [hTg] at hR9
      have hR : v9 = -1 ∧ g9 = g := by
        rcases hR9 with ⟨_, h⟩ | ⟨x', h, _⟩
        · exact h
        · cases h
      clear hR9
      obtain ⟨rfl, rfl⟩ := hR
      k_steps
      all_goals exact leaveK_ (by assumption) (by assumption) fun kF kN => by show Q (Value.bool true) _; exact ret _ _ kF (fun p hp => kN p (by repeat (first | exact hp | apply List.Mem.tail)))
    · rw [hTg] at hR9
      by_cases hin : 1 ≤ numb mv sh wd ∧ numb mv sh wd ≤ ns.length
      · have hR : v9 = 1 ∧ g9 = ns.getD (numb mv sh wd - 1).toNat 0 := by
          rcases hR9 with ⟨h, _⟩ | ⟨x', h, h1, h2⟩
          · dsimp only at h; rw [if_pos hin] at h; cases h
          · dsimp only at h; rw [if_pos hin] at h; exact ⟨h1, h2.trans (Option.some.inj h).symm⟩
        clear hR9
        obtain ⟨rfl, rfl⟩ := hR
        obtain ⟨hin1, hin2⟩ := hin
        k_steps
        all_goals first | omega | skip
        all_goals exact leaveK_ (by assumption) (by assumption) fun kF kN => by show Q (Value.bool true) _; exact ret _ _ kF (fun p hp => kN p (by repeat (first | exact hp | apply List.Mem.tail)))
      · have hR : v9 = -1 ∧ g9 = g := by
          rcases hR9 with ⟨_, h⟩ | ⟨x', h, _⟩
          · exact h
          · dsimp only at h; rw [if_neg hin] at h; cases h
        clear hR9
        obtain ⟨rfl, rfl⟩ := hR
        have hnn : numb mv sh wd = 0 ∨ (ns.length : Int) < numb mv sh wd := by omega
        clear hin
        rcases hnn with hnn | hnn
        · k_steps
          all_goals exact leaveK_ (by assumption) (by assumption) fun kF kN => by show Q (Value.bool true) _; exact ret _ _ kF (fun p hp => kN p (by repeat (first | exact hp | apply List.Mem.tail)))
        · k_steps
          all_goals exact leaveK_ (by assumption) (by assumption) fun kF kN => by show Q (Value.bool true) _; exact ret _ _ kF (fun p hp => kN p (by repeat (first | exact hp | apply List.Mem.tail)))

end
/- Run -/
section
structure Row where
  a : Addr
  g : Int
  mv : Int
  cl : Int
  tg : Tok
  tm : Tok
  tc : Tok
  n : Nat
abbrev Row.ent (r : Row) : Addr × Obj := (r.a, listOf #[.int r.g r.tg, .int r.mv r.tm, .int r.cl r.tc] r.n)
structure RowStep (S : Int → Int → Int × Bool) (r q : Row) : Prop where
  a : q.a = r.a
  mv : q.mv = r.mv
  cl : q.cl = r.cl
  g : q.g = (S r.g r.mv).1
def cntR (S : Int → Int → Int × Bool) (l : List Row) : Int := (l.countP fun a => (S a.g a.mv).2 : Nat)
theorem rowstep_some {S : Int → Int → Int × Bool} {r : Row} {x : Int} {t : Tok} (hS : S r.g r.mv = (x, true)) : RowStep S r ⟨r.a, x, r.mv, r.cl, t, r.tm, r.tc, r.n⟩ :=
  ⟨rfl, rfl, rfl, by rw [hS]⟩
theorem rowstep_none {S : Int → Int → Int × Bool} {r : Row} (hS : S r.g r.mv = (r.g, false)) : RowStep S r r :=
  ⟨rfl, rfl, rfl, by rw [hS]⟩
theorem cntR_snoc_true {S : Int → Int → Int × Bool} {l : List Row} {a : Row} (h : (S a.g a.mv).2 = true) : cntR S (l ++ [a]) = cntR S l + 1 := by
  simp [cntR, List.countP_append, h]
theorem cntR_snoc_false {S : Int → Int → Int × Bool} {l : List Row} {a : Row} (h : (S a.g a.mv).2 = false) : cntR S (l ++ [a]) = cntR S l := by
  simp [cntR, List.countP_append, h]
/-- the invariant of _law_run's loop -/
def RunJ (S : Int → Int → Int × Bool) (rws : List Row) (own : List (Addr × Obj)) (c1 c2 tl : Addr) (sh wd : Nat) (pb : Bool) (t2 t3 : Tok) (i : Nat) (m : Str → Option Value) (news : List (Addr × Obj)) : Prop :=
  ∃ pre dn rest o1 o2, rws = pre ++ rest ∧ All2 (RowStep S) pre dn ∧ i = pre.length ∧ news = (c1, o1) :: (c2, o2) :: (dn.map Row.ent ++ (rest.map Row.ent ++ own)) ∧ (∃ v, o1.data = .cell v) ∧ (∃ v, o2.data = .cell v) ∧
    m (Str.ofString "tables") = some (.ref tl) ∧ m (Str.ofString "shift") = some (.int (sh : Int) t2) ∧ m (Str.ofString "width") = some (.int (wd : Int) t3) ∧ m (Str.ofString "is_passing") = some (.bool pb) ∧ ∃ t, m (Str.ofString "count") = some (.int (cntR S pre) t)
theorem row_off {S : Int → Int → Int × Bool} {pre dn rest : List Row} {b : Row} {own : List (Addr × Obj)} (ha : All2 (RowStep S) pre dn) (hnd : ((pre ++ b :: rest).map Row.a).Nodup) (hoff : OwnOff own ((pre ++ b :: rest).map Row.a)) :
    OwnOff (dn.map Row.ent ++ (rest.map Row.ent ++ own)) [b.a] := by
  intro p hp c hc
  rw [List.mem_singleton.mp hc]
  simp only [List.map_append, List.map_cons] at hnd hoff
  have hnd' := List.nodup_append.mp hnd
  rcases List.mem_append.mp hp with h | h
  · obtain ⟨d, hd, rfl⟩ := List.mem_map.mp h
    obtain ⟨x, hx, hr⟩ := ha.mem_right hd
    rw [show d.ent.1 = d.a from rfl, hr.a]
    exact hnd'.2.2 _ (List.mem_map_of_mem hx) _ (.head _)
  · rcases List.mem_append.mp h with h | h
    · obtain ⟨d, hd, rfl⟩ := List.mem_map.mp h
      intro e
      exact (List.nodup_cons.mp hnd'.2.1).1 (e ▸ List.mem_map_of_mem hd)
    · exact hoff p h _ (List.mem_append_right _ (.head _))
theorem row_split {h : Heap} {pre rest : List Row} {b : Row} {own : List (Addr × Obj)} {x y z : Addr × Obj} (N : News h₀ L h (z :: x :: y :: (pre.map Row.ent ++ ((b :: rest).map Row.ent ++ own)))) :
    News h₀ L h ((b.a, listOf #[.int b.g b.tg, .int b.mv b.tm, .int b.cl b.tc] b.n) :: x :: y :: z :: (pre.map Row.ent ++ (rest.map Row.ent ++ own))) := fun p hp => N p (by
  simp only [List.mem_cons, List.mem_append, List.map_cons] at hp ⊢
  rcases hp with e | e | e | e | e | e | e
  · exact .inr (.inr (.inr (.inr (.inl (.inl e)))))
  · exact .inr (.inl e)
  · exact .inr (.inr (.inl e))
  · exact .inl e
  · exact .inr (.inr (.inr (.inl e)))
  · exact .inr (.inr (.inr (.inr (.inl (.inr e)))))
  · exact .inr (.inr (.inr (.inr (.inr e)))))
theorem run_end {S : Int → Int → Int × Bool} {rws pre dn rest : List Row} {own own4 : List (Addr × Obj)} {b r : Row} {c1 c2 tl I : Addr} {o1 o2 oI : Obj} {sh wd : Nat} {pb : Bool} {t2 t3 tc : Tok} {h' : Heap} {tk' : Nat} {m₂ : Str → Option Value} {v1 v2 : Option Value} {news : List (Addr × Obj)}
    (hcut : rws = pre ++ r :: rest) (hst : All2 (RowStep S) pre dn) (hb : RowStep S r b) (F : Fr h₀ L h' m₂) (N : News h₀ L h' news) (hsub : ∀ p ∈ (b.a, listOf #[.int b.g b.tg, .int b.mv b.tm, .int b.cl b.tc] b.n) :: (c1, o1) :: (c2, o2) :: own4, p ∈ news) (hown4 : own4 = (I, oI) :: (dn.map Row.ent ++ (rest.map Row.ent ++ own)))
    (d1 : o1.data = .cell v1) (d2 : o2.data = .cell v2) (hne : ∀ p ∈ (dn.map Row.ent ++ ((r :: rest).map Row.ent ++ own)), @Ne Nat p.1 I) (hc1 : @Ne Nat c1 I) (hc2 : @Ne Nat c2 I)
    (m1 : m₂ (Str.ofString "tables") = some (.ref tl)) (m2 : m₂ (Str.ofString "shift") = some (.int (sh : Int) t2)) (m3 : m₂ (Str.ofString "width") = some (.int (wd : Int) t3)) (m4 : m₂ (Str.ofString "is_passing") = some (.bool pb)) (m5 : m₂ (Str.ofString "count") = some (.int (cntR S (pre ++ [r])) tc)) :
    LedEnd h₀ L (RunJ S rws own c1 c2 tl sh wd pb t2 t3 (pre.length + 1)) I oI s { s with heap := h', toks := tk' } := by
  subst hown4
  refine LedEnd.intro ((c1, o1) :: (c2, o2) :: ((dn ++ [b]).map Row.ent ++ (rest.map Row.ent ++ own))) F (fun p hp => N p (hsub p ?_)) ?_ ⟨pre ++ [r], dn ++ [b], rest, o1, o2, by simp [hcut], hst.snoc hb, by simp, rfl, ⟨_, d1⟩, ⟨_, d2⟩, m1, m2, m3, m4, tc, m5⟩
  · simp only [List.mem_cons, List.mem_append, List.map_append, List.map_cons, List.map_nil, List.not_mem_nil, or_false] at hp ⊢
    rcases hp with e | e | e | (e | e) | e | e
    · exact .inr (.inr (.inr (.inl e)))
    · exact .inr (.inl e)
    · exact .inr (.inr (.inl e))
    · exact .inr (.inr (.inr (.inr (.inl e))))
    · exact .inl e
    · exact .inr (.inr (.inr (.inr (.inr (.inl e)))))
    · exact .inr (.inr (.inr (.inr (.inr (.inr e)))))
  · intro p hp
    simp only [List.mem_cons, List.mem_append, List.map_append, List.map_cons, List.map_nil, List.not_mem_nil, or_false] at hp
    rcases hp with e | e | (e | e) | e | e
    · rw [e]; exact hc1
    · rw [e]; exact hc2
    · exact hne p (List.mem_append_left _ e)
    · rw [e]
      show @Ne Nat b.a I
      rw [hb.a]
      exact hne r.ent (List.mem_append_right _ (.head _))
    · exact hne p (List.mem_append_right _ (List.mem_append_left _ (.tail _ e)))
    · exact hne p (List.mem_append_right _ (List.mem_append_right _ e))
theorem off4 {a b c : Addr} {l : List (Addr × Obj)} (h1 : ∀ p ∈ l, @Ne Nat p.1 a) (h2 : ∀ p ∈ l, @Ne Nat p.1 b) (h3 : ∀ p ∈ l, @Ne Nat p.1 c) : OwnOff l [a, b, c] := off_cons h1 (off_cons h2 (off_cons h3 fun p _ b hb => nomatch hb))
theorem numb_bounds2 (mv : Int) (sh wd : Nat) : 0 ≤ numb mv sh wd := Int.emod_nonneg _ (Int.ne_of_gt (Int.pow_pos (by decide)))
theorem All2.get' {α β : Type} {R : α → β → Prop} {l : List α} {l' : List β} (f : All2 R l l') : ∀ {i : Nat} {x : α}, l[i]? = some x → ∃ y, l'[i]? = some y ∧ R x y := by
  induction f with
  | nil => intro i x h; simp at h
  | cons h _ ih =>
    intro i x hv
    cases i with
    | zero => exact ⟨_, rfl, by have := Option.some.inj hv; subst this; exact h⟩
    | succ i => exact ih (by simpa using hv)
/-- what the comprehension has found, after i tables -/
def FoundJ (news₀ : List (Addr × Obj)) (Ts : List (Int → Option (List Int))) (g nb : Int) (i : Nat) (ys : List Value) (news : List (Addr × Obj)) : Prop :=
  news = news₀ ∧ IntsAre ys ((Ts.take i).filterMap fun T => altOf T g nb)
theorem found_none {Ts : List (Int → Option (List Int))} {g nb : Int} {i : Nat} {ys : List Value} {T : Int → Option (List Int)} {news : List (Addr × Obj)} (hTi : Ts[i]? = some T) (h : IntsAre ys ((Ts.take i).filterMap fun T => altOf T g nb)) (e : altOf T g nb = none) :
    FoundJ news Ts g nb (i + 1) ys news := ⟨rfl, by
  rw [List.take_add_one, hTi, List.filterMap_append]
  simpa [e] using h⟩
theorem found_some {Ts : List (Int → Option (List Int))} {g nb x : Int} {t : Tok} {i : Nat} {ys : List Value} {T : Int → Option (List Int)} {news : List (Addr × Obj)} (hTi : Ts[i]? = some T) (h : IntsAre ys ((Ts.take i).filterMap fun T => altOf T g nb)) (e : altOf T g nb = some x) :
    FoundJ news Ts g nb (i + 1) (ys ++ [.int x t]) news := ⟨rfl, by
  rw [List.take_add_one, hTi, List.filterMap_append]
  have e2 : List.filterMap (fun T => altOf T g nb) [T] = [x] := by simp [e]
  show IntsAre _ (_ ++ List.filterMap (fun T => altOf T g nb) (some T).toList)
  rw [show (some T).toList = [T] from rfl, e2]
  exact ints_snoc h x t⟩
theorem altOf_none {T : Int → Option (List Int)} {g nb : Int} (h : T g = none) : altOf T g nb = none := by unfold altOf; rw [h]
theorem altOf_out {T : Int → Option (List Int)} {g nb : Int} {ns : List Int} (h : T g = some ns) (h2 : ¬ nb ≤ ns.length) : altOf T g nb = none := by unfold altOf; rw [h]; exact if_neg fun e => h2 e.2
theorem altOf_in {T : Int → Option (List Int)} {g nb : Int} {ns : List Int} (h : T g = some ns) (h1 : 1 ≤ nb) (h2 : nb ≤ ns.length) : altOf T g nb = some (ns.getD (nb - 1).toNat 0) := by unfold altOf; rw [h]; exact if_pos ⟨h1, h2⟩
theorem head_getD {zs : List Int} (h : 0 < zs.length) : zs.head? = some (zs.getD (Int.toNat 0) 0) := by
  cases zs with
  | nil => cases h
  | cons z r => rfl
theorem firstAlt_head {Ts : List (Int → Option (List Int))} {g nb : Int} : firstAlt Ts g nb = (Ts.filterMap fun T => altOf T g nb).head? := by
  unfold firstAlt
  rw [List.head?_filterMap]
local macro_rules | `(tactic| walk_at "subscriptTail Name Constant ref int") => `(tactic| (k_here; (with_reducible show wpAny _ _ (subscriptTail _ _ (Value.ref _) (Value.int _ _)) _ _ _); k_dflt (refine' item_at ?Nq11016 ?mq11016 ?aq11016 ?bq11016 ?xq11016 ?_; (case Nq11016 => k_asm); (case mq11016 => k_mem); (case xq11016 => exact rfl); (case aq11016 => omega); (case bq11016 => omega); k_whole)))
local macro_rules | `(tactic| walk_at "subscriptTail") => `(tactic| (k_here; (with_reducible show wpAny _ _ (subscriptTail _ _ (Value.ref _) (Value.int _ _)) _ _ _); k_dflt (first
  | (refine' tup_item ?Nq51754 ?mq51754 ?iq51754 ?aq51754 ?bq51754 ?cq51754 ?_; (case iq51754 => assumption); (case Nq51754 => k_asm); (case mq51754 => k_mem); (case aq51754 => omega); (case bq51754 => omega); (case cq51754 => omega); k_whole; intro _)
  | (refine' kda_item (knd := PySem.intKind _ _) ?Nq51754 ?mq51754 ?dq51754 (intKind_is _ _ _ _) ?vq51754 ?_; (case Nq51754 => k_asm); (case mq51754 => k_mem); (case dq51754 => assumption); (case vq51754 => assumption); k_whole))))
local macro_rules | `(tactic| walk_at "eval Name") => `(tactic| (k_here; (first | (with_reducible show wpAny _ _ (eval (Expr.Name (Str.ofString "row") _) (envOfC _ _ _ _ _)) _ _ _) | (with_reducible show wpAny _ _ (eval (Expr.Name (Str.ofString "number") _) (envOfC _ _ _ _ _)) _ _ _)); k_dflt (refine' nameX_C ?Nq34728 ?cq34728 ?mq34728 ?dq34728 ?_ ?aq34728 ?bq34728; (case aq34728 => rfl); (case bq34728 => rfl); (case Nq34728 => k_asm); (case cq34728 => rfl); (case mq34728 => k_mem); (case dq34728 => k_asm); k_whole)))
local macro_rules | `(tactic| walk_at "eval Name") => `(tactic| (k_here; (first | (with_reducible show wpAny _ _ (eval (Expr.Name (Str.ofString "row") _) (compEnvC _ _ _ _)) _ _ _) | (with_reducible show wpAny _ _ (eval (Expr.Name (Str.ofString "number") _) (compEnvC _ _ _ _)) _ _ _)); k_dflt (refine' lcf_cell ?Nq59657 ?cq59657 ?mq59657 ?dq59657 ?_ ?aq59657 ?bq59657; (case aq59657 => rfl); (case bq59657 => rfl); (case Nq59657 => k_asm); (case cq59657 => rfl); (case mq59657 => k_mem); (case dq59657 => k_asm); k_whole)))
local macro_rules | `(tactic| walk_at "CompSrcT") => `(tactic| (refine Hold.out ?_))
theorem run_call (C : Cx w p loose mean mg mb A₀ base h₀ outer cs) (F : Fr h₀ L s.heap m)
    {rwl tl : Addr} {rws : List Row} {kr kt : Nat} {tds : List Addr} {t2 t3 : Tok} {sh wd : Nat} {own : List (Addr × Obj)} {fl : Int} {pb : Bool} {Ts : List (Int → Option (List Int))}
    (N : News h₀ L s.heap (rws.map Row.ent ++ own)) (hnd : (rws.map Row.a).Nodup) (hoff : OwnOff own (rws.map Row.a)) (hok : ∀ r ∈ rws, 0 ≤ r.mv ∧ r.mv < 256) (hlen : rws.length ≤ 100)
    (mrl : (rwl, listOf (rws.map fun r => Value.ref r.a).toArray kr) ∈ own) (mtl : (tl, listOf (tds.map Value.ref).toArray kt) ∈ own) (hT : All2 (TabIn prog w own) tds Ts) (hTl : tds.length = 1 ∨ tds.length = 2)
    (hs : sh ≤ 5) (hw : 1 ≤ wd ∧ wd ≤ 3) (hfl : fl = if pb then 8 else 0)
    (hd : dp + 20 < recursionLimit) (hu : un + 160 < cLine)
    (ret : ∀ t h' tk' rws', All2 (RowStep (stepG Ts fl sh wd)) rws rws' → Fr h₀ L h' m → News h₀ L h' (rws'.map Row.ent ++ own) → Q (.int (cntR (stepG Ts fl sh wd) rws) t) { s with heap := h', toks := tk' }) :
    wpAny (model prog w) (ktrTop dp un gd cn cs L a ccd cl outer) (call (.ref 668) [.ref rwl, .ref tl, .int (sh : Int) t2, .int (wd : Int) t3, .bool pb]) Q E s := by
  obtain ⟨B, X, T', hk⟩ := C
  refine wpAny_call ?_
  k_dflt (refine' code_defC ?k1 ?k2 ?k3 ?k4 ?k5 ?kA ?kF ?kK ?k6 ?k7 ?k8 ?k9 ?kB ?kD ?_ ?c2 ?c3 ?c4; (case kA => exact rfl); (case kF => exact rfl); (case kK => assumption); (case k1 => k_asm); (case k2 => k_asm); (case k3 => k_asm); (case k4 => k_asm); (case k5 => k_asm); (case k6 => k_is); (case k7 => k_is); (case k8 => ktr_room); (case k9 => exact BindsTo.of_eq rfl); (case kB => exact rfl); (case kD => decide +kernel); (case c2 => exact rfl); (case c3 => exact rfl); (case c4 => exact rfl); k_whole; intro g' L' h' tk' cells' FG' F' N' Y' B' X' T' l1; (try k_lt l1); k_cells Y'; (try simp only [List.cons_append, List.nil_append] at N'); (try dsimp only); (try k_fold))
  k_with_none
  k_with "call ref" => ((with_reducible show wpAny _ _ (call (Value.ref 663) _) _ _ _); k_dflt (refine' number_call (Cx.mk (by k_asm) (by k_asm) (by k_asm) rfl) (by k_asm) (by k_asm) (by assumption) (by assumption) (by assumption) (by (first | omega | ((try simp only [depth_under_make, depth_under_kw, depth_in1, depth_deeper, depth_caller]); (try dsimp only [ktrTop]); omega) | ktr_room)) (by (first | omega | ((try simp only [units_in1, units_deeper, Around.mark_units, units_caller]); (try dsimp only [ktrTop]); omega) | ktr_units)) ?_); intro t9 h9 tk9 F' N'; (try k_fold))
  k_with "exec For Name Name cons nil" => (k_here; (rename Fr _ _ _ _ => lF'); (with_unfolding_all refine' For_turns lF' ?_; k_whole))
  k_with "pyIter ref" => (refine Hold.out ?_)
  k_steps
  unfold Hold
  rename_i ob1 ob2 d1 d2 h9 N1 tk9
  have d1' : ∃ v, ob1.data = .cell v := ⟨_, d1⟩
  have d2' : ∃ v, ob2.data = .cell v := ⟨_, d2⟩
  clear d1 d2
  rename Fr _ L' _ _ => F1
  refine iter_ledT (vs := rws.map fun r => Value.ref r.a) (n := kr) (RunJ (stepG Ts fl sh wd) rws own (L' + 1 + 1) (L' + 1) tl sh wd pb t2 t3) (by rfl) F1 N1 ⟨[], [], rws, ob1, ob2, rfl, .nil, rfl, rfl, d1', d2', rfl, rfl, rfl, rfl, _, rfl⟩ ?hJl ?turn ?done
  case hJl =>
    rintro i m₁ news₁ ⟨pre, dn, rest, o1, o2, _, _, _, rfl, _⟩
    exact .tail _ (.tail _ (List.mem_append_right _ (List.mem_append_right _ mrl)))
  case done =>
    intro m₁ news₁ h tk hJ9
    refine ex5and11 hJ9 ?_
    intro pre dn rest o1 o2 hcut hst hil e9 u1 u2 u3 u4 u5 u6 hc9
    (try clear hJ9)
    subst e9
    refine ex1and1 hc9 ?_
    intro tc hmc
    (try clear hc9)
    clear u1 u2 u3 u4 u5 u6
    intro F2 N2
    clear F1 N1
    have hr : rest = [] := by
      have := congrArg List.length hcut
      rw [List.length_append, ← hil, List.length_map] at this
      exact List.length_eq_zero_iff.mp (by omega)
    subst hr
    rw [List.append_nil] at hcut
    subst hcut
    k_steps
    exact ret _ _ _ dn hst (by assumption) (news_tail (news_tail (by assumption)))
  case turn =>
    intro i v m₁ news₁ h tk I oI hv hJ9
    refine ex5and11 hJ9 ?_
    intro pre dn rest o1 o2 hcut hst e8 e9 hv1 hv2 hm1 hm2 hm3 hm4 hc9
    (try clear hJ9)
    subst e8
    subst e9
    refine ex1and1 hv1 ?_
    intro v1 d1
    (try clear hv1)
    refine ex1and1 hv2 ?_
    intro v2 d2
    (try clear hv2)
    refine ex1and1 hc9 ?_
    intro tc hmc
    (try clear hc9)
    intro hne F2 N2
    clear F1 N1
    cases rest with
    | nil =>
      exfalso
      rw [hcut, List.append_nil, List.getElem?_eq_none (by simp)] at hv
      cases hv
    | cons r rest =>
    have hrm : r ∈ rws := by rw [hcut]; exact List.mem_append_right _ (.head _)
    have hmv := hok r hrm
    have hvr : v = .ref r.a := by
      rw [hcut] at hv
      simpa using hv.symm
    subst hvr
    have N3 := row_split N2
    clear N2
    obtain ⟨own4, hown4⟩ : ∃ o4, o4 = (I, oI) :: (dn.map Row.ent ++ (rest.map Row.ent ++ own)) := ⟨_, rfl⟩
    rw [← hown4] at N3
    have l1' : ∀ p ∈ rws.map Row.ent ++ own, @LT.lt Nat _ p.1 L' := l1
    have hra : @LT.lt Nat _ r.a L' := l1' r.ent (List.mem_append_left _ (List.mem_map_of_mem hrm))
    have hI1 : @Ne Nat (L' + 1 + 1) I := hne _ (.head _)
    have hI2 : @Ne Nat (L' + 1) I := hne _ (.tail _ (.head _))
    have hI3 : @Ne Nat r.a I := hne r.ent (.tail _ (.tail _ (List.mem_append_right _ (.head _))))
    have hne4 : ∀ p ∈ dn.map Row.ent ++ ((r :: rest).map Row.ent ++ own), @Ne Nat p.1 I := fun p hp => hne p (.tail _ (.tail _ hp))
    have hlow : ∀ p ∈ dn.map Row.ent ++ (rest.map Row.ent ++ own), @LT.lt Nat _ p.1 L' := fun p hp => by
      rcases List.mem_append.mp hp with e | e
      · obtain ⟨d, hd, rfl⟩ := List.mem_map.mp e
        obtain ⟨x, hx, hr⟩ := hst.mem_right hd
        rw [show d.ent.1 = d.a from rfl, hr.a]
        exact l1' x.ent (List.mem_append_left _ (List.mem_map_of_mem (by rw [hcut]; exact List.mem_append_left _ hx)))
      · rcases List.mem_append.mp e with e | e
        · obtain ⟨d, hd, rfl⟩ := List.mem_map.mp e
          exact l1' d.ent (List.mem_append_left _ (List.mem_map_of_mem (by rw [hcut]; exact List.mem_append_right _ (.tail _ hd))))
        · exact l1' p (List.mem_append_right _ e)
    have hoff4 : OwnOff own4 [r.a, L' + 1 + 1, L' + 1] := by
      rw [hcut] at hnd hoff
      have hro := row_off hst hnd hoff
      rw [hown4]
      refine off4 (fun p hp => ?_) (fun p hp => ?_) (fun p hp => ?_)
      · rcases List.mem_cons.mp hp with e | e
        · rw [e]; exact hI3.symm
        · exact hro p e _ (.head _)
      · rcases List.mem_cons.mp hp with e | e
        · rw [e]; exact hI1.symm
        · have q := hlow p e
          intro e2
          have e3 : @Eq Nat p.1 (L' + 1 + 1) := e2
          omega
      · rcases List.mem_cons.mp hp with e | e
        · rw [e]; exact hI2.symm
        · have q := hlow p e
          intro e2
          have e3 : @Eq Nat p.1 (L' + 1) := e2
          omega
    have sub : ∀ p ∈ own, p ∈ own4 := fun p hp => by rw [hown4]; exact .tail _ (List.mem_append_right _ (List.mem_append_right _ hp))
    have mtl4 := sub _ mtl
    have hT4 : All2 (TabIn prog w own4) tds Ts := all2_imp (fun _ _ h => h.mono sub) hT
    have hA1 : Apart r.a (L' + 1 + 1) := Apart.of (by omega)
    have hA2 : Apart r.a (L' + 1) := Apart.of (by omega)
    have hA3 : Apart (L' + 1 + 1) (L' + 1) := Apart.of (by omega)
    replace hI1 := Apart.of hI1
    replace hI2 := Apart.of hI2
    replace hI3 := Apart.of hI3
    have hnb := numb_bounds2 r.mv sh wd
    k_steps
    · rename numb _ _ _ = 0 => hz
      have hS : stepG Ts fl sh wd r.g r.mv = (r.g, false) := by
        unfold stepG taken
        rw [decide_eq_true hz]
        rfl
      rename Fr _ _ _ _ => F9
      rename News _ _ _ _ => N9
      exact run_end hcut hst (rowstep_none hS) F9 N9 (fun p hp => hp) hown4 (by assumption) (by assumption) hne4 hI1.out hI2.out hm1 hm2 hm3 hm4 (by rw [cntR_snoc_false (by rw [hS])]; exact hmc)
    · rename numb _ _ _ ≠ 0 => hz
      have hS : stepG Ts fl sh wd r.g r.mv = (r.g, false) := by
        have hp : pb = true := by assumption
        have hg : r.g = 5 := by assumption
        unfold stepG taken
        rw [hfl, hp, hg]
        simp
      rename Fr _ _ _ _ => F9
      rename News _ _ _ _ => N9
      exact run_end hcut hst (rowstep_none hS) F9 N9 (fun p hp => hp) hown4 (by assumption) (by assumption) hne4 hI1.out hI2.out hm1 hm2 hm3 hm4 (by rw [cntR_snoc_false (by rw [hS])]; exact hmc)
    all_goals (
      have htk : taken r.mv sh wd fl r.g = true := by
        have hz : numb r.mv sh wd ≠ 0 := by assumption
        first
          | (have hg : r.g ≠ 5 := by assumption
             unfold taken
             simp [hz, hg]; done)
          | (have hp : pb = false := by assumption
             unfold taken
             rw [hfl, hp]
             simp [hz]; done)
      unfold Hold
      rename Fr _ _ _ _ => F5
      rename News _ _ _ _ => N5
      refine LCt.CompSrcT.ledger (by rfl) F5 N5 (by k_mem) (by rw [List.size_toArray, List.length_map, sizeLine_eq]; omega) (fun g => comp_invT (FoundJ _ Ts r.g (numb r.mv sh wd)) ⟨rfl, .nil⟩ ?cturn ?cfin)
      case cturn =>
        intro ci cv ys news₃ Ic oIc Cc oCc Dc mc hc tkc Ec hci hcv hJ101z
        refine ex0and2 hJ101z ?_
        intro e102z hys
        (try clear hJ101z)
        subst e102z
        intro hC hx Fc Nc off hJ103z
        have ne1 := hJ103z.1
        have ne2 := hJ103z.2.1
        have ne3 := hJ103z.2.2
        clear hJ103z
        clear F5 N5
        obtain ⟨td, T, htd, hTi, rfl, hTab⟩ := All2.get hT4 (by simpa using hcv)
        obtain ⟨lo, o, kvs, mM, hdk, hkl, hall⟩ := hTab
        replace ne1 := Apart.of ne1
        replace ne2 := Apart.of ne2
        replace ne3 := Apart.of ne3
        rcases hall r.g with ⟨hvv, hTg⟩ | ⟨t, nt, vs, ns, hvv, hTg, mt, hi, hl4, hbd⟩
        · k_steps
          unfold Hold
          exact LCg.CompEnd.intro (by assumption) (by assumption) _ (fun p hp => .tail _ hp) off (.inr ⟨_, .tail _ (.tail _ (.tail _ mtl4)), rfl, _, rfl⟩) (found_none hTi hys (altOf_none hTg))
        · k_steps
          · unfold Hold
            exact LCg.CompEnd.intro (by assumption) (by assumption) _ (fun p hp => .tail _ hp) off (.inr ⟨_, .tail _ (.tail _ (.tail _ mtl4)), rfl, _, rfl⟩) (found_some hTi hys (altOf_in hTg (by omega) (by assumption)))
          · unfold Hold
            exact LCg.CompEnd.intro (by assumption) (by assumption) _ (fun p hp => .tail _ hp) off (.inr ⟨_, .tail _ (.tail _ (.tail _ mtl4)), rfl, _, rfl⟩) (found_none hTi hys (altOf_out hTg (by assumption)))
      case cfin =>
        intro ys news₃ hJ104z
        refine ex0and2 hJ104z ?_
        intro e105z hys
        (try clear hJ104z)
        subst e105z
        intro D hD tkD FD ND offD
        clear F5 N5
        dsimp only
        have htl : List.take (List.map Value.ref tds).toArray.size Ts = Ts := by rw [List.size_toArray, List.length_map, All2.length hT4, List.take_length]
        rw [htl] at hys
        clear htl
        have hzl : (Ts.filterMap fun T => altOf T r.g (numb r.mv sh wd)).length ≤ 2 := Nat.le_trans (List.length_filterMap_le _ _) (by rw [← All2.length hT4]; omega)
        have hfa := firstAlt_head (Ts := Ts) (g := r.g) (nb := numb r.mv sh wd)
        generalize (Ts.filterMap fun T => altOf T r.g (numb r.mv sh wd)) = zs at hys hzl hfa
        have z1 : Apart r.a D := offD.1
        have z2 : Apart (L' + 1 + 1) D := offD.2.1
        have z3 : Apart (L' + 1) D := offD.2.2.1
        clear offD
        k_steps
        · rename 0 < List.length _ => hzp
          rename Fr _ _ _ _ => F9
          rename News _ _ _ _ => N9
          have hf1 : firstAlt Ts r.g (numb r.mv sh wd) = some (zs.getD (Int.toNat 0) 0) := hfa.trans (head_getD hzp)
          have hS : stepG Ts fl sh wd r.g r.mv = (zs.getD (Int.toNat 0) 0, true) := stepG_some htk hf1
          exact run_end hcut hst (rowstep_some hS) F9 N9 (fun p hp => .tail _ hp) hown4 (by assumption) (by assumption) hne4 hI1.out hI2.out hm1 hm2 hm3 hm4 (by rw [cntR_snoc_true (by rw [hS])]; exact rfl)
        · have hz0 : zs = [] := List.length_eq_zero_iff.mp (by omega)
          rename Fr _ _ _ _ => F9
          rename News _ _ _ _ => N9
          have hS : stepG Ts fl sh wd r.g r.mv = (r.g, false) := by
            unfold stepG
            rw [if_pos htk, hfa, hz0]
            rfl
          exact run_end hcut hst (rowstep_none hS) F9 N9 (fun p hp => .tail _ hp) hown4 (by assumption) (by assumption) hne4 hI1.out hI2.out hm1 hm2 hm3 hm4 (by rw [cntR_snoc_false (by rw [hS])]; exact hmc))

end
/- LawLib -/
section
/-- the invariant of the loop that makes the rows -/
def RowsJ (P c rl : Addr) (own0 : List (Addr × Obj)) (n k : Nat) (i : Nat) (m : Str → Option Value) (news : List (Addr × Obj)) : Prop :=
  ∃ (oP oc : Obj) (rws : List Row) (kk : Nat) (pl : Int), m (Str.ofString "rows") = some (.ref rl) ∧ m (Str.ofString "pot") = some (.ref P) ∧ news = (rl, listOf (rws.map fun r => Value.ref (Row.a r)).toArray kk) :: (P, oP) :: (c, oc) :: (rws.map Row.ent ++ own0) ∧ PotSt c oP oc n k pl ∧
    (1 ≤ pl ∧ pl ≤ 1 + 2 * (i : Int)) ∧ rws.length = i ∧ (rws.map Row.a).Nodup ∧ (∀ r ∈ rws, @LT.lt Nat _ rl r.a) ∧ ∀ r ∈ rws, 0 ≤ r.mv ∧ r.mv < 256
theorem rows_off {P c rl : Addr} {own0 : List (Addr × Obj)} {rws : List Row} (h0 : OwnOff own0 [rl, P, c]) (hP : @LT.lt Nat _ P rl) (hc : @LT.lt Nat _ c rl) (hr : ∀ r ∈ rws, @LT.lt Nat _ rl r.a) : OwnOff (rws.map Row.ent ++ own0) [rl, P, c] := fun p hp b hb => by
  rcases List.mem_append.mp hp with e | e
  · obtain ⟨r, h1, rfl⟩ := List.mem_map.mp e
    have h2 := hr r h1
    show @Ne Nat r.a b
    simp only [List.mem_cons, List.not_mem_nil, or_false] at hb
    rcases hb with rfl | rfl | rfl <;> omega
  · exact h0 p e b hb
theorem rows_end {P c rl I : Addr} {own0 ownX : List (Addr × Obj)} {n k kk i : Nat} {oI oP oc : Obj} {rws : List Row} {r : Row} {pl : Int} {h' : Heap} {tk' : Nat} {m₂ : Str → Option Value} {news : List (Addr × Obj)}
    (F : Fr h₀ L h' m₂) (N : News h₀ L h' news) (hX : ownX = rws.map Row.ent ++ own0) (hsub : ∀ p ∈ r.ent :: (I, oI) :: (rl, listOf ((rws.map fun r => Value.ref (Row.a r)).toArray.push (.ref r.a)) kk) :: (P, oP) :: (c, oc) :: ownX, p ∈ news)
    (m1 : m₂ (Str.ofString "rows") = some (.ref rl)) (m2 : m₂ (Str.ofString "pot") = some (.ref P)) (hp : PotSt c oP oc n k pl) (hpl : 1 ≤ pl ∧ pl ≤ 1 + 2 * ((i + 1 : Nat) : Int)) (hl : rws.length = i) (hnd : (rws.map Row.a).Nodup) (hr : ∀ r ∈ rws, @LT.lt Nat _ rl r.a) (hmv : ∀ r ∈ rws, 0 ≤ r.mv ∧ r.mv < 256)
    (hr1 : 0 ≤ r.mv ∧ r.mv < 256) (hlt : ∀ p ∈ ownX, @LT.lt Nat _ p.1 r.a) (q1 : @LT.lt Nat _ rl r.a) (q2 : @LT.lt Nat _ I r.a) {kk' : Nat} {oP' oc' : Obj} (hne : ∀ p ∈ (rl, listOf (rws.map fun r => Value.ref (Row.a r)).toArray kk') :: (P, oP') :: (c, oc') :: ownX, @Ne Nat p.1 I) :
    LedEnd h₀ L (RowsJ P c rl own0 n k (i + 1)) I oI s { s with heap := h', toks := tk' } := by
  subst hX
  have e : (rws.map fun r => Value.ref (Row.a r)).toArray.push (.ref r.a) = ((rws ++ [r]).map fun r => Value.ref (Row.a r)).toArray := by simp
  rw [e] at hsub
  refine LedEnd.intro ((rl, listOf ((rws ++ [r]).map fun r => Value.ref (Row.a r)).toArray kk) :: (P, oP) :: (c, oc) :: ((rws ++ [r]).map Row.ent ++ own0)) F (fun p hp => N p (hsub p ?_)) ?_ ⟨oP, oc, rws ++ [r], kk, pl, m1, m2, rfl, hp, hpl, by simp [hl], ?_, ?_, ?_⟩
  · simp only [List.mem_cons, List.mem_append, List.map_append, List.map_cons, List.map_nil, List.not_mem_nil, or_false] at hp ⊢
    rcases hp with e | e | e | e | (e | e) | e <;> simp [e]
  · intro p hp
    simp only [List.mem_cons, List.mem_append, List.map_append, List.map_cons, List.map_nil, List.not_mem_nil, or_false] at hp
    rcases hp with e | e | e | (e | e) | e
    · rw [e]; exact hne (rl, listOf (rws.map fun r => Value.ref (Row.a r)).toArray kk') (.head _)
    · rw [e]; exact hne (P, oP') (.tail _ (.head _))
    · rw [e]; exact hne (c, oc') (.tail _ (.tail _ (.head _)))
    · exact hne p (.tail _ (.tail _ (.tail _ (List.mem_append_left _ e))))
    · rw [e]; show @Ne Nat r.a I; omega
    · exact hne p (.tail _ (.tail _ (.tail _ (List.mem_append_right _ e))))
  · rw [List.map_append, List.nodup_append]
    refine ⟨hnd, by simp, fun x hx y hy e => ?_⟩
    obtain ⟨q, hq, rfl⟩ := List.mem_map.mp hx
    have := hlt q.ent (List.mem_append_left _ (List.mem_map_of_mem hq))
    have h2 : y = r.a := by simpa using hy
    have h3 : @Eq Nat q.a r.a := e.trans h2
    have h4 : @LT.lt Nat _ q.a r.a := this
    omega
  · intro q hq
    rcases List.mem_append.mp hq with h | h
    · exact hr q h
    · rw [List.mem_singleton.mp h]; exact q1
  · intro q hq
    rcases List.mem_append.mp hq with h | h
    · exact hmv q h
    · rw [List.mem_singleton.mp h]; exact hr1
theorem rows_loop {A : Around} {env : Env} {body : List Stmt} {x : Str} {Q : Flow → Shared → Prop} {r P c rl : Addr} {b₀ : Int} {t₀ u₀ v₀ : Tok} {n k n0 : Nat} {m₀ : Str → Option Value} {own0 : List (Addr × Obj)} {oP oc : Obj}
    (hh : A.handled = none) (hr : IsRange s.heap r 0 b₀ 1 t₀ u₀ v₀) (hb : 0 ≤ b₀ ∧ b₀ < 9) (F : Fr h₀ env.locals s.heap m₀) (N : News h₀ env.locals s.heap ((rl, listOf #[] n0) :: (P, oP) :: (c, oc) :: own0)) (hp : PotSt c oP oc n k 1)
    (hm1 : m₀ (Str.ofString "rows") = some (.ref rl)) (hm2 : m₀ (Str.ofString "pot") = some (.ref P)) (hoff : OwnOff own0 [P, c]) (q1 : @LT.lt Nat _ P rl) (q2 : @LT.lt Nat _ c rl) (q3 : ∀ p ∈ own0, @LT.lt Nat _ p.1 rl)
    (turn : ∀ (i : Nat) (t : Tok) (m₁ : Str → Option Value) (h : Heap) (tk : Nat) (I : Addr) (oI oP oc : Obj) (rws : List Row) (kk : Nat) (pl : Int) (ownX : List (Addr × Obj)), i < 8 → m₁ (Str.ofString "rows") = some (.ref rl) → m₁ (Str.ofString "pot") = some (.ref P) → ownX = rws.map Row.ent ++ own0 → PotSt c oP oc n k pl → (1 ≤ pl ∧ pl ≤ 1 + 2 * (i : Int)) → rws.length = i → (rws.map Row.a).Nodup → (∀ r ∈ rws, @LT.lt Nat _ rl r.a) → (∀ r ∈ rws, 0 ≤ r.mv ∧ r.mv < 256) →
      (∀ p ∈ (rl, listOf (rws.map fun r => Value.ref (Row.a r)).toArray kk) :: (P, oP) :: (c, oc) :: ownX, @Ne Nat p.1 I) → Apart rl I → Apart P I → Apart c I → OwnOff ownX [rl, P, c] → Fr h₀ env.locals h (fun y => if y = x then some (.int (i : Int) t) else m₁ y) → News h₀ env.locals h ((I, oI) :: (rl, listOf (rws.map fun r => Value.ref (Row.a r)).toArray kk) :: (P, oP) :: (c, oc) :: ownX) →
      wpAny (model prog w) A (execs body env) (LedPost h₀ env.locals (RowsJ P c rl own0 n k (i + 1)) I oI { s with heap := h, toks := tk } Q) E { s with heap := h, toks := tk })
    (done : ∀ (m₁ : Str → Option Value) (h : Heap) (tk : Nat) (oP oc : Obj) (rws : List Row) (kk : Nat) (pl : Int) (ownX : List (Addr × Obj)), m₁ (Str.ofString "rows") = some (.ref rl) → m₁ (Str.ofString "pot") = some (.ref P) → ownX = rws.map Row.ent ++ own0 → PotSt c oP oc n k pl → (1 ≤ pl ∧ pl ≤ 17) → rws.length ≤ 8 → (rws.map Row.a).Nodup → (∀ r ∈ rws, @LT.lt Nat _ rl r.a) → (∀ r ∈ rws, 0 ≤ r.mv ∧ r.mv < 256) → OwnOff ownX [rl, P, c] → Fr h₀ env.locals h m₁ →
      News h₀ env.locals h ((rl, listOf (rws.map fun r => Value.ref (Row.a r)).toArray kk) :: (P, oP) :: (c, oc) :: ownX) → Q .next { s with heap := h, toks := tk }) :
    wpAny (model prog w) A (pyIter (.ref r)) (fun it s₂ => LoopAtV prog w A h₀ env x body Q E it s₂) E s := by
  have hoff0 : OwnOff own0 [rl, P, c] := off_cons (fun p hp => Nat.ne_of_lt (q3 p hp)) hoff
  refine iter_rng (RowsJ P c rl own0 n k) hh hr (small_one (by omega) (by omega) (by omega) (by omega)) (rangeSize_nat _ _) F N ⟨_, _, [], n0, _, hm1, hm2, rfl, hp, ⟨Int.le_refl _, by omega⟩, rfl, List.nodup_nil, (fun _ h => nomatch h), fun _ h => nomatch h⟩ ?_ ?_
  · rintro i t m₁ news₁ h tk I oI hi ⟨oP', oc', rws, kk, pl, hm1', hm2', rfl, hp2, hpl, hrl, hnd, hra, hmv⟩ hne F2 N2
    have hof := rows_off hoff0 q1 q2 hra
    have F3 : Fr h₀ env.locals h (fun y => if y = x then some (.int (i : Int) t) else m₁ y) := by
      have e : (0 : Int) + (i : Int) = i := by omega
      rw [e] at F2; exact F2
    exact turn i t m₁ h tk I oI oP' oc' rws kk pl _ (by omega) hm1' hm2' rfl hp2 hpl hrl hnd hra hmv hne (hne _ (.head _)) (hne _ (.tail _ (.head _))) (hne _ (.tail _ (.tail _ (.head _)))) hof F3 N2
  · rintro m₁ news₁ h tk ⟨oP', oc', rws, kk, pl, hm1', hm2', rfl, hp2, hpl, hrl, hnd, hra, hmv⟩ F2 N2
    exact done m₁ h tk oP' oc' rws kk pl _ hm1' hm2' rfl hp2 ⟨by omega, by omega⟩ (by omega) hnd hra hmv (rows_off hoff0 q1 q2 hra) F2 N2
theorem lt_cons3 {a1 a2 a3 b : Addr} {o1 o2 o3 : Obj} {l : List (Addr × Obj)} (h1 : @LT.lt Nat _ a1 b) (h2 : @LT.lt Nat _ a2 b) (h3 : @LT.lt Nat _ a3 b) (h4 : ∀ p ∈ l, @LT.lt Nat _ p.1 b) : ∀ p ∈ (a1, o1) :: (a2, o2) :: (a3, o3) :: l, @LT.lt Nat _ p.1 b := fun p hp => by
  simp only [List.mem_cons] at hp
  rcases hp with rfl | rfl | rfl | e
  · exact h1
  · exact h2
  · exact h3
  · exact h4 p e
theorem own3_lt {a1 a2 a3 rl : Addr} {o1 o2 o3 : Obj} (h1 : @LT.lt Nat _ a1 rl) (h2 : @LT.lt Nat _ a2 rl) (h3 : @LT.lt Nat _ a3 rl) : ∀ p ∈ [(a1, o1), (a2, o2), (a3, o3)], @LT.lt Nat _ p.1 rl := fun p hp => by
  simp only [List.mem_cons, List.not_mem_nil, or_false] at hp
  rcases hp with rfl | rfl | rfl
  · exact h1
  · exact h2
  · exact h3
abbrev Inf.ins (j : Inf) : Addr × Obj := (j.x, instObj 52 j.dx)
structure InfRow (j : Inf) (r : Row) : Prop where
  g : j.g = r.g
  mv : j.mv = r.mv
  cl : j.cl = r.cl
  ok : InfOk j
/-- the invariant of the loop that makes the infos -/
def InfosJ (P rl il : Addr) (base : List (Addr × Obj)) (rws : List Row) (i : Nat) (m : Str → Option Value) (news : List (Addr × Obj)) : Prop :=
  ∃ (infs : List Inf) (kk : Nat), m (Str.ofString "rows") = some (.ref rl) ∧ m (Str.ofString "pot") = some (.ref P) ∧ m (Str.ofString "infos") = some (.ref il) ∧ news = (il, listOf (infs.map fun j => Value.ref j.x).toArray kk) :: (infs.map Inf.ent ++ (infs.map Inf.ins ++ base)) ∧
    infs.length = i ∧ All2 InfRow infs (rws.take i) ∧ (infs.map Inf.dx).Nodup ∧ ∀ j ∈ infs, @LT.lt Nat _ il j.dx ∧ @LT.lt Nat _ il j.x
theorem infos_end {P rl il I x' d' : Addr} {base ownY : List (Addr × Obj)} {rws : List Row} {i kk nd : Nat} {oI : Obj} {infs : List Inf} {r : Row} {es : List DictEntry} {h' : Heap} {tk' : Nat} {m₂ : Str → Option Value}
    (F : Fr h₀ L h' m₂) (N : News h₀ L h' ((x', instObj 52 d') :: (d', dictOf es nd) :: (I, oI) :: (il, listOf ((infs.map fun j => Value.ref j.x).toArray.push (.ref x')) kk) :: ownY)) (hY : ownY = infs.map Inf.ent ++ (infs.map Inf.ins ++ base))
    (m1 : m₂ (Str.ofString "rows") = some (.ref rl)) (m2 : m₂ (Str.ofString "pot") = some (.ref P)) (m3 : m₂ (Str.ofString "infos") = some (.ref il)) (hri : rws[i]? = some r) (hl : infs.length = i) (ha : All2 InfRow infs (rws.take i)) (hnd : (infs.map Inf.dx).Nodup) (hi : ∀ j ∈ infs, @LT.lt Nat _ il j.dx ∧ @LT.lt Nat _ il j.x)
    (hes : InfoEs es r.g r.mv r.cl) (hmv : 0 ≤ r.mv ∧ r.mv < 256) (hlt : ∀ p ∈ ownY, @LT.lt Nat _ p.1 d') (q1 : @LT.lt Nat _ il d') (q2 : @LT.lt Nat _ I d') (q3 : @LT.lt Nat _ d' x') {kk' : Nat} (hne : ∀ p ∈ (il, listOf (infs.map fun j => Value.ref j.x).toArray kk') :: ownY, @Ne Nat p.1 I) :
    LedEnd h₀ L (InfosJ P rl il base rws (i + 1)) I oI s { s with heap := h', toks := tk' } := by
  subst hY
  have e : (infs.map fun j => Value.ref j.x).toArray.push (.ref x') = ((infs ++ [Inf.mk x' d' es nd r.g r.mv r.cl]).map fun j => Value.ref (Inf.x j)).toArray := by simp
  rw [e] at N
  refine LedEnd.intro ((il, listOf ((infs ++ [Inf.mk x' d' es nd r.g r.mv r.cl]).map fun j => Value.ref (Inf.x j)).toArray kk) :: ((infs ++ [Inf.mk x' d' es nd r.g r.mv r.cl]).map Inf.ent ++ ((infs ++ [Inf.mk x' d' es nd r.g r.mv r.cl]).map Inf.ins ++ base))) F (fun p hp => N p ?_) ?_
    ⟨infs ++ [Inf.mk x' d' es nd r.g r.mv r.cl], kk, m1, m2, m3, rfl, by simp [hl], ?_, ?_, ?_⟩
  · simp only [List.mem_cons, List.mem_append, List.map_append, List.map_cons, List.map_nil, List.not_mem_nil, or_false] at hp ⊢
    rcases hp with e | e | (e | e) | (e | e) | e <;> simp [e]
  · intro p hp
    simp only [List.mem_cons, List.mem_append, List.map_append, List.map_cons, List.map_nil, List.not_mem_nil, or_false] at hp
    rcases hp with e | (e | e) | (e | e) | e
    · rw [e]; exact hne (il, listOf (infs.map fun j => Value.ref j.x).toArray kk') (.head _)
    · exact hne p (.tail _ (List.mem_append_left _ e))
    · rw [e]; show @Ne Nat d' I; omega
    · exact hne p (.tail _ (List.mem_append_right _ (List.mem_append_left _ e)))
    · rw [e]; show @Ne Nat x' I; omega
    · exact hne p (.tail _ (List.mem_append_right _ (List.mem_append_right _ e)))
  · rw [List.take_add_one, hri]
    exact ha.snoc ⟨rfl, rfl, rfl, ⟨hes, hmv⟩⟩
  · rw [List.map_append, List.nodup_append]
    refine ⟨hnd, by simp, fun x hx y hy e => ?_⟩
    obtain ⟨q, hq, rfl⟩ := List.mem_map.mp hx
    have h4 : @LT.lt Nat _ q.dx d' := hlt q.ent (List.mem_append_left _ (List.mem_map_of_mem hq))
    have h2 : y = d' := by simpa using hy
    have h3 : @Eq Nat q.dx d' := e.trans h2
    omega
  · intro q hq
    rcases List.mem_append.mp hq with h | h
    · exact hi q h
    · rw [List.mem_singleton.mp h]; exact ⟨q1, Nat.lt_trans q1 q3⟩
theorem infos_loop {A : Around} {env : Env} {body : List Stmt} {target : PySem.Expr} {Q : Flow → Shared → Prop} {P rl il : Addr} {kr n0 : Nat} {m₀ : Str → Option Value} {base : List (Addr × Obj)} {rws : List Row}
    (hh : A.handled = none) (F : Fr h₀ env.locals s.heap m₀) (N : News h₀ env.locals s.heap ((il, listOf #[] n0) :: base)) (mrl : (rl, listOf (rws.map fun r => Value.ref (Row.a r)).toArray kr) ∈ base) (mrows : ∀ r ∈ rws, r.ent ∈ base) (hlow : ∀ p ∈ base, @LT.lt Nat _ p.1 il)
    (hm1 : m₀ (Str.ofString "rows") = some (.ref rl)) (hm2 : m₀ (Str.ofString "pot") = some (.ref P)) (hm3 : m₀ (Str.ofString "infos") = some (.ref il))
    (turn : ∀ (i : Nat) (r : Row) (m₁ : Str → Option Value) (h : Heap) (tk : Nat) (I : Addr) (oI : Obj) (infs : List Inf) (kk : Nat) (ownY : List (Addr × Obj)), rws[i]? = some r → r ∈ rws → m₁ (Str.ofString "rows") = some (.ref rl) → m₁ (Str.ofString "pot") = some (.ref P) → m₁ (Str.ofString "infos") = some (.ref il) →
      ownY = infs.map Inf.ent ++ (infs.map Inf.ins ++ base) → infs.length = i → All2 InfRow infs (rws.take i) → (infs.map Inf.dx).Nodup → (∀ j ∈ infs, @LT.lt Nat _ il j.dx ∧ @LT.lt Nat _ il j.x) → (∀ p ∈ (il, listOf (infs.map fun j => Value.ref j.x).toArray kk) :: ownY, @Ne Nat p.1 I) → Apart il I → OwnOff ownY [il] →
      (r.a, listOf #[.int r.g r.tg, .int r.mv r.tm, .int r.cl r.tc] r.n) ∈ ownY → Fr h₀ env.locals h m₁ → News h₀ env.locals h ((I, oI) :: (il, listOf (infs.map fun j => Value.ref j.x).toArray kk) :: ownY) →
      wpAny (model prog w) A (assign target env (.ref r.a)) (fun _ s₃ => wpAny (model prog w) A (execs body env) (LedPost h₀ env.locals (InfosJ P rl il base rws (i + 1)) I oI { s with heap := h, toks := tk } Q) E s₃) E { s with heap := h, toks := tk })
    (done : ∀ (m₁ : Str → Option Value) (h : Heap) (tk : Nat) (infs : List Inf) (kk : Nat), m₁ (Str.ofString "rows") = some (.ref rl) → m₁ (Str.ofString "pot") = some (.ref P) → m₁ (Str.ofString "infos") = some (.ref il) → All2 InfRow infs rws → (infs.map Inf.dx).Nodup → (∀ j ∈ infs, @LT.lt Nat _ il j.dx ∧ @LT.lt Nat _ il j.x) →
      OwnOff ((il, listOf (infs.map fun j => Value.ref j.x).toArray kk) :: (infs.map Inf.ins ++ base)) (infs.map Inf.dx) → Fr h₀ env.locals h m₁ → News h₀ env.locals h (infs.map Inf.ent ++ ((il, listOf (infs.map fun j => Value.ref j.x).toArray kk) :: (infs.map Inf.ins ++ base))) → Q .next { s with heap := h, toks := tk }) :
    wpAny (model prog w) A (pyIter (.ref rl)) (fun it s₂ => TurnsAt prog w A h₀ env target body Q E it s₂) E s := by
  refine iter_ledT (vs := rws.map fun r => Value.ref (Row.a r)) (n := kr) (InfosJ P rl il base rws) hh F N ⟨[], n0, hm1, hm2, hm3, rfl, rfl, .nil, List.nodup_nil, fun _ h => nomatch h⟩ ?_ ?_ ?_
  · rintro i m₁ news₁ ⟨infs, kk, _, _, _, rfl, _⟩
    exact .tail _ (List.mem_append_right _ (List.mem_append_right _ mrl))
  · rintro i v m₁ news₁ h tk I oI hv ⟨infs, kk, h1, h2, h3, rfl, hl, ha, hnd, hi⟩ hne F2 N2
    obtain ⟨r, hr, rfl⟩ : ∃ r, rws[i]? = some r ∧ v = .ref r.a := by
      rw [List.getElem?_map] at hv
      cases e : rws[i]? with
      | none => rw [e] at hv; cases hv
      | some r => rw [e] at hv; exact ⟨r, rfl, (Option.some.inj hv).symm⟩
    have hrm : r ∈ rws := List.mem_of_getElem? hr
    refine turn i r m₁ h tk I oI infs kk _ hr hrm h1 h2 h3 rfl hl ha hnd hi hne (hne _ (.head _)) (fun p hp b hb => ?_) (List.mem_append_right _ (List.mem_append_right _ (mrows r hrm))) F2 N2
    rw [List.mem_singleton.mp hb]
    rcases List.mem_append.mp hp with e | e
    · obtain ⟨j, hj, rfl⟩ := List.mem_map.mp e
      have := (hi j hj).1
      show @Ne Nat j.dx il; omega
    · rcases List.mem_append.mp e with e | e
      · have hq := N2 p (.tail _ (.tail _ (List.mem_append_right _ (List.mem_append_left _ e))))
        obtain ⟨j, hj, rfl⟩ := List.mem_map.mp e
        exact ne_kind (x := j.x) (y := il) N2 (.tail _ (.tail _ (List.mem_append_right _ (List.mem_append_left _ e)))) (.tail _ (.head _)) (by simp)
      · exact Nat.ne_of_lt (hlow p e)
  · rintro m₁ news₁ h tk ⟨infs, kk, h1, h2, h3, rfl, hl, ha, hnd, hi⟩ F2 N2
    rw [List.length_map, List.take_length] at ha
    refine done m₁ h tk infs kk h1 h2 h3 ha hnd hi (fun p hp b hb => ?_) F2 (fun p hp => N2 p ?_)
    · obtain ⟨j, hj, rfl⟩ := List.mem_map.mp hb
      have hij := (hi j hj).1
      rcases List.mem_cons.mp hp with e | e
      · rw [e]; show @Ne Nat il j.dx; omega
      · rcases List.mem_append.mp e with e | e
        · obtain ⟨q, hq, rfl⟩ := List.mem_map.mp e
          exact ne_kind (x := q.x) (y := j.dx) N2 (.tail _ (List.mem_append_right _ (List.mem_append_left _ e))) (.tail _ (List.mem_append_left _ (List.mem_map_of_mem hj))) (by simp)
        · have := hlow p e
          intro e2
          have e3 : @Eq Nat p.1 j.dx := e2
          omega
    · rcases List.mem_append.mp hp with e | e
      · exact .tail _ (List.mem_append_left _ e)
      · rcases List.mem_cons.mp e with e | e
        · exact e ▸ .head _
        · exact .tail _ (List.mem_append_right _ e)
theorem after_infos {h : Heap} {P c rl il a1 a2 a3 : Addr} {oP oc orl oil o1 o2 o3 : Obj} {infs : List Inf} {rws : List Row} {ownX : List (Addr × Obj)}
    (N : News h₀ L h (infs.map Inf.ent ++ ((il, oil) :: (infs.map Inf.ins ++ ((rl, orl) :: (P, oP) :: (c, oc) :: ownX))))) (hX : ownX = rws.map Row.ent ++ [(a3, o3), (a2, o2), (a1, o1)])
    (hi : ∀ j ∈ infs, @LT.lt Nat _ il j.dx ∧ @LT.lt Nat _ il j.x) (hr : ∀ r ∈ rws, @LT.lt Nat _ rl r.a) (hri : ∀ r ∈ rws, @LT.lt Nat _ r.a il) (hrl : @LT.lt Nat _ rl il) (hP : @LT.lt Nat _ P rl) (hc : @LT.lt Nat _ c rl) (h1 : @LT.lt Nat _ a1 rl) (h2 : @LT.lt Nat _ a2 rl) (h3 : @LT.lt Nat _ a3 rl) :
    ∃ own2, own2 = (il, oil) :: (infs.map Inf.ins ++ [(rl, orl)]) ∧ News h₀ L h ((P, oP) :: (c, oc) :: (a1, o1) :: (a2, o2) :: (a3, o3) :: (infs.map Inf.ent ++ (rws.map Row.ent ++ own2))) ∧ OwnOff (infs.map Inf.ent ++ (rws.map Row.ent ++ own2)) [P, c, a1, a2, a3] ∧
      OwnOff own2 (infs.map Inf.dx) ∧ OwnOff own2 (rws.map Row.a) ∧ (∀ r ∈ rws, ∀ j ∈ infs, @LT.lt Nat _ r.a j.dx) := by
  have rj : ∀ r ∈ rws, ∀ j ∈ infs, @LT.lt Nat _ r.a j.dx := fun r hr' j hj => by
    have e1 := (hi j hj).1
    have e2 := hri r hr'
    omega
  refine ⟨_, rfl, fun p hp => N p ?_, ?_, ?_, ?_, rj⟩
  · subst hX
    simp only [List.mem_cons, List.mem_append, List.not_mem_nil, or_false] at hp ⊢
    rcases hp with e | e | e | e | e | e | e | e | e | e <;> simp [e]
  · intro p hp b hb
    have hb' : @LT.lt Nat _ b rl := by
      simp only [List.mem_cons, List.not_mem_nil, or_false] at hb
      rcases hb with rfl | rfl | rfl | rfl | rfl <;> assumption
    have key : @LE.le Nat _ rl p.1 := by
      simp only [List.mem_cons, List.mem_append, List.not_mem_nil, or_false] at hp
      rcases hp with e | e | e | e | e
      · obtain ⟨j, hj, rfl⟩ := List.mem_map.mp e
        have := (hi j hj).1
        show @LE.le Nat _ rl j.dx; omega
      · obtain ⟨r, hr', rfl⟩ := List.mem_map.mp e
        have := hr r hr'
        show @LE.le Nat _ rl r.a; omega
      · rw [e]; show @LE.le Nat _ rl il; omega
      · obtain ⟨j, hj, rfl⟩ := List.mem_map.mp e
        have := (hi j hj).2
        show @LE.le Nat _ rl j.x; omega
      · rw [e]; exact Nat.le_refl _
    intro e
    have e2 : @Eq Nat p.1 b := e
    omega
  · intro p hp b hb
    obtain ⟨j, hj, rfl⟩ := List.mem_map.mp hb
    have e1 := (hi j hj).1
    simp only [List.mem_cons, List.mem_append, List.not_mem_nil, or_false] at hp
    rcases hp with e | e | e
    · rw [e]; show @Ne Nat il j.dx; omega
    · obtain ⟨q, hq, rfl⟩ := List.mem_map.mp e
      exact ne_kind (x := q.x) (y := j.dx) N (List.mem_append_right _ (.tail _ (List.mem_append_left _ (List.mem_map_of_mem hq)))) (List.mem_append_left _ (List.mem_map_of_mem hj)) (by simp)
    · rw [e]; show @Ne Nat rl j.dx; omega
  · intro p hp b hb
    obtain ⟨r, hr', rfl⟩ := List.mem_map.mp hb
    have e1 := hr r hr'
    have e2 := hri r hr'
    simp only [List.mem_cons, List.mem_append, List.not_mem_nil, or_false] at hp
    rcases hp with e | e | e
    · rw [e]; show @Ne Nat il r.a; omega
    · obtain ⟨q, hq, rfl⟩ := List.mem_map.mp e
      have e3 := (hi q hq).2
      show @Ne Nat q.x r.a; omega
    · rw [e]; show @Ne Nat rl r.a; omega
theorem hide {h : Heap} {l : List (Addr × Obj)} (N : News h₀ L h l) : ∃ l', l' = l ∧ News h₀ L h l' := ⟨l, rfl, N⟩
theorem Eqn.mk' (l : List (Addr × Obj)) : ∃ o, o = l := ⟨l, rfl⟩

end
/- Eqs -/
section
def RdRow (news : List (Addr × Obj)) (v : Value) (d : Int × Int × Int) : Prop := ∃ a n t1 t2 t3, v = .ref a ∧ (a, listOf #[.int d.1 t1, .int d.2.1 t2, .int d.2.2 t3] n) ∈ news
abbrev rowD (d : Int × Int × Int) : PyData := .list [.int d.1, .int d.2.1, .int d.2.2]
theorem reads_rows {h : Heap} {news : List (Addr × Obj)} {vs : List Value} {ds : List (Int × Int × Int)} (N : News h₀ L h news) (f : All2 (RdRow news) vs ds) : ∃ as, ReadsAll h vs (ds.map rowD) as := by
  induction f with
  | nil => exact ⟨_, .nil⟩
  | cons h1 _ ih =>
    obtain ⟨as, ha⟩ := ih
    obtain ⟨a, n, t1, t2, t3, rfl, hm⟩ := h1
    exact ⟨_, .cons (reads_list_at (N.get hm) rfl rfl (.cons (.int _ _) (.cons (.int _ _) (.cons (.int _ _) .nil)))) ha⟩
theorem eqv_rows (ds : List (Int × Int × Int)) : PyData.eqvAll (ds.map rowD) (ds.map rowD) = true := by
  induction ds with
  | nil => simp [PyData.eqvAll]
  | cons d r ih => simp only [List.map_cons, PyData.eqvAll, PyData.eqv, ih, beq_self_eq_true, Bool.and_self]
theorem lay_rows (ds : List (Int × Int × Int)) : PyData.canLayAll0 (ds.map rowD) = true ∧ PyData.depthAll (ds.map rowD) ≤ 1 := by
  induction ds with
  | nil => exact ⟨rfl, by simp [PyData.depthAll]⟩
  | cons d r ih =>
    refine ⟨by simp only [List.map_cons, PyData.canLayAll0, PyData.canLay0, ih.1, Bool.and_self], ?_⟩
    have h1 : (rowD d).depth = 1 := by simp [rowD, PyData.depth, PyData.depthAll]
    simp only [List.map_cons, PyData.depthAll, h1]
    omega
theorem shaped_rows (ds : List (Int × Int × Int)) : SeqAt.shaped (.list (ds.map rowD)) = true := by
  have h := lay_rows ds
  have h2 : (PyData.list (ds.map rowD)).depth ≤ 64 := by
    rw [show (PyData.list (ds.map rowD)).depth = PyData.depthAll (ds.map rowD) + 1 by simp [PyData.depth]]
    omega
  unfold SeqAt.shaped
  rw [show (PyData.list (ds.map rowD)).canLay0 = PyData.canLayAll0 (ds.map rowD) by simp [PyData.canLay0], h.1, decide_eq_true h2]
  rfl
theorem ne_rows {A : Around} {D rl : Addr} {k k2 : Nat} {vs us : List Value} {ds : List (Int × Int × Int)} {news : List (Addr × Obj)} (N : News h₀ L s.heap news) (mD : (D, listOf vs.toArray k) ∈ news) (mR : (rl, listOf us.toArray k2) ∈ news) (h1 : All2 (RdRow news) vs ds) (h2 : All2 (RdRow news) us ds)
    (hu : A.units + 64 < cLine) (h : Q (.bool false) s) : wpAny (model prog w) A (compareOp .NotEq (.ref D) (.ref rl)) Q E s := by
  obtain ⟨as, ra⟩ := reads_rows N h1
  obtain ⟨bs, rb⟩ := reads_rows N h2
  refine ne_dataH (reads_list_at (N.get mD) rfl rfl ra) (reads_list_at (N.get mR) rfl rfl rb) (shaped_rows ds) (shaped_rows ds) hu ?_
  simp only [PyData.eqv, eqv_rows, Bool.not_true]
  exact h
/-- an Alternate's own table is a copy of a table -/
def SameTab (prog : Program) (w : World) (news : List (Addr × Obj)) (al td : Addr) : Prop :=
  ∃ da ea na M o o' kvs, (al, instObj 170 da) ∈ news ∧ (da, dictOf ea na) ∈ news ∧ getL (Str.ofString "mapping") ea = some (some (.ref M)) ∧ (M == sysModules) = false ∧ (td == sysModules) = false ∧ (M, o) ∈ news ∧ (td, o') ∈ news ∧ o.IsDictOf (intKind prog w) kvs ∧ o'.IsDictOf (intKind prog w) kvs
theorem SameTab.mono {news news' : List (Addr × Obj)} {al td : Addr} (h : SameTab prog w news al td) (hs : ∀ p ∈ news, p ∈ news') : SameTab prog w news' al td := by
  obtain ⟨da, ea, na, M, o, o', kvs, f1, f2, f3, f4, f5, f6, f7, f8⟩ := h
  exact ⟨da, ea, na, M, o, o', kvs, hs _ f1, hs _ f2, f3, f4, f5, hs _ f6, hs _ f7, f8⟩
/-- two dicts of the same pairs -/
def SameDict (prog : Program) (w : World) (news : List (Addr × Obj)) (v u : Value) : Prop :=
  ∃ M td o o' kvs, v = .ref M ∧ u = .ref td ∧ (M == sysModules) = false ∧ (td == sysModules) = false ∧ (M, o) ∈ news ∧ (td, o') ∈ news ∧ o.IsDictOf (intKind prog w) kvs ∧ o'.IsDictOf (intKind prog w) kvs
theorem SameDict.mono {news news' : List (Addr × Obj)} {v u : Value} (h : SameDict prog w news v u) (hs : ∀ p ∈ news, p ∈ news') : SameDict prog w news' v u := by
  obtain ⟨M, td, o, o', kvs, e1, e2, f4, f5, f6, f7, f8⟩ := h
  exact ⟨M, td, o, o', kvs, e1, e2, f4, f5, hs _ f6, hs _ f7, f8⟩
theorem valueAt_mem {kvs : List (Int × Value)} (hn : (kvs.map (·.1)).Nodup) : ∀ {k : Int} {v : Value}, (k, v) ∈ kvs → valueAt kvs k = some v := by
  induction kvs with
  | nil => intro k v h; cases h
  | cons kv r ih =>
    intro k v h
    simp only [List.map_cons, List.nodup_cons] at hn
    rcases List.mem_cons.mp h with e | e
    · subst e; simp [valueAt]
    · have h1 : ¬ kv.1 = k := fun e2 => hn.1 (e2 ▸ List.mem_map_of_mem (f := (·.1)) e)
      have h2 := ih hn.2 e
      simp only [valueAt, List.find?_cons, h1, decide_false] at h2 ⊢
      exact h2
theorem hits_same {A : Around} {kvs : List (Int × Value)} (hn : (kvs.map (·.1)).Nodup) : ∀ l : List (Int × Value), (∀ kv ∈ l, kv ∈ kvs) → KeqHits A s kvs l true
  | [], _ => .nil
  | (k, v) :: r, h => .hit (e := true) (b := true) (valueAt_mem hn (h _ (.head _))) (SeqAt.EqAt.same v) (hits_same hn r fun kv hkv => h kv (.tail _ hkv))
theorem dict_any {prog' : Program} {w' : World} {o : Obj} {kvs : List (Int × Value)} (h : o.IsDictOf (intKind prog w) kvs) : o.IsDictOf (intKind prog' w') kvs := by
  obtain ⟨es, ep, h1, h2, h3, h4, h5⟩ := h
  refine ⟨es, ep, h1, h2, h3, ?_, h5⟩
  clear h2 h3
  generalize es.toList = l at h4
  induction h4 with
  | nil => exact .nil
  | cons a b _ ih => exact .cons a b (ih (by simp only [List.map_cons, List.nodup_cons] at h5; exact h5.2))
theorem SameDict.eqAt {A : Around} {v u : Value} {news : List (Addr × Obj)} (N : News h₀ L s.heap news) (h : SameDict prog w news v u) (hu : A.units < cLine) : SeqAt.EqAt A s v u true := by
  obtain ⟨M, td, o, o', kvs, rfl, rfl, f4, f5, f6, f7, f8, f9⟩ := h
  by_cases hne : M = td
  · subst hne; exact .same _
  · refine .of_refs hne fun prog' w' E Q hq => ?_
    have hn : (kvs.map (·.1)).Nodup := by obtain ⟨_, _, _, _, _, _, h⟩ := f8; exact h
    exact keq_eq (knd := intKind prog' w') (r := true) f4 f5 (kda_dict N f6 (dict_any f8)) (kda_dict N f7 (dict_any f9)) hu (fun _ => hits_same hn kvs fun _ h => h) (by simpa using hq)
/-- two lists of such dicts, pair by pair -/
def SameList (prog : Program) (w : World) (news : List (Addr × Obj)) (v u : Value) : Prop :=
  ∃ a b n n' vs us, v = .ref a ∧ u = .ref b ∧ (a, listOf vs.toArray n) ∈ news ∧ (b, listOf us.toArray n') ∈ news ∧ All2 (SameDict prog w news) vs us
theorem All2.at {α β : Type} {R : α → β → Prop} {l : List α} {l' : List β} (f : All2 R l l') : ∀ {i : Nat} (h : i < l.length) (h' : i < l'.length), R l[i] l'[i] := by
  induction f with
  | nil => intro i h; exact absurd h (Nat.not_lt_zero _)
  | cons h _ ih =>
    intro i h1 h2
    cases i with
    | zero => exact h
    | succ i => exact ih (by simpa using h1) (by simpa using h2)
theorem all_true (n : Nat) : (List.range n).all (fun _ => true) = true := by simp
theorem eq_lists {A : Around} {a b : Addr} {n n' : Nat} {vs us : List Value} {R : Value → Value → Prop} {news : List (Addr × Obj)} (N : News h₀ L s.heap news) (ma : (a, listOf vs.toArray n) ∈ news) (mb : (b, listOf us.toArray n') ∈ news) (f : All2 R vs us)
    (hR : ∀ v u, R v u → SeqAt.EqAt A.in1 s v u true) (hu : A.units < cLine) : SeqAt.RcAt A s (.ref a) (.ref b) true := by
  have hl := All2.length f
  have := SeqAt.RcAt.lists (A := A) (e := fun _ => true) (News.isList N ma) (News.isList N mb) (by simpa using hl) hu (fun j h1 h2 => by
    have h3 : j < vs.length := by simpa using h1
    have h4 : j < us.length := by simpa using h2
    have := hR _ _ (All2.at f h3 h4)
    simpa using this)
  rw [all_true] at this
  exact this
theorem SameList.eqAt {A : Around} {v u : Value} {news : List (Addr × Obj)} (N : News h₀ L s.heap news) (h : SameList prog w news v u) (hu : A.units + 1 < cLine) : SeqAt.EqAt A s v u true := by
  obtain ⟨a, b, n, n', vs, us, rfl, rfl, m1, m2, f⟩ := h
  by_cases hne : a = b
  · subst hne; exact .same _
  · exact .of_refs hne (eq_lists N m1 m2 f (fun v u h => SameDict.eqAt (A := A.in1) N h hu) (by omega))
theorem eq_plain {A : Around} {a b : Addr} {n n' : Nat} {vs us : List Value} {news : List (Addr × Obj)} (N : News h₀ L s.heap news) (ma : (a, listOf vs.toArray n) ∈ news) (mb : (b, listOf us.toArray n') ∈ news) (f : All2 (SameList prog w news) vs us)
    (hu : A.units + 2 < cLine) (h : Q (.bool true) s) : wpAny (model prog w) A (compareOp .Eq (.ref a) (.ref b)) Q E s :=
  eq_lists N ma mb f (fun v u h => SameList.eqAt (A := A.in1) N h (by show A.units + 1 + 1 < cLine; omega)) (by omega) prog w E Q h
/-- the inner lists of the law's last comparison, so far -/
def InnJ (prog : Program) (w : World) (news₀ base : List (Addr × Obj)) (tds : List Addr) (j : Nat) (zs : List Value) (news : List (Addr × Obj)) : Prop := news = news₀ ∧ All2 (SameDict prog w base) zs ((tds.take j).map Value.ref)
theorem inn_next {news₀ base : List (Addr × Obj)} {tds : List Addr} {j : Nat} {zs : List Value} {td M : Addr} {o o' : Obj} {kvs : List (Int × Value)} (h : All2 (SameDict prog w base) zs ((tds.take j).map Value.ref)) (ht : tds[j]? = some td)
    (f4 : (M == sysModules) = false) (f5 : (td == sysModules) = false) (f6 : (M, o) ∈ base) (f7 : (td, o') ∈ base) (f8 : o.IsDictOf (intKind prog w) kvs) (f9 : o'.IsDictOf (intKind prog w) kvs) : InnJ prog w news₀ base tds (j + 1) (zs ++ [.ref M]) news₀ := by
  refine ⟨rfl, ?_⟩
  rw [List.take_add_one, ht, List.map_append]
  exact all2_snoc h ⟨M, td, o, o', kvs, rfl, rfl, f4, f5, f6, f7, f8, f9⟩
theorem All2.swap_get {α β : Type} {R : α → β → Prop} {l : List α} {l' : List β} (f : All2 R l l') : ∀ {i : Nat} {x : α}, l[i]? = some x → ∃ y, l'[i]? = some y ∧ R x y := All2.get' f
theorem SameList.mono {news news' : List (Addr × Obj)} {v u : Value} (h : SameList prog w news v u) (hs : ∀ p ∈ news, p ∈ news') : SameList prog w news' v u := by
  obtain ⟨a, b, n, n', vs, us, e1, e2, m1, m2, f⟩ := h
  exact ⟨a, b, n, n', vs, us, e1, e2, hs _ m1, hs _ m2, all2_imp (fun _ _ h => h.mono hs) f⟩

end
/- LawTurns -/
section
structure Ex.Cell (o : Obj) : Prop where
  ex : ∃ v, o.data = .cell v
theorem Ex.cell {o : Obj} {v : Option Value} (h : o.data = .cell v) : Ex.Cell o := ⟨v, h⟩
/-- what one turn of the law's loop of two makes -/
structure Tn where
  pt : Addr
  lk : Addr
  tl : Addr
  tds : List Addr
  Ts : List (Int → Option (List Int))
  kk : Nat
  sh : Nat
  wd : Nat
  pb : Bool
def flOf (pb : Bool) : Int := if pb then 8 else 0
structure TnOk (prog : Program) (w : World) (news : List (Addr × Obj)) (t : Tn) : Prop where
  pt : ∃ n ts tw, (t.pt, tupObj [.ref t.tl, .int (t.sh : Int) ts, .int (t.wd : Int) tw, .bool t.pb] n) ∈ news
  tl : (t.tl, listOf (t.tds.map Value.ref).toArray t.kk) ∈ news
  tabs : All2 (TabIn prog w news) t.tds t.Ts
  len : t.tds.length = 1 ∨ t.tds.length = 2
  sh : t.sh ≤ 5
  wd : 1 ≤ t.wd ∧ t.wd ≤ 3
  look : LookIn prog w news t.lk (flOf t.pb) t.Ts
  same : ∃ dlk elk nl tl2 als k2, (t.lk, instObj 271 dlk) ∈ news ∧ (dlk, dictOf elk nl) ∈ news ∧ getL (Str.ofString "tables") elk = some (some (.ref tl2)) ∧ (tl2, listOf (als.map Value.ref).toArray k2) ∈ news ∧ All2 (SameTab prog w news) als t.tds
theorem TnOk.mono {news news' : List (Addr × Obj)} {t : Tn} (h : TnOk prog w news t) (hs : ∀ p ∈ news, p ∈ news') : TnOk prog w news' t := by
  obtain ⟨⟨n, ts, tw, h1⟩, h2, h3, h4, h5, h6, h7, ⟨dlk, elk, nl, tl2, als, k2, g1, g2, g3, g4, g5⟩⟩ := h
  exact ⟨⟨n, ts, tw, hs _ h1⟩, hs _ h2, all2_imp (fun _ _ h => h.mono hs) h3, h4, h5, h6, h7.mono hs, ⟨dlk, elk, nl, tl2, als, k2, hs _ g1, hs _ g2, g3, hs _ g4, all2_imp (fun _ _ h => h.mono hs) g5⟩⟩
/-- the frame's names that the law's loops leave alone -/
structure LawNames (m : Str → Option Value) (P rl b gd pl ll : Addr) : Prop where
  pot : m (Str.ofString "pot") = some (.ref P)
  rows : m (Str.ofString "rows") = some (.ref rl)
  buffer : m (Str.ofString "buffer") = some (.ref b)
  gdef : m (Str.ofString "gdef") = some (.ref gd)
  plain : m (Str.ofString "plain") = some (.ref pl)
  lookups : m (Str.ofString "lookups") = some (.ref ll)
def TurnsJ (prog : Program) (w : World) (P c rl b gd pl ll a1 : Addr) (led3 : List (Addr × Obj)) (n k : Nat) (i : Nat) (m : Str → Option Value) (news : List (Addr × Obj)) : Prop :=
  ∃ (oP oc o1 : Obj) (ext : List (Addr × Obj)) (tns : List Tn) (p' : Int) (kp kl : Nat), LawNames m P rl b gd pl ll ∧
    news = (pl, listOf (tns.map fun t => Value.ref (Tn.pt t)).toArray kp) :: (ll, listOf (tns.map fun t => Value.ref (Tn.lk t)).toArray kl) :: (a1, o1) :: (P, oP) :: (c, oc) :: (ext ++ led3) ∧ Ex.Cell o1 ∧ PotSt c oP oc n k p' ∧ (1 ≤ p' ∧ p' ≤ 17 + 100 * (i : Int)) ∧
    (∀ p ∈ ext, ∀ q ∈ led3, @Ne Nat p.1 q.1) ∧ OwnOff (ext ++ led3) [pl, ll, a1, P, c] ∧ (∀ t ∈ tns, TnOk prog w ext t) ∧ tns.length = i
theorem tables_call3 (C : Cx w p loose mean mg mb A₀ base h₀ outer cs) (F : Fr h₀ L s.heap m)
    {I pl' ll a1 P c : Addr} {oI opl oll o1 oP oc : Obj} {pl : Int} {n k : Nat} {own : List (Addr × Obj)}
    (N : News h₀ L s.heap ((I, oI) :: (pl', opl) :: (ll, oll) :: (a1, o1) :: (P, oP) :: (c, oc) :: own)) (hp : PotSt c oP oc n k pl)
    (hPc : @Ne Nat P c) (hoff : OwnOff own [pl', ll, a1, P, c]) (hpl : 0 ≤ pl ∧ pl < 800) (h1 : Apart P I) (h2 : Apart c I) (h3 : Apart P pl') (h4 : Apart c pl') (h5 : Apart P ll) (h6 : Apart c ll) (h7 : Apart P a1) (h8 : Apart c a1)
    (hd : dp + 20 < recursionLimit) (hu : un + 160 < cLine)
    (ret : ∀ tl tds Ts kk h' tk' oP' oc' pl2 ext own', own' = ext ++ own → Fr h₀ L h' m → News h₀ L h' ((I, oI) :: (pl', opl) :: (ll, oll) :: (a1, o1) :: (P, oP') :: (c, oc') :: own') → PotSt c oP' oc' n k pl2 → (pl ≤ pl2 ∧ pl2 ≤ pl + 61) → (∀ p ∈ ext, @LT.lt Nat _ I p.1 ∧ ∀ q ∈ own, @LT.lt Nat _ q.1 p.1) → (tl, listOf (tds.map Value.ref).toArray kk) ∈ ext → All2 (TabIn prog w ext) tds Ts → (tds.length = 1 ∨ tds.length = 2) → OwnOff own' [pl', ll, a1, P, c] →
      Q (.ref tl) { s with heap := h', toks := tk' }) :
    wpAny (model prog w) (ktrTop dp un gd cn cs L a ccd cl outer) (call (.ref 656) [.ref P]) Q E s := by
  refine tables_call C F (own := (I, oI) :: (pl', opl) :: (ll, oll) :: (a1, o1) :: own) (fun p hp => N p ?_) hp hPc (fun p hp b hb => ?_) hpl hd hu ?_
  · simp only [List.mem_cons] at hp ⊢
    rcases hp with e | e | e | e | e | e | e <;> simp [e]
  · simp only [List.mem_cons, List.not_mem_nil, or_false] at hp hb
    rcases hp with e | e | e | e | e
    · rw [e]; rcases hb with rfl | rfl
      · exact h1.out.symm
      · exact h2.out.symm
    · rw [e]; rcases hb with rfl | rfl
      · exact h3.out.symm
      · exact h4.out.symm
    · rw [e]; rcases hb with rfl | rfl
      · exact h5.out.symm
      · exact h6.out.symm
    · rw [e]; rcases hb with rfl | rfl
      · exact h7.out.symm
      · exact h8.out.symm
    · exact hoff p e b (by rcases hb with rfl | rfl <;> simp)
  · intro tl tds Ts kk h' tk' oP' oc' pl2 ext F' N' hp' hb hn ht ha hl ho
    refine ret tl tds Ts kk h' tk' oP' oc' pl2 ext _ rfl F' (fun p hp => N' p ?_) hp' hb (fun p hp => ⟨hn p hp (I, oI) (by simp), fun q hq => hn p hp q (by simp [hq])⟩) ht ha hl (fun p hp b hb => ?_)
    · simp only [List.mem_cons, List.mem_append] at hp ⊢
      rcases hp with e | e | e | e | e | e | e | e <;> simp [e]
    · rcases List.mem_append.mp hp with e | e
      · simp only [List.mem_cons, List.not_mem_nil, or_false] at hb
        rcases hb with rfl | rfl | rfl | rfl | rfl
        · exact Nat.ne_of_gt (hn p e (_, opl) (by simp))
        · exact Nat.ne_of_gt (hn p e (_, oll) (by simp))
        · exact Nat.ne_of_gt (hn p e (_, o1) (by simp))
        · exact ho p (List.mem_append_left _ e) _ (by simp)
        · exact ho p (List.mem_append_left _ e) _ (by simp)
      · exact hoff p e b hb
/-- Alternates made so far, in the comprehension of one turn -/
def AltsJ (prog : Program) (w : World) (e1 e2 e3 e4 e5 e6 : Addr × Obj) (ext2 own4 : List (Addr × Obj)) (tds : List Addr) (Ts : List (Int → Option (List Int))) (i : Nat) (ys : List Value) (news : List (Addr × Obj)) : Prop :=
  ∃ (ext3 : List (Addr × Obj)) (als : List Addr), news = e1 :: e2 :: e3 :: e4 :: e5 :: e6 :: (ext3 ++ (ext2 ++ own4)) ∧ ys = als.map Value.ref ∧ All2 (AltIn prog w (ext3 ++ ext2)) als (Ts.take i) ∧ All2 (SameTab prog w (ext3 ++ ext2)) als (tds.take i) ∧
    ∀ p ∈ ext3, ∀ q ∈ e1 :: e2 :: e3 :: e4 :: e5 :: e6 :: (ext2 ++ own4), @LT.lt Nat _ q.1 p.1
theorem alts_end {S : List (Addr × Obj) → Prop} {e1 e2 e3 e4 e5 e6 : Addr × Obj} {ext2 ext3 own4 big : List (Addr × Obj)} {tds als : List Addr} {Ts : List (Int → Option (List Int))} {i na : Nat} {x' d' M Ic Cc Dc td : Addr} {o9 oIc oCc oDc o : Obj} {ea : List DictEntry} {kvs : List (Int × Value)} {T : Int → Option (List Int)} {h' : Heap} {tk' : Nat} {ys : List Value}
    (F : Fr h₀ L h' m) (N : News h₀ L h' ((x', instObj 170 d') :: (d', dictOf ea na) :: (M, o9) :: (Ic, oIc) :: (Cc, oCc) :: (Dc, oDc) :: big)) (h6 : big = e1 :: e2 :: e3 :: e4 :: e5 :: e6 :: (ext3 ++ (ext2 ++ own4))) (off : LCg.Off3 Ic Cc Dc big)
    (hmap : getL (Str.ofString "mapping") ea = some (some (.ref M))) (lo : (M == sysModules) = false) (hdk9 : o9.IsDictOf (intKind prog w) kvs) (lotd : (td == sysModules) = false) (mtd : (td, o) ∈ ext2) (hdk : o.IsDictOf (intKind prog w) kvs) (hkl : kvs.length ≤ 100) (hprs : Pairs ext2 kvs T)
    (hTi : Ts[i]? = some T) (htd : tds[i]? = some td) (hys : ys = als.map Value.ref) (ha : All2 (AltIn prog w (ext3 ++ ext2)) als (Ts.take i)) (hs : All2 (SameTab prog w (ext3 ++ ext2)) als (tds.take i)) (hn : ∀ p ∈ ext3, ∀ q ∈ e1 :: e2 :: e3 :: e4 :: e5 :: e6 :: (ext2 ++ own4), @LT.lt Nat _ q.1 p.1)
    (lM : @LT.lt Nat _ Ic M ∧ @LT.lt Nat _ Cc M ∧ @LT.lt Nat _ Dc M ∧ AllLt M big) (l5 : @LT.lt Nat _ M d') (l6 : @LT.lt Nat _ d' x')
    (hS : S (e1 :: e2 :: e3 :: e4 :: e5 :: e6 :: (((x', instObj 170 d') :: (d', dictOf ea na) :: (M, o9) :: ext3) ++ (ext2 ++ own4)))) :
    LCg.CompEnd h₀ L m s Ic oIc Cc oCc Dc oDc S (fun y news' => AltsJ prog w e1 e2 e3 e4 e5 e6 ext2 own4 tds Ts (i + 1) (ys ++ [y]) news') (.ref x') { s with heap := h', toks := tk' } := by
  subst h6
  obtain ⟨l1, l2, l3, lA⟩ := lM
  have lA' := ktn_ltOf lA
  have hsub : ∀ p ∈ ext3 ++ ext2, p ∈ ((x', instObj 170 d') :: (d', dictOf ea na) :: (M, o9) :: ext3) ++ ext2 := fun p hp => .tail _ (.tail _ (.tail _ hp))
  have hsub2 : ∀ p ∈ ext2, p ∈ ((x', instObj 170 d') :: (d', dictOf ea na) :: (M, o9) :: ext3) ++ ext2 := fun p hp => hsub p (List.mem_append_right _ hp)
  refine LCg.CompEnd.intro F N (e1 :: e2 :: e3 :: e4 :: e5 :: e6 :: (((x', instObj 170 d') :: (d', dictOf ea na) :: (M, o9) :: ext3) ++ (ext2 ++ own4))) (fun p hp => ?_) ?_ hS ⟨_, als ++ [x'], rfl, by simp [hys], ?_, ?_, ?_⟩
  · simp only [List.mem_cons, List.mem_append] at hp ⊢
    rcases hp with e | e | e | e | e | e | e | e | e | ((e | e | e | e) | e) <;> simp [e]
  · refine LCg.Off3.of fun p hp => ?_
    have hm := off.mem
    simp only [List.mem_cons, List.mem_append] at hp
    rcases hp with e | e | e | e | e | e | ((e | e | e | e) | e | e)
    · exact hm p (by simp [e])
    · exact hm p (by simp [e])
    · exact hm p (by simp [e])
    · exact hm p (by simp [e])
    · exact hm p (by simp [e])
    · exact hm p (by simp [e])
    · rw [e]; refine ⟨?_, ?_, ?_⟩
      · show @Ne Nat x' Ic; omega
      · show @Ne Nat x' Cc; omega
      · show @Ne Nat x' Dc; omega
    · rw [e]; refine ⟨?_, ?_, ?_⟩
      · show @Ne Nat d' Ic; omega
      · show @Ne Nat d' Cc; omega
      · show @Ne Nat d' Dc; omega
    · rw [e]; refine ⟨?_, ?_, ?_⟩
      · show @Ne Nat M Ic; omega
      · show @Ne Nat M Cc; omega
      · show @Ne Nat M Dc; omega
    · exact hm p (by simp [e])
    · exact hm p (by simp [e])
    · exact hm p (by simp [e])
  · rw [List.take_add_one, hTi]
    exact (all2_imp (fun _ _ h => h.mono hsub) ha).snoc ⟨d', ea, na, M, .head _, .tail _ (.head _), hmap, lo, o9, kvs, .tail _ (.tail _ (.head _)), hdk9, hkl, hprs.mono hsub2⟩
  · rw [List.take_add_one, htd]
    exact (all2_imp (fun _ _ h => h.mono hsub) hs).snoc ⟨d', ea, na, M, o9, o, kvs, .head _, .tail _ (.head _), hmap, lo, lotd, .tail _ (.tail _ (.head _)), hsub2 _ mtd, hdk9, hdk⟩
  · have key : ∀ q ∈ e1 :: e2 :: e3 :: e4 :: e5 :: e6 :: (ext2 ++ own4), @LT.lt Nat _ q.1 M := fun q hq => lA' q (by
      simp only [List.mem_cons, List.mem_append] at hq ⊢
      rcases hq with e | e | e | e | e | e | e | e <;> simp [e])
    intro p hp q hq
    have hk := key q hq
    simp only [List.mem_cons, List.mem_append] at hp
    rcases hp with e | e | e | e
    · rw [e]; show @LT.lt Nat _ q.1 x'; omega
    · rw [e]; show @LT.lt Nat _ q.1 d'; omega
    · rw [e]; exact hk
    · exact hn p e q hq
theorem turns_end {P c rl b gd pl ll a1 I lk dlk pt tl tl2 : Addr} {led3 own4 ext ext2 ext3 : List (Addr × Obj)} {n k i kk kp kl np nd k2 : Nat} {oI oP oc o1 : Obj} {tns : List Tn} {p' : Int} {h' : Heap} {tk' : Nat} {m₂ : Str → Option Value} {news : List (Addr × Obj)} {tds als : List Addr} {Ts : List (Int → Option (List Int))} {elk : List DictEntry} {ts tw tkd tf : Tok} {sh wd : Nat} {pb : Bool} {si wi : Int} (hsi : si = (sh : Int)) (hwi : wi = (wd : Int))
    (F : Fr h₀ L h' m₂) (N : News h₀ L h' news) (h4 : own4 = ext ++ led3)
    (hsub : ∀ p ∈ (I, oI) :: (pl, listOf ((tns.map fun t => Value.ref (Tn.pt t)).toArray.push (.ref pt)) kp) :: (ll, listOf ((tns.map fun t => Value.ref (Tn.lk t)).toArray.push (.ref lk)) kl) :: (a1, o1) :: (P, oP) :: (c, oc) ::
      (((lk, instObj 271 dlk) :: (dlk, dictOf elk nd) :: (tl2, listOf (als.map Value.ref).toArray k2) :: (pt, tupObj [.ref tl, .int si ts, .int wi tw, .bool pb] np) :: (ext3 ++ ext2)) ++ own4), p ∈ news)
    (hm : LawNames m₂ P rl b gd pl ll) (hc : Ex.Cell o1) (hp : PotSt c oP oc n k p') (hpl : 1 ≤ p' ∧ p' ≤ 17 + 100 * ((i + 1 : Nat) : Int)) (hnew : ∀ p ∈ ext, ∀ q ∈ led3, @Ne Nat p.1 q.1) (hoff : OwnOff own4 [pl, ll, a1, P, c]) (htn : ∀ t ∈ tns, TnOk prog w ext t) (hl : tns.length = i)
    (n1 : ∀ p ∈ (lk, instObj 271 dlk) :: (dlk, dictOf elk nd) :: (tl2, listOf (als.map Value.ref).toArray k2) :: (pt, tupObj [.ref tl, .int si ts, .int wi tw, .bool pb] np) :: (ext3 ++ ext2), (@Ne Nat p.1 I) ∧ ∀ q ∈ own4, @Ne Nat p.1 q.1)
    (n2 : OwnOff ((lk, instObj 271 dlk) :: (dlk, dictOf elk nd) :: (tl2, listOf (als.map Value.ref).toArray k2) :: (pt, tupObj [.ref tl, .int si ts, .int wi tw, .bool pb] np) :: (ext3 ++ ext2)) [pl, ll, a1, P, c])
    (htl : (tl, listOf (tds.map Value.ref).toArray kk) ∈ ext2) (hT : All2 (TabIn prog w ext2) tds Ts) (hlen : tds.length = 1 ∨ tds.length = 2) (hsh : sh ≤ 5) (hwd : 1 ≤ wd ∧ wd ≤ 3) (ha : All2 (AltIn prog w (ext3 ++ ext2)) als Ts) (hsm : All2 (SameTab prog w (ext3 ++ ext2)) als tds)
    (g1 : getL (Str.ofString "tables") elk = some (some (.ref tl2))) (g2 : getL (Str.ofString "kind") elk = some (some (.str (Str.ofString "alternate") tkd))) (g3 : getL (Str.ofString "flag") elk = some (some (.int (flOf pb) tf)))
    {vpl vll : List Value} {q1 q2 : Nat} (hne : ∀ p ∈ (pl, listOf vpl.toArray q1) :: (ll, listOf vll.toArray q2) :: own4, @Ne Nat p.1 I) (j1 : Apart a1 I) (j2 : Apart P I) (j3 : Apart c I) :
    LedEnd h₀ L (TurnsJ prog w P c rl b gd pl ll a1 led3 n k (i + 1)) I oI s { s with heap := h', toks := tk' } := by
  subst hsi
  subst hwi
  subst h4
  have e1 : (tns.map fun t => Value.ref (Tn.pt t)).toArray.push (.ref pt) = ((tns ++ [Tn.mk pt lk tl tds Ts kk sh wd pb]).map fun t => Value.ref (Tn.pt t)).toArray := by simp
  have e2 : (tns.map fun t => Value.ref (Tn.lk t)).toArray.push (.ref lk) = ((tns ++ [Tn.mk pt lk tl tds Ts kk sh wd pb]).map fun t => Value.ref (Tn.lk t)).toArray := by simp
  rw [e1, e2] at hsub
  obtain ⟨new, hnw⟩ : ∃ new, new = (lk, instObj 271 dlk) :: (dlk, dictOf elk nd) :: (tl2, listOf (als.map Value.ref).toArray k2) :: (pt, tupObj [.ref tl, .int (sh : Int) ts, .int (wd : Int) tw, .bool pb] np) :: (ext3 ++ ext2) := ⟨_, rfl⟩
  have s2 : ∀ p ∈ ext2, p ∈ new := fun p hp => by rw [hnw]; exact .tail _ (.tail _ (.tail _ (.tail _ (List.mem_append_right _ hp))))
  have s3 : ∀ p ∈ ext3 ++ ext2, p ∈ new := fun p hp => by rw [hnw]; exact .tail _ (.tail _ (.tail _ (.tail _ hp)))
  have m1 : (lk, instObj 271 dlk) ∈ new := by rw [hnw]; exact .head _
  have m2 : (dlk, dictOf elk nd) ∈ new := by rw [hnw]; exact .tail _ (.head _)
  have m3 : (tl2, listOf (als.map Value.ref).toArray k2) ∈ new := by rw [hnw]; exact .tail _ (.tail _ (.head _))
  have m4 : (pt, tupObj [.ref tl, .int (sh : Int) ts, .int (wd : Int) tw, .bool pb] np) ∈ new := by rw [hnw]; exact .tail _ (.tail _ (.tail _ (.head _)))
  rw [← hnw] at hsub n1 n2
  have hal : als.length = 1 ∨ als.length = 2 := by rw [All2.length hsm]; exact hlen
  refine LedEnd.intro ((pl, listOf ((tns ++ [Tn.mk pt lk tl tds Ts kk sh wd pb]).map fun t => Value.ref (Tn.pt t)).toArray kp) :: (ll, listOf ((tns ++ [Tn.mk pt lk tl tds Ts kk sh wd pb]).map fun t => Value.ref (Tn.lk t)).toArray kl) :: (a1, o1) :: (P, oP) :: (c, oc) :: ((new ++ ext) ++ led3)) F (fun p hp => N p (hsub p ?_)) ?_
    ⟨oP, oc, o1, new ++ ext, tns ++ [Tn.mk pt lk tl tds Ts kk sh wd pb], p', kp, kl, hm, rfl, hc, hp, hpl, ?_, ?_, ?_, by simp [hl]⟩
  · simp only [List.mem_cons, List.mem_append] at hp ⊢
    rcases hp with e | e | e | e | e | e | (e | e) | e <;> simp [e]
  · intro p hp
    simp only [List.mem_cons, List.mem_append] at hp
    rcases hp with e | e | e | e | e | (e | e) | e
    · rw [e]; exact hne (pl, listOf vpl.toArray q1) (.head _)
    · rw [e]; exact hne (ll, listOf vll.toArray q2) (.tail _ (.head _))
    · rw [e]; exact j1.out
    · rw [e]; exact j2.out
    · rw [e]; exact j3.out
    · exact (n1 p e).1
    · exact hne p (.tail _ (.tail _ (List.mem_append_left _ e)))
    · exact hne p (.tail _ (.tail _ (List.mem_append_right _ e)))
  · intro p hp q hq
    rcases List.mem_append.mp hp with e | e
    · exact (n1 p e).2 q (List.mem_append_right _ hq)
    · exact hnew p e q hq
  · intro p hp b hb
    rw [List.append_assoc] at hp
    rcases List.mem_append.mp hp with e | e
    · exact n2 p e b hb
    · exact hoff p e b hb
  · intro t ht
    rcases List.mem_append.mp ht with e | e
    · exact (htn t e).mono fun p hp => List.mem_append_right _ hp
    · rw [List.mem_singleton.mp e]
      refine TnOk.mono (news := new) ⟨⟨np, ts, tw, m4⟩, s2 _ htl, all2_imp (fun _ _ h => h.mono s2) hT, hlen, hsh, hwd, ⟨⟨dlk, elk, nd, tl2, als, k2, tkd, tf, m1, m2, g1, g2, g3, m3, all2_imp (fun _ _ h => h.mono s3) ha, hal⟩⟩, ⟨dlk, elk, nd, tl2, als, k2, m1, m2, g1, m3, all2_imp (fun _ _ h => h.mono s3) hsm⟩⟩ fun p hp => List.mem_append_left _ hp
theorem all_nil {α : Type} {p : α → Prop} : ∀ q ∈ ([] : List α), p q := fun _ h => nomatch h
theorem all_cons {α : Type} {p : α → Prop} {e : α} {l : List α} (h : p e) (r : ∀ q ∈ l, p q) : ∀ q ∈ e :: l, p q := fun q hq => by
  rcases List.mem_cons.mp hq with e' | e'
  · rw [e']; exact h
  · exact r q e'
theorem all_app {α : Type} {p : α → Prop} {l l' : List α} (h : ∀ q ∈ l, p q) (r : ∀ q ∈ l', p q) : ∀ q ∈ l ++ l', p q := fun q hq => by
  rcases List.mem_append.mp hq with e' | e'
  · exact h q e'
  · exact r q e'
theorem turns_loop {A : Around} {env : Env} {body : List Stmt} {x : Str} {Q : Flow → Shared → Prop} {r P c rl b gd pl ll a1 a2 a3 : Addr} {t₀ u₀ v₀ : Tok} {n k n1 n2 : Nat} {m₀ : Str → Option Value} {e1 e2 e3 e4 e5 e6 e7 e8 e9 e10 e11 e12 e13 : Addr × Obj} {led led0 : List (Addr × Obj)} {oP oc o1 o2 o3 : Obj} {p0 : Int}
    (hh : A.handled = none) (hr : IsRange s.heap r 0 2 1 t₀ u₀ v₀) (F : Fr h₀ env.locals s.heap m₀) (N : News h₀ env.locals s.heap ((pl, listOf #[] n1) :: (ll, listOf #[] n2) :: e1 :: e2 :: e3 :: e4 :: e5 :: e6 :: e7 :: e8 :: e9 :: e10 :: e11 :: e12 :: e13 :: led0))
    (hled0 : led0 = (P, oP) :: (c, oc) :: (a1, o1) :: (a2, o2) :: (a3, o3) :: led) (hoff : OwnOff led [P, c, a1, a2, a3]) (hPc : @Ne Nat P c) (hoffc : OwnOff [(a3, o3), (a2, o2), (a1, o1)] [P, c]) (h12 : @Ne Nat a1 a2) (h13 : @Ne Nat a1 a3)
    (hz : ∀ p ∈ led0, @LT.lt Nat _ p.1 e13.1) (z : @LE.le Nat _ e13.1 e1.1 ∧ @LE.le Nat _ e13.1 e2.1 ∧ @LE.le Nat _ e13.1 e3.1 ∧ @LE.le Nat _ e13.1 e4.1 ∧ @LE.le Nat _ e13.1 e5.1 ∧ @LE.le Nat _ e13.1 e6.1 ∧ @LE.le Nat _ e13.1 e7.1 ∧ @LE.le Nat _ e13.1 e8.1 ∧ @LE.le Nat _ e13.1 e9.1 ∧ @LE.le Nat _ e13.1 e10.1 ∧ @LE.le Nat _ e13.1 e11.1 ∧ @LE.le Nat _ e13.1 e12.1) (H1 : @LT.lt Nat _ ll pl ∧ @LT.lt Nat _ e1.1 pl ∧ @LT.lt Nat _ e2.1 pl ∧ @LT.lt Nat _ e3.1 pl ∧ @LT.lt Nat _ e4.1 pl ∧ @LT.lt Nat _ e5.1 pl ∧ @LT.lt Nat _ e6.1 pl ∧ @LT.lt Nat _ e7.1 pl ∧ @LT.lt Nat _ e8.1 pl ∧ @LT.lt Nat _ e9.1 pl ∧ @LT.lt Nat _ e10.1 pl ∧ @LT.lt Nat _ e11.1 pl ∧ @LT.lt Nat _ e12.1 pl ∧ @LT.lt Nat _ e13.1 pl ∧ AllLt pl led0) (H2 : @LT.lt Nat _ e1.1 ll ∧ @LT.lt Nat _ e2.1 ll ∧ @LT.lt Nat _ e3.1 ll ∧ @LT.lt Nat _ e4.1 ll ∧ @LT.lt Nat _ e5.1 ll ∧ @LT.lt Nat _ e6.1 ll ∧ @LT.lt Nat _ e7.1 ll ∧ @LT.lt Nat _ e8.1 ll ∧ @LT.lt Nat _ e9.1 ll ∧ @LT.lt Nat _ e10.1 ll ∧ @LT.lt Nat _ e11.1 ll ∧ @LT.lt Nat _ e12.1 ll ∧ @LT.lt Nat _ e13.1 ll ∧ AllLt ll led0) (hc1 : Ex.Cell o1) (hp : PotSt c oP oc n k p0) (hp0 : 1 ≤ p0 ∧ p0 ≤ 17) (hm : LawNames m₀ P rl b gd pl ll)
    (turn : ∀ (i : Nat) (t : Tok) (m₁ : Str → Option Value) (h : Heap) (tk : Nat) (I : Addr) (oI oP oc o1 : Obj) (ext : List (Addr × Obj)) (tns : List Tn) (p' : Int) (kp kl : Nat) (own4 : List (Addr × Obj)), i < 2 → LawNames m₁ P rl b gd pl ll → own4 = ext ++ (e1 :: e2 :: e3 :: e4 :: e5 :: e6 :: e7 :: e8 :: e9 :: e10 :: e11 :: e12 :: e13 :: (a2, o2) :: (a3, o3) :: led) → Ex.Cell o1 → PotSt c oP oc n k p' → (1 ≤ p' ∧ p' ≤ 17 + 100 * (i : Int)) →
      (∀ p ∈ ext, ∀ q ∈ e1 :: e2 :: e3 :: e4 :: e5 :: e6 :: e7 :: e8 :: e9 :: e10 :: e11 :: e12 :: e13 :: (a2, o2) :: (a3, o3) :: led, @Ne Nat p.1 q.1) → OwnOff own4 [pl, ll, a1, P, c] → (∀ t ∈ tns, TnOk prog w ext t) → tns.length = i → (∀ p ∈ (pl, listOf (tns.map fun t => Value.ref (Tn.pt t)).toArray kp) :: (ll, listOf (tns.map fun t => Value.ref (Tn.lk t)).toArray kl) :: own4, @Ne Nat p.1 I) →
      Apart pl I → Apart ll I → Apart a1 I → Apart P I → Apart c I → Apart ll pl → Apart a1 pl → Apart P pl → Apart c pl → Apart a1 ll → Apart P ll → Apart c ll → Apart P a1 → Apart c a1 → @Ne Nat P c →
      Fr h₀ env.locals h (fun y => if y = x then some (.int (i : Int) t) else m₁ y) → News h₀ env.locals h ((I, oI) :: (pl, listOf (tns.map fun t => Value.ref (Tn.pt t)).toArray kp) :: (ll, listOf (tns.map fun t => Value.ref (Tn.lk t)).toArray kl) :: (a1, o1) :: (P, oP) :: (c, oc) :: own4) →
      wpAny (model prog w) A (execs body env) (LedPost h₀ env.locals (TurnsJ prog w P c rl b gd pl ll a1 (e1 :: e2 :: e3 :: e4 :: e5 :: e6 :: e7 :: e8 :: e9 :: e10 :: e11 :: e12 :: e13 :: (a2, o2) :: (a3, o3) :: led) n k (i + 1)) I oI { s with heap := h, toks := tk } Q) E { s with heap := h, toks := tk })
    (done : ∀ (m₁ : Str → Option Value) (h : Heap) (tk : Nat) (oP oc o1 : Obj) (ext : List (Addr × Obj)) (tns : List Tn) (p' : Int) (kp kl : Nat), (∀ q ∈ [e1, e2, e3, e4, e5, e6, e7, e8, e9, e10, e11, e12, e13], ∀ p ∈ led0, @LT.lt Nat _ p.1 q.1) → (∀ p ∈ led0, @LT.lt Nat _ p.1 pl ∧ @LT.lt Nat _ p.1 ll) → LawNames m₁ P rl b gd pl ll → Ex.Cell o1 → PotSt c oP oc n k p' → (1 ≤ p' ∧ p' ≤ 217) → (∀ p ∈ ext, ∀ q ∈ e1 :: e2 :: e3 :: e4 :: e5 :: e6 :: e7 :: e8 :: e9 :: e10 :: e11 :: e12 :: e13 :: (a2, o2) :: (a3, o3) :: led, @Ne Nat p.1 q.1) → OwnOff (ext ++ (e1 :: e2 :: e3 :: e4 :: e5 :: e6 :: e7 :: e8 :: e9 :: e10 :: e11 :: e12 :: e13 :: (a2, o2) :: (a3, o3) :: led)) [pl, ll, a1, P, c] → (∀ t ∈ tns, TnOk prog w ext t) → tns.length = 2 →
      @Ne Nat P c → Apart ll pl → Apart a1 pl → Apart P pl → Apart c pl → Apart a1 ll → Apart P ll → Apart c ll → Apart P a1 → Apart c a1 → Fr h₀ env.locals h m₁ → News h₀ env.locals h ((pl, listOf (tns.map fun t => Value.ref (Tn.pt t)).toArray kp) :: (ll, listOf (tns.map fun t => Value.ref (Tn.lk t)).toArray kl) :: (a1, o1) :: (P, oP) :: (c, oc) :: (ext ++ (e1 :: e2 :: e3 :: e4 :: e5 :: e6 :: e7 :: e8 :: e9 :: e10 :: e11 :: e12 :: e13 :: (a2, o2) :: (a3, o3) :: led))) → Q .next { s with heap := h, toks := tk }) :
    wpAny (model prog w) A (pyIter (.ref r)) (fun it s₂ => LoopAtV prog w A h₀ env x body Q E it s₂) E s := by
  have z1 := z.1
  have z2 := z.2.1
  have z3 := z.2.2.1
  have z4 := z.2.2.2.1
  have z5 := z.2.2.2.2.1
  have z6 := z.2.2.2.2.2.1
  have z7 := z.2.2.2.2.2.2.1
  have z8 := z.2.2.2.2.2.2.2.1
  have z9 := z.2.2.2.2.2.2.2.2.1
  have z10 := z.2.2.2.2.2.2.2.2.2.1
  have z11 := z.2.2.2.2.2.2.2.2.2.2.1
  have z12 := z.2.2.2.2.2.2.2.2.2.2.2
  clear z
  have H0 := H1.1
  have u1 := H1.2.1
  have u2 := H1.2.2.1
  have u3 := H1.2.2.2.1
  have u4 := H1.2.2.2.2.1
  have u5 := H1.2.2.2.2.2.1
  have u6 := H1.2.2.2.2.2.2.1
  have u7 := H1.2.2.2.2.2.2.2.1
  have u8 := H1.2.2.2.2.2.2.2.2.1
  have u9 := H1.2.2.2.2.2.2.2.2.2.1
  have u10 := H1.2.2.2.2.2.2.2.2.2.2.1
  have u11 := H1.2.2.2.2.2.2.2.2.2.2.2.1
  have u12 := H1.2.2.2.2.2.2.2.2.2.2.2.2.1
  have u13 := H1.2.2.2.2.2.2.2.2.2.2.2.2.2.1
  clear H1
  have v1 := H2.1
  have v2 := H2.2.1
  have v3 := H2.2.2.1
  have v4 := H2.2.2.2.1
  have v5 := H2.2.2.2.2.1
  have v6 := H2.2.2.2.2.2.1
  have v7 := H2.2.2.2.2.2.2.1
  have v8 := H2.2.2.2.2.2.2.2.1
  have v9 := H2.2.2.2.2.2.2.2.2.1
  have v10 := H2.2.2.2.2.2.2.2.2.2.1
  have v11 := H2.2.2.2.2.2.2.2.2.2.2.1
  have v12 := H2.2.2.2.2.2.2.2.2.2.2.2.1
  have v13 := H2.2.2.2.2.2.2.2.2.2.2.2.2.1
  clear H2
  have lP : @LT.lt Nat _ P e13.1 := hz (P, oP) (by rw [hled0]; exact .head _)
  have lc : @LT.lt Nat _ c e13.1 := hz (c, oc) (by rw [hled0]; exact .tail _ (.head _))
  have la1 : @LT.lt Nat _ a1 e13.1 := hz (a1, o1) (by rw [hled0]; exact .tail _ (.tail _ (.head _)))
  have la2 : @LT.lt Nat _ a2 e13.1 := hz (a2, o2) (by rw [hled0]; exact .tail _ (.tail _ (.tail _ (.head _))))
  have la3 : @LT.lt Nat _ a3 e13.1 := hz (a3, o3) (by rw [hled0]; exact .tail _ (.tail _ (.tail _ (.tail _ (.head _)))))
  have lled : ∀ p ∈ led, @LT.lt Nat _ p.1 e13.1 := fun p hp => hz p (by rw [hled0]; exact .tail _ (.tail _ (.tail _ (.tail _ (.tail _ hp)))))
  have aPl : Apart ll pl := Apart.of (by omega)
  have a1p : Apart a1 pl := Apart.of (by omega)
  have aPp : Apart P pl := Apart.of (by omega)
  have acp : Apart c pl := Apart.of (by omega)
  have a1l : Apart a1 ll := Apart.of (by omega)
  have aPll : Apart P ll := Apart.of (by omega)
  have acl : Apart c ll := Apart.of (by omega)
  have aPa : Apart P a1 := Apart.of fun e => hoffc (a1, o1) (by simp) P (by simp) e.symm
  have aca : Apart c a1 := Apart.of fun e => hoffc (a1, o1) (by simp) c (by simp) e.symm
  have hlow : ∀ q ∈ [e1, e2, e3, e4, e5, e6, e7, e8, e9, e10, e11, e12, e13], @LE.le Nat _ e13.1 q.1 := (all_cons z1 (all_cons z2 (all_cons z3 (all_cons z4 (all_cons z5 (all_cons z6 (all_cons z7 (all_cons z8 (all_cons z9 (all_cons z10 (all_cons z11 (all_cons z12 (all_cons (Nat.le_refl _) all_nil)))))))))))))
  have hpl13 : ∀ q ∈ [e1, e2, e3, e4, e5, e6, e7, e8, e9, e10, e11, e12, e13], @LT.lt Nat _ q.1 pl := (all_cons u1 (all_cons u2 (all_cons u3 (all_cons u4 (all_cons u5 (all_cons u6 (all_cons u7 (all_cons u8 (all_cons u9 (all_cons u10 (all_cons u11 (all_cons u12 (all_cons u13 all_nil)))))))))))))
  have hll13 : ∀ q ∈ [e1, e2, e3, e4, e5, e6, e7, e8, e9, e10, e11, e12, e13], @LT.lt Nat _ q.1 ll := (all_cons v1 (all_cons v2 (all_cons v3 (all_cons v4 (all_cons v5 (all_cons v6 (all_cons v7 (all_cons v8 (all_cons v9 (all_cons v10 (all_cons v11 (all_cons v12 (all_cons v13 all_nil)))))))))))))
  have hoff3 : OwnOff ([e1, e2, e3, e4, e5, e6, e7, e8, e9, e10, e11, e12, e13] ++ ((a2, o2) :: (a3, o3) :: led)) [pl, ll, a1, P, c] := by
    have big : ∀ v : Nat, @LE.le Nat _ e13.1 v → @LT.lt Nat _ v ll → @LT.lt Nat _ v pl → ∀ b' ∈ [pl, ll, a1, P, c], @Ne Nat v b' := fun v v1 v2 v3 =>
      all_cons (Nat.ne_of_lt v3) (all_cons (Nat.ne_of_lt v2) (all_cons (Nat.ne_of_gt (Nat.lt_of_lt_of_le la1 v1)) (all_cons (Nat.ne_of_gt (Nat.lt_of_lt_of_le lP v1)) (all_cons (Nat.ne_of_gt (Nat.lt_of_lt_of_le lc v1)) all_nil))))
    have low : ∀ v : Nat, @LT.lt Nat _ v e13.1 → @Ne Nat v pl ∧ @Ne Nat v ll := fun v hv => ⟨Nat.ne_of_lt (Nat.lt_trans hv u13), Nat.ne_of_lt (Nat.lt_trans hv v13)⟩
    refine all_app (p := fun q : Addr × Obj => ∀ b ∈ [pl, ll, a1, P, c], @Ne Nat q.1 b) (fun q hq => big q.1 (hlow q hq) (hll13 q hq) (hpl13 q hq)) (all_cons ?_ (all_cons ?_ fun q hq => ?_))
    · exact all_cons (low a2 la2).1 (all_cons (low a2 la2).2 (all_cons h12.symm (all_cons (hoffc (a2, o2) (.tail _ (.head _)) _ (.head _)) (all_cons (hoffc (a2, o2) (.tail _ (.head _)) _ (.tail _ (.head _))) all_nil))))
    · exact all_cons (low a3 la3).1 (all_cons (low a3 la3).2 (all_cons h13.symm (all_cons (hoffc (a3, o3) (.head _) _ (.head _)) (all_cons (hoffc (a3, o3) (.head _) _ (.tail _ (.head _))) all_nil))))
    · exact all_cons (low q.1 (lled q hq)).1 (all_cons (low q.1 (lled q hq)).2 (all_cons (hoff q hq _ (.tail _ (.tail _ (.head _)))) (all_cons (hoff q hq _ (.head _)) (all_cons (hoff q hq _ (.tail _ (.head _))) all_nil))))
  have hbig : ∀ q ∈ [e1, e2, e3, e4, e5, e6, e7, e8, e9, e10, e11, e12, e13], ∀ p ∈ led0, @LT.lt Nat _ p.1 q.1 := fun q hq p hp => Nat.lt_of_lt_of_le (hz p hp) (hlow q hq)
  have m0 : ∀ p ∈ led0, p ∈ (pl, listOf #[] n1) :: (ll, listOf #[] n2) :: ([e1, e2, e3, e4, e5, e6, e7, e8, e9, e10, e11, e12, e13] ++ led0) := fun p hp => .tail _ (.tail _ (List.mem_append_right _ hp))
  have N0 : News h₀ env.locals s.heap ((pl, listOf #[] n1) :: (ll, listOf #[] n2) :: (a1, o1) :: (P, oP) :: (c, oc) :: ([] ++ (e1 :: e2 :: e3 :: e4 :: e5 :: e6 :: e7 :: e8 :: e9 :: e10 :: e11 :: e12 :: e13 :: (a2, o2) :: (a3, o3) :: led))) := fun p hp => N p (by
    refine all_cons (p := fun q => q ∈ (pl, listOf #[] n1) :: (ll, listOf #[] n2) :: ([e1, e2, e3, e4, e5, e6, e7, e8, e9, e10, e11, e12, e13] ++ led0)) (.head _) (all_cons (.tail _ (.head _)) (all_cons (m0 _ ?_) (all_cons (m0 _ ?_) (all_cons (m0 _ ?_) (all_app (l := [e1, e2, e3, e4, e5, e6, e7, e8, e9, e10, e11, e12, e13]) (fun q hq => .tail _ (.tail _ (List.mem_append_left _ hq))) (all_cons (m0 _ ?_) (all_cons (m0 _ ?_) fun q hq => m0 _ ?_))))))) p hp
    · rw [hled0]; exact .tail _ (.tail _ (.head _))
    · rw [hled0]; exact .head _
    · rw [hled0]; exact .tail _ (.head _)
    · rw [hled0]; exact .tail _ (.tail _ (.tail _ (.head _)))
    · rw [hled0]; exact .tail _ (.tail _ (.tail _ (.tail _ (.head _))))
    · rw [hled0]; exact .tail _ (.tail _ (.tail _ (.tail _ (.tail _ hq)))))
  refine iter_rng (n := 2) (TurnsJ prog w P c rl b gd pl ll a1 (e1 :: e2 :: e3 :: e4 :: e5 :: e6 :: e7 :: e8 :: e9 :: e10 :: e11 :: e12 :: e13 :: (a2, o2) :: (a3, o3) :: led) n k) hh hr (by decide) (by decide) F N0 ⟨oP, oc, o1, [], [], p0, n1, n2, hm, rfl, hc1, hp, ⟨by omega, by omega⟩, (fun _ h => nomatch h), hoff3, (fun _ h => nomatch h), rfl⟩ ?_ ?_
  · intro i t m₁ news₁ h tk I oI hi hJ9
    refine ex8and9 hJ9 ?_
    intro oP' oc' o1' ext tns p' kp kl hm' e9 hc' hp2 hpb hnew hof htn hl
    (try clear hJ9)
    subst e9
    intro hne F2 N2
    have F3 : Fr h₀ env.locals h (fun y => if y = x then some (.int (i : Int) t) else m₁ y) := by
      have e : (0 : Int) + (i : Int) = i := by omega
      rw [e] at F2; exact F2
    exact turn i t m₁ h tk I oI oP' oc' o1' ext tns p' kp kl _ hi hm' rfl hc' hp2 hpb hnew hof htn hl (fun p hp => hne p (by simp only [List.mem_cons] at hp ⊢; rcases hp with e | e | e <;> simp [e])) (hne _ (.head _)) (hne _ (.tail _ (.head _))) (hne _ (.tail _ (.tail _ (.head _)))) (hne _ (.tail _ (.tail _ (.tail _ (.head _))))) (hne _ (.tail _ (.tail _ (.tail _ (.tail _ (.head _)))))) aPl a1p aPp acp a1l aPll acl aPa aca hPc F3 N2
  · intro m₁ news₁ h tk hJ9
    refine ex8and9 hJ9 ?_
    intro oP' oc' o1' ext tns p' kp kl hm' e9 hc' hp2 hpb hnew hof htn hl
    (try clear hJ9)
    subst e9
    intro F2 N2
    exact done m₁ h tk oP' oc' o1' ext tns p' kp kl hbig (fun p hp => by have := hz p hp; exact ⟨by omega, by omega⟩) hm' hc' hp2 ⟨by omega, by omega⟩ hnew hof htn hl hPc aPl a1p aPp acp a1l aPll acl aPa aca F2 N2
theorem split_own {x y e1 e2 e3 e4 e5 e6 e7 e8 e9 e10 e11 e12 e13 p : Addr × Obj} {ext own2 : List (Addr × Obj)} (h : p ∈ x :: y :: e1 :: e2 :: e3 :: e4 :: e5 :: e6 :: e7 :: e8 :: e9 :: e10 :: e11 :: e12 :: e13 :: (ext ++ own2)) : p ∈ x :: y :: e1 :: e2 :: e3 :: e4 :: e5 :: e6 :: e7 :: e8 :: e9 :: e10 :: e11 :: e12 :: e13 :: ext ∨ p ∈ own2 := by
  rw [show x :: y :: e1 :: e2 :: e3 :: e4 :: e5 :: e6 :: e7 :: e8 :: e9 :: e10 :: e11 :: e12 :: e13 :: (ext ++ own2) = (x :: y :: e1 :: e2 :: e3 :: e4 :: e5 :: e6 :: e7 :: e8 :: e9 :: e10 :: e11 :: e12 :: e13 :: ext) ++ own2 from rfl] at h
  exact List.mem_append.mp h
theorem split_ext {x y e1 e2 e3 e4 e5 e6 e7 e8 e9 e10 e11 e12 e13 p : Addr × Obj} {ext : List (Addr × Obj)} (h : p ∈ x :: y :: e1 :: e2 :: e3 :: e4 :: e5 :: e6 :: e7 :: e8 :: e9 :: e10 :: e11 :: e12 :: e13 :: ext) : p ∈ x :: y :: [e1, e2, e3, e4, e5, e6, e7, e8, e9, e10, e11, e12, e13] ∨ p ∈ ext := by
  rw [show x :: y :: e1 :: e2 :: e3 :: e4 :: e5 :: e6 :: e7 :: e8 :: e9 :: e10 :: e11 :: e12 :: e13 :: ext = (x :: y :: [e1, e2, e3, e4, e5, e6, e7, e8, e9, e10, e11, e12, e13]) ++ ext from rfl] at h
  exact List.mem_append.mp h
theorem after_turns {h : Heap} {P c pl ll a1 a2 a3 : Addr} {oP oc opl oll o1 o2 o3 : Obj} {e1 e2 e3 e4 e5 e6 e7 e8 e9 e10 e11 e12 e13 : Addr × Obj} {led led0 own2 ext : List (Addr × Obj)} {oP0 oc0 o10 : Obj} {infs : List Inf} {rws : List Row}
    (N : News h₀ L h ((pl, opl) :: (ll, oll) :: (a1, o1) :: (P, oP) :: (c, oc) :: (ext ++ (e1 :: e2 :: e3 :: e4 :: e5 :: e6 :: e7 :: e8 :: e9 :: e10 :: e11 :: e12 :: e13 :: (a2, o2) :: (a3, o3) :: led)))) (hled : led = infs.map Inf.ent ++ (rws.map Row.ent ++ own2)) (hled0 : led0 = (P, oP0) :: (c, oc0) :: (a1, o10) :: (a2, o2) :: (a3, o3) :: led)
    (hbig : ∀ q ∈ [e1, e2, e3, e4, e5, e6, e7, e8, e9, e10, e11, e12, e13], ∀ p ∈ led0, @LT.lt Nat _ p.1 q.1) (hpl : ∀ p ∈ led0, @LT.lt Nat _ p.1 pl ∧ @LT.lt Nat _ p.1 ll) (hnew : ∀ p ∈ ext, ∀ q ∈ e1 :: e2 :: e3 :: e4 :: e5 :: e6 :: e7 :: e8 :: e9 :: e10 :: e11 :: e12 :: e13 :: (a2, o2) :: (a3, o3) :: led, @Ne Nat p.1 q.1) (hoff4 : OwnOff (ext ++ (e1 :: e2 :: e3 :: e4 :: e5 :: e6 :: e7 :: e8 :: e9 :: e10 :: e11 :: e12 :: e13 :: (a2, o2) :: (a3, o3) :: led)) [pl, ll, a1, P, c]) (hoff7 : OwnOff led [P, c, a1, a2, a3])
    (hoffd : OwnOff own2 (infs.map Inf.dx)) (hoffa : OwnOff own2 (rws.map Row.a)) :
    ∃ base6, (∀ p ∈ (pl, opl) :: (ll, oll) :: e1 :: e2 :: e3 :: e4 :: e5 :: e6 :: e7 :: e8 :: e9 :: e10 :: e11 :: e12 :: e13 :: (ext ++ own2), p ∈ base6) ∧ News h₀ L h ((P, oP) :: (c, oc) :: (a1, o1) :: (a2, o2) :: (a3, o3) :: (infs.map Inf.ent ++ (rws.map Row.ent ++ base6))) ∧ OwnOff base6 (infs.map Inf.dx) ∧ OwnOff base6 (rws.map Row.a) ∧ OwnOff (infs.map Inf.ent ++ (rws.map Row.ent ++ base6)) [P, c, a1, a2, a3] := by
  have lowd : ∀ p ∈ led, ∀ q ∈ (pl, opl) :: (ll, oll) :: e1 :: e2 :: e3 :: e4 :: e5 :: e6 :: e7 :: e8 :: e9 :: e10 :: e11 :: e12 :: e13 :: ext, @Ne Nat q.1 p.1 := fun p hp => by
    have hp0 : p ∈ led0 := by rw [hled0]; exact .tail _ (.tail _ (.tail _ (.tail _ (.tail _ hp))))
    exact all_cons (Nat.ne_of_gt (hpl p hp0).1) (all_cons (Nat.ne_of_gt (hpl p hp0).2) (all_app (l := [e1, e2, e3, e4, e5, e6, e7, e8, e9, e10, e11, e12, e13]) (fun q hq => Nat.ne_of_gt (hbig q hq p hp0)) fun q hq => hnew q hq p (List.mem_append_right [e1, e2, e3, e4, e5, e6, e7, e8, e9, e10, e11, e12, e13] (.tail _ (.tail _ hp)))))
  have lowc0 : ∀ b ∈ [P, c, a1, a2, a3], ∃ ob, (b, ob) ∈ led0 := by
    rw [hled0]
    exact all_cons ⟨oP0, .head _⟩ (all_cons ⟨oc0, .tail _ (.head _)⟩ (all_cons ⟨o10, .tail _ (.tail _ (.head _))⟩ (all_cons ⟨o2, .tail _ (.tail _ (.tail _ (.head _)))⟩ (all_cons ⟨o3, .tail _ (.tail _ (.tail _ (.tail _ (.head _))))⟩ all_nil))))
  have lowc : ∀ b ∈ [P, c, a1, a2, a3], ∀ q ∈ (pl, opl) :: (ll, oll) :: [e1, e2, e3, e4, e5, e6, e7, e8, e9, e10, e11, e12, e13], @LT.lt Nat _ b q.1 := fun b hb => by
    obtain ⟨ob, hb0⟩ := lowc0 b hb
    exact all_cons (hpl _ hb0).1 (all_cons (hpl _ hb0).2 fun q hq => hbig q hq _ hb0)
  have md : ∀ j ∈ infs, j.ent ∈ led := fun j hj => by rw [hled]; exact List.mem_append_left _ (List.mem_map_of_mem hj)
  have ma : ∀ r ∈ rws, r.ent ∈ led := fun r hr => by rw [hled]; exact List.mem_append_right _ (List.mem_append_left _ (List.mem_map_of_mem hr))
  have mo : ∀ p ∈ own2, p ∈ led := fun p hp => by rw [hled]; exact List.mem_append_right _ (List.mem_append_right _ hp)
  have offc : ∀ b ∈ [P, c, a1, a2, a3], ∀ p ∈ ext, @Ne Nat p.1 b := by
    refine all_cons (fun p e => hoff4 p (List.mem_append_left _ e) _ (.tail _ (.tail _ (.tail _ (.head _))))) (all_cons (fun p e => hoff4 p (List.mem_append_left _ e) _ (.tail _ (.tail _ (.tail _ (.tail _ (.head _)))))) (all_cons (fun p e => hoff4 p (List.mem_append_left _ e) _ (.tail _ (.tail _ (.head _)))) (all_cons (fun p e => hnew p e (a2, o2) (List.mem_append_right [e1, e2, e3, e4, e5, e6, e7, e8, e9, e10, e11, e12, e13] (.head _))) (all_cons (fun p e => hnew p e (a3, o3) (List.mem_append_right [e1, e2, e3, e4, e5, e6, e7, e8, e9, e10, e11, e12, e13] (.tail _ (.head _)))) all_nil))))
  have t5 : ∀ {p x1 x2 x3 x4 x5 : Addr × Obj} {l : List (Addr × Obj)}, p ∈ l → p ∈ x1 :: x2 :: x3 :: x4 :: x5 :: l := fun h => .tail _ (.tail _ (.tail _ (.tail _ (.tail _ h))))
  refine ⟨(pl, opl) :: (ll, oll) :: e1 :: e2 :: e3 :: e4 :: e5 :: e6 :: e7 :: e8 :: e9 :: e10 :: e11 :: e12 :: e13 :: (ext ++ own2), fun p hp => hp, fun p hp => N p ?_, fun p hp b hb => ?_, fun p hp b hb => ?_, fun p hp b hb => ?_⟩
  · refine all_cons (p := fun q => q ∈ (pl, opl) :: (ll, oll) :: (a1, o1) :: (P, oP) :: (c, oc) :: (ext ++ ([e1, e2, e3, e4, e5, e6, e7, e8, e9, e10, e11, e12, e13] ++ ((a2, o2) :: (a3, o3) :: led)))) (.tail _ (.tail _ (.tail _ (.head _)))) (all_cons (.tail _ (.tail _ (.tail _ (.tail _ (.head _))))) (all_cons (.tail _ (.tail _ (.head _))) (all_cons (t5 (List.mem_append_right _ (List.mem_append_right _ (.head _)))) (all_cons (t5 (List.mem_append_right _ (List.mem_append_right _ (.tail _ (.head _))))) (all_app (fun q hq => ?_) (all_app (fun q hq => ?_) (all_cons (.head _) (all_cons (.tail _ (.head _)) (all_app (l := [e1, e2, e3, e4, e5, e6, e7, e8, e9, e10, e11, e12, e13]) (fun q hq => t5 (List.mem_append_right _ (List.mem_append_left _ hq))) (all_app (fun q hq => t5 (List.mem_append_left _ hq)) fun q hq => ?_)))))))))) p hp
    · exact t5 (List.mem_append_right _ (List.mem_append_right _ (.tail _ (.tail _ (by rw [hled]; exact List.mem_append_left _ hq)))))
    · exact t5 (List.mem_append_right _ (List.mem_append_right _ (.tail _ (.tail _ (by rw [hled]; exact List.mem_append_right _ (List.mem_append_left _ hq))))))
    · exact t5 (List.mem_append_right _ (List.mem_append_right _ (.tail _ (.tail _ (mo q hq)))))
  · obtain ⟨j, hj, rfl⟩ := List.mem_map.mp hb
    rcases split_own hp with e | e
    · exact lowd _ (md j hj) p e
    · exact hoffd p e _ hb
  · obtain ⟨r, hr, rfl⟩ := List.mem_map.mp hb
    rcases split_own hp with e | e
    · exact lowd _ (ma r hr) p e
    · exact hoffa p e _ hb
  · rcases List.mem_append.mp hp with e | e
    · obtain ⟨j, hj, rfl⟩ := List.mem_map.mp e
      exact hoff7 _ (md j hj) b hb
    · rcases List.mem_append.mp e with e | e
      · obtain ⟨r, hr, rfl⟩ := List.mem_map.mp e
        exact hoff7 _ (ma r hr) b hb
      · rcases split_own e with e | e
        · rcases split_ext e with e | e
          · exact Nat.ne_of_gt (lowc b hb p e)
          · exact offc b hb p e
        · exact hoff7 _ (mo p e) b hb
theorem pull7 {h : Heap} {x e1 e2 e3 e4 e5 e6 : Addr × Obj} {l : List (Addr × Obj)} (N : News h₀ L h (x :: e1 :: e2 :: e3 :: e4 :: e5 :: e6 :: l)) : News h₀ L h (e1 :: e2 :: e3 :: e4 :: e5 :: e6 :: (x :: l)) := fun p hp => N p (by
  simp only [List.mem_cons] at hp ⊢
  rcases hp with e | e | e | e | e | e | e | e <;> simp [e])
theorem turn_new {I pl ll a1 P c D pt dlk lk : Addr} {oI opl oll o1 oP oc oD op odl olk : Obj} {ext3 ext9 own4 : List (Addr × Obj)}
    (offD : LCg.Off1 D ((I, oI) :: (pl, opl) :: (ll, oll) :: (a1, o1) :: (P, oP) :: (c, oc) :: (ext3 ++ (((pt, op) :: ext9) ++ own4)))) (hn : ∀ p ∈ ext3, ∀ q ∈ (I, oI) :: (pl, opl) :: (ll, oll) :: (a1, o1) :: (P, oP) :: (c, oc) :: (((pt, op) :: ext9) ++ own4), @LT.lt Nat _ q.1 p.1)
    (off9 : OwnOff (ext9 ++ own4) [pl, ll, a1, P, c]) (n9 : ∀ p ∈ ext9, @LT.lt Nat _ I p.1 ∧ ∀ q ∈ own4, @LT.lt Nat _ q.1 p.1)
    (y : @LT.lt Nat _ I pt ∧ @LT.lt Nat _ pl pt ∧ @LT.lt Nat _ ll pt ∧ @LT.lt Nat _ a1 pt ∧ @LT.lt Nat _ P pt ∧ @LT.lt Nat _ c pt) (y7 : ∀ p ∈ ext9 ++ own4, @LT.lt Nat _ p.1 pt)
    (v : @LT.lt Nat _ I dlk ∧ @LT.lt Nat _ pl dlk ∧ @LT.lt Nat _ ll dlk ∧ @LT.lt Nat _ a1 dlk ∧ @LT.lt Nat _ P dlk ∧ @LT.lt Nat _ c dlk) (v7 : ∀ p ∈ ext3 ++ (((pt, op) :: ext9) ++ own4), @LT.lt Nat _ p.1 dlk) (v8 : @LT.lt Nat _ dlk lk) :
    (∀ p ∈ (lk, olk) :: (dlk, odl) :: (D, oD) :: (pt, op) :: (ext3 ++ ((pt, op) :: ext9)), (@Ne Nat p.1 I) ∧ ∀ q ∈ own4, @Ne Nat p.1 q.1) ∧ OwnOff ((lk, olk) :: (dlk, odl) :: (D, oD) :: (pt, op) :: (ext3 ++ ((pt, op) :: ext9))) [pl, ll, a1, P, c] := by
  obtain ⟨y1, y2, y3, y4, y5, y6⟩ := y
  obtain ⟨v1, v2, v3, v4, v5, v6⟩ := v
  have hD := off1_mem offD
  have hv4 : ∀ q ∈ own4, @LT.lt Nat _ q.1 dlk := fun q hq => v7 q (List.mem_append_right _ (List.mem_append_right _ hq))
  have hy4 : ∀ q ∈ own4, @LT.lt Nat _ q.1 pt := fun q hq => y7 q (List.mem_append_right _ hq)
  have ptc : (@Ne Nat pt I) ∧ ∀ q ∈ own4, @Ne Nat pt q.1 := ⟨by omega, fun q hq => Nat.ne_of_gt (hy4 q hq)⟩
  constructor
  · intro p hp
    simp only [List.mem_cons, List.mem_append] at hp
    rcases hp with e | e | e | e | e | e | e
    · rw [e]; exact ⟨by show @Ne Nat lk I; omega, fun q hq => by have := hv4 q hq; show @Ne Nat lk q.1; omega⟩
    · rw [e]; exact ⟨by show @Ne Nat dlk I; omega, fun q hq => by have := hv4 q hq; show @Ne Nat dlk q.1; omega⟩
    · rw [e]; exact ⟨(hD (I, oI) (.head _)).symm, fun q hq => (hD q (by simp [hq])).symm⟩
    · rw [e]; exact ptc
    · exact ⟨Nat.ne_of_gt (hn p e (I, oI) (.head _)), fun q hq => Nat.ne_of_gt (hn p e q (by simp [hq]))⟩
    · rw [e]; exact ptc
    · exact ⟨Nat.ne_of_gt (n9 p e).1, fun q hq => Nat.ne_of_gt ((n9 p e).2 q hq)⟩
  · intro p hp b hb
    simp only [List.mem_cons, List.not_mem_nil, or_false] at hb
    simp only [List.mem_cons, List.mem_append] at hp
    rcases hp with e | e | e | e | e | e | e
    · rw [e]; show @Ne Nat lk b; rcases hb with rfl | rfl | rfl | rfl | rfl <;> omega
    · rw [e]; show @Ne Nat dlk b; rcases hb with rfl | rfl | rfl | rfl | rfl <;> omega
    · rw [e]; rcases hb with rfl | rfl | rfl | rfl | rfl
      · exact (hD (_, opl) (by simp)).symm
      · exact (hD (_, oll) (by simp)).symm
      · exact (hD (_, o1) (by simp)).symm
      · exact (hD (_, oP) (by simp)).symm
      · exact (hD (_, oc) (by simp)).symm
    · rw [e]; show @Ne Nat pt b; rcases hb with rfl | rfl | rfl | rfl | rfl <;> omega
    · rcases hb with rfl | rfl | rfl | rfl | rfl
      · exact Nat.ne_of_gt (hn p e (_, opl) (by simp))
      · exact Nat.ne_of_gt (hn p e (_, oll) (by simp))
      · exact Nat.ne_of_gt (hn p e (_, o1) (by simp))
      · exact Nat.ne_of_gt (hn p e (_, oP) (by simp))
      · exact Nat.ne_of_gt (hn p e (_, oc) (by simp))
    · rw [e]; show @Ne Nat pt b; rcases hb with rfl | rfl | rfl | rfl | rfl <;> omega
    · exact off9 p (List.mem_append_left _ e) b (by rcases hb with rfl | rfl | rfl | rfl | rfl <;> simp)
theorem alts_comp {A : Around} {env : Env} {elt : PySem.Expr} {x : Str} {scope : Scope} {clo : List (Str × Addr)} {S : List (Addr × Obj) → Prop} {Fin : List Value → List (Addr × Obj) → Prop} {e1 e2 e3 e4 e5 e6 pt : Addr × Obj} {ext9 own4 : List (Addr × Obj)} {tds : List Addr} {Ts : List (Int → Option (List Int))} (hT : All2 (TabIn prog w ext9) tds Ts)
    (turn : ∀ (i : Nat) (td : Addr) (T : Int → Option (List Int)) (o : Obj) (kvs : List (Int × Value)) (ext3 : List (Addr × Obj)) (als : List Addr) (big : List (Addr × Obj)) (I : Addr) (oI : Obj) (C : Addr) (oC : Obj) (D : Addr) (m₂ : Str → Option Value) (h : Heap) (tk : Nat) (E' : Value → Shared → Prop),
      tds[i]? = some td → Ts[i]? = some T → big = e1 :: e2 :: e3 :: e4 :: e5 :: e6 :: (ext3 ++ ((pt :: ext9) ++ own4)) → All2 (AltIn prog w (ext3 ++ (pt :: ext9))) als (Ts.take i) → All2 (SameTab prog w (ext3 ++ (pt :: ext9))) als (tds.take i) → (∀ p ∈ ext3, ∀ q ∈ e1 :: e2 :: e3 :: e4 :: e5 :: e6 :: ((pt :: ext9) ++ own4), @LT.lt Nat _ q.1 p.1) →
      (td == sysModules) = false → (td, o) ∈ big → (td, o) ∈ pt :: ext9 → o.IsDictOf (intKind prog w) kvs → kvs.length ≤ 100 → Pairs (pt :: ext9) kvs T → LCg.NsObj oC m₂ → m₂ x = some (.ref td) → Fr h₀ L h m → News h₀ L h ((I, oI) :: (C, oC) :: (D, LCg.lst (als.map Value.ref)) :: big) → LCg.Off3 I C D big → Apart I C → Apart I D → Apart C D →
      wpAny (model prog w) A (eval elt (compEnvC scope clo C env)) (LCg.CompEnd h₀ L m { s with heap := h, toks := tk } I oI C oC D (LCg.lst (als.map Value.ref)) S (fun y news' => AltsJ prog w e1 e2 e3 e4 e5 e6 (pt :: ext9) own4 tds Ts (i + 1) (als.map Value.ref ++ [y]) news')) E' { s with heap := h, toks := tk })
    (fin : ∀ (ext3 : List (Addr × Obj)) (als : List Addr), All2 (AltIn prog w (ext3 ++ (pt :: ext9))) als Ts → All2 (SameTab prog w (ext3 ++ (pt :: ext9))) als tds → (∀ p ∈ ext3, ∀ q ∈ e1 :: e2 :: e3 :: e4 :: e5 :: e6 :: ((pt :: ext9) ++ own4), @LT.lt Nat _ q.1 p.1) → Fin (als.map Value.ref) (e1 :: e2 :: e3 :: e4 :: e5 :: e6 :: (ext3 ++ ((pt :: ext9) ++ own4)))) :
    LCg.CompRest prog w A h₀ L m env elt x scope clo s S (fun i v => (tds.map Value.ref).toArray[i]? = some v) Fin (tds.map Value.ref).toArray.size 0 [] (e1 :: e2 :: e3 :: e4 :: e5 :: e6 :: (pt :: (ext9 ++ own4))) := by
  refine comp_inv (AltsJ prog w e1 e2 e3 e4 e5 e6 (pt :: ext9) own4 tds Ts) ⟨[], [], rfl, rfl, .nil, .nil, fun _ h => nomatch h⟩ ?_ ?_
  · rintro i v ys news₁ I oI C oC D m₂ h tk E' hi hv ⟨ext3, als, rfl, rfl, ha, hs, hn⟩ hC hx F N off ⟨n1, n2, n3⟩
    obtain ⟨td, T, htd, hTi, rfl, lo, o, kvs, mM, hdk, hkl, hall⟩ := All2.get hT (by simpa using hv)
    exact turn i td T o kvs ext3 als _ I oI C oC D m₂ h tk E' htd hTi rfl ha hs hn lo (.tail _ (.tail _ (.tail _ (.tail _ (.tail _ (.tail _ (List.mem_append_right _ (List.mem_append_left _ (.tail _ mM))))))))) (.tail _ mM) hdk hkl (Pairs.mono hall fun p hp => .tail _ hp) hC hx F N off n1 n2 n3
  · rintro ys news₁ ⟨ext3, als, rfl, rfl, ha, hs, hn⟩
    have e1 : (tds.map Value.ref).toArray.size = tds.length := by simp
    have e2 : tds.length = Ts.length := All2.length hT
    rw [e1, List.take_length] at hs
    rw [e1, e2, List.take_length] at ha
    exact fin ext3 als ha hs hn
theorem turns_sub {e1 e2 e3 e4 e5 e6 lk dlk D pt : Addr × Obj} {ext3 ext9 own4 : List (Addr × Obj)} : ∀ p ∈ e1 :: e2 :: e3 :: e4 :: e5 :: e6 :: ((lk :: dlk :: D :: pt :: (ext3 ++ (pt :: ext9))) ++ own4), p ∈ lk :: dlk :: D :: e1 :: e2 :: e3 :: e4 :: e5 :: e6 :: (ext3 ++ ((pt :: ext9) ++ own4)) := fun p hp => by
  simp only [List.mem_cons, List.mem_append] at hp ⊢
  rcases hp with e | e | e | e | e | e | (e | e | e | e | e | e | e) | e <;> simp [e]
theorem own6_off {I pl ll a1 P c pt : Addr} {oI opl oll o1 oP oc op : Obj} {ext3 ext9 own4 : List (Addr × Obj)} (hn : ∀ p ∈ ext3, ∀ q ∈ (I, oI) :: (pl, opl) :: (ll, oll) :: (a1, o1) :: (P, oP) :: (c, oc) :: (((pt, op) :: ext9) ++ own4), @LT.lt Nat _ q.1 p.1)
    (off9 : OwnOff (ext9 ++ own4) [pl, ll, a1, P, c]) (y : @LT.lt Nat _ I pt ∧ @LT.lt Nat _ pl pt ∧ @LT.lt Nat _ ll pt ∧ @LT.lt Nat _ a1 pt ∧ @LT.lt Nat _ P pt ∧ @LT.lt Nat _ c pt) : OwnOff (ext3 ++ (((pt, op) :: ext9) ++ own4)) [pl, ll, a1, P, c] := by
  obtain ⟨y1, y2, y3, y4, y5, y6⟩ := y
  intro p hp b hb
  simp only [List.mem_cons, List.not_mem_nil, or_false] at hb
  simp only [List.mem_cons, List.mem_append] at hp
  rcases hp with e | (e | e) | e
  · rcases hb with rfl | rfl | rfl | rfl | rfl
    · exact Nat.ne_of_gt (hn p e (_, opl) (by simp))
    · exact Nat.ne_of_gt (hn p e (_, oll) (by simp))
    · exact Nat.ne_of_gt (hn p e (_, o1) (by simp))
    · exact Nat.ne_of_gt (hn p e (_, oP) (by simp))
    · exact Nat.ne_of_gt (hn p e (_, oc) (by simp))
  · rw [e]; show @Ne Nat pt b; rcases hb with rfl | rfl | rfl | rfl | rfl <;> omega
  · exact off9 p (List.mem_append_left _ e) b (by rcases hb with rfl | rfl | rfl | rfl | rfl <;> simp)
  · exact off9 p (List.mem_append_right _ e) b (by rcases hb with rfl | rfl | rfl | rfl | rfl <;> simp)

end
/- LawLast -/
section
/-- the places of the last loop's ledger, all apart -/
structure Keys (a1 a2 a3 : Addr) (infs : List Inf) (rws : List Row) (base : List (Addr × Obj)) : Prop where
  nd1 : (infs.map Inf.dx).Nodup
  nd2 : (rws.map Row.a).Nodup
  b1 : OwnOff base (infs.map Inf.dx)
  b2 : OwnOff base (rws.map Row.a)
  x12 : ∀ r ∈ rws, ∀ j ∈ infs, @Ne Nat r.a j.dx
  hd : OwnOff (infs.map Inf.ent ++ (rws.map Row.ent ++ base)) [a1, a2, a3]
  xs : ∀ j ∈ infs, (j.x, instObj 52 j.dx) ∈ base
theorem map_eq_of {α β γ : Type} {R : α → β → Prop} {f : α → γ} {g : β → γ} {l : List α} {l' : List β} (h : All2 R l l') (e : ∀ x y, R x y → g y = f x) : l'.map g = l.map f := by
  induction h with
  | nil => rfl
  | cons h _ ih => rw [List.map_cons, List.map_cons, e _ _ h, ih]
theorem ent_keys {infs infs' : List Inf} (e : infs'.map Inf.dx = infs.map Inf.dx) : (infs'.map Inf.ent).map (·.1) = (infs.map Inf.ent).map (·.1) := by
  rw [List.map_map, List.map_map]
  exact e
theorem row_keys {rws rws' : List Row} (e : rws'.map Row.a = rws.map Row.a) : (rws'.map Row.ent).map (·.1) = (rws.map Row.ent).map (·.1) := by
  rw [List.map_map, List.map_map]
  exact e
theorem off_keys {l l' : List (Addr × Obj)} {as : List Addr} (e : l'.map (·.1) = l.map (·.1)) (h : OwnOff l as) : OwnOff l' as := fun p hp b hb => by
  have h1 : p.1 ∈ l'.map (·.1) := List.mem_map_of_mem hp
  rw [e] at h1
  obtain ⟨q, hq, hqe⟩ := List.mem_map.mp h1
  rw [← hqe]
  exact h q hq b hb
theorem ne_keys {l l' : List (Addr × Obj)} {I : Addr} (e : l'.map (·.1) = l.map (·.1)) (h : ∀ p ∈ l, @Ne Nat p.1 I) : ∀ p ∈ l', @Ne Nat p.1 I := fun p hp => by
  have h1 : p.1 ∈ l'.map (·.1) := List.mem_map_of_mem hp
  rw [e] at h1
  obtain ⟨q, hq, hqe⟩ := List.mem_map.mp h1
  rw [← hqe]
  exact h q hq
theorem Keys.rows {a1 a2 a3 : Addr} {infs : List Inf} {rws rws' : List Row} {base : List (Addr × Obj)} (K : Keys a1 a2 a3 infs rws base) (e : rws'.map Row.a = rws.map Row.a) : Keys a1 a2 a3 infs rws' base where
  nd1 := K.nd1
  nd2 := e ▸ K.nd2
  b1 := K.b1
  b2 := e ▸ K.b2
  x12 := fun r hr j hj => by
    have h1 : r.a ∈ rws'.map Row.a := List.mem_map_of_mem hr
    rw [e] at h1
    obtain ⟨q, hq, hqe⟩ := List.mem_map.mp h1
    rw [← hqe]; exact K.x12 q hq j hj
  hd := off_keys (by simp only [List.map_append, row_keys e]) K.hd
  xs := K.xs
theorem Keys.infs {a1 a2 a3 : Addr} {infs infs' : List Inf} {rws : List Row} {base : List (Addr × Obj)} {S : Int → Int → Int × Bool} (K : Keys a1 a2 a3 infs rws base) (f : All2 (Stepped S) infs infs') : Keys a1 a2 a3 infs' rws base := by
  have e : infs'.map Inf.dx = infs.map Inf.dx := map_eq_of f fun _ _ h => h.dx
  exact {
    nd1 := e ▸ K.nd1
    nd2 := K.nd2
    b1 := e ▸ K.b1
    b2 := K.b2
    x12 := fun r hr j hj => by
      have h1 : j.dx ∈ infs'.map Inf.dx := List.mem_map_of_mem hj
      rw [e] at h1
      obtain ⟨q, hq, hqe⟩ := List.mem_map.mp h1
      rw [← hqe]; exact K.x12 r hr q hq
    hd := off_keys (by simp only [List.map_append, ent_keys e]) K.hd
    xs := fun j hj => by
      obtain ⟨q, hq, hr⟩ := f.mem_right hj
      rw [hr.x, hr.dx]; exact K.xs q hq }
theorem count_eq {S : Int → Int → Int × Bool} {infs : List Inf} {rws : List Row} (f : All2 InfRow infs rws) : cntOf S infs = cntR S rws := by
  unfold cntOf cntR
  congr 1
  induction f with
  | nil => rfl
  | cons h _ ih => simp only [List.countP_cons, h.g, h.mv, ih]
theorem stepped_rows {S : Int → Int → Int × Bool} {infs infs' : List Inf} {rws rws' : List Row} (f : All2 InfRow infs rws) (g : All2 (Stepped S) infs infs') (h : All2 (RowStep S) rws rws') : All2 InfRow infs' rws' := by
  induction f generalizing infs' rws' with
  | nil => cases g; cases h; exact .nil
  | cons a _ ih =>
    cases g with
    | cons b g =>
      cases h with
      | cons c h => exact .cons ⟨by rw [b.g, c.g, a.g, a.mv], by rw [b.mv, c.mv, a.mv], by rw [b.cl, c.cl, a.cl], b.ok⟩ (ih g h)
theorem mv_rows {S : Int → Int → Int × Bool} {rws rws' : List Row} (h : All2 (RowStep S) rws rws') (hm : ∀ r ∈ rws, 0 ≤ r.mv ∧ r.mv < 256) : ∀ r ∈ rws', 0 ≤ r.mv ∧ r.mv < 256 := fun r hr => by
  obtain ⟨q, hq, hs⟩ := h.mem_right hr
  rw [hs.mv]; exact hm q hq
theorem run_call3 (C : Cx w p loose mean mg mb A₀ base h₀ outer cs) (F : Fr h₀ L s.heap m)
    {I a1 a2 a3 rl : Addr} {oI o1 o2 o3 : Obj} {own8 base7 : List (Addr × Obj)} {infs : List Inf} {rws : List Row} {kr : Nat} {t : Tn} {t2 t3 : Tok}
    (h8 : own8 = infs.map Inf.ent ++ (rws.map Row.ent ++ base7)) (K : Keys a1 a2 a3 infs rws base7) (N : News h₀ L s.heap ((I, oI) :: (a1, o1) :: (a2, o2) :: (a3, o3) :: own8)) (hI : ∀ p ∈ own8, @Ne Nat p.1 I)
    (hok : ∀ r ∈ rws, 0 ≤ r.mv ∧ r.mv < 256) (hlen : rws.length ≤ 8) (mrl : (rl, listOf (rws.map fun r => Value.ref (Row.a r)).toArray kr) ∈ base7) (ht : TnOk prog w base7 t)
    (hd : dp + 20 < recursionLimit) (hu : un + 160 < cLine)
    (ret : ∀ tk h' tk' rws' own8', All2 (RowStep (stepG t.Ts (flOf t.pb) t.sh t.wd)) rws rws' → own8' = infs.map Inf.ent ++ (rws'.map Row.ent ++ base7) → Keys a1 a2 a3 infs rws' base7 → OwnOff own8' [a1, a2, a3] → (∀ p ∈ own8', @Ne Nat p.1 I) → Fr h₀ L h' m → News h₀ L h' ((I, oI) :: (a1, o1) :: (a2, o2) :: (a3, o3) :: own8') → Q (.int (cntR (stepG t.Ts (flOf t.pb) t.sh t.wd) rws) tk) { s with heap := h', toks := tk' }) :
    wpAny (model prog w) (ktrTop dp un gd cn cs L a ccd cl outer) (call (.ref 668) [.ref rl, .ref t.tl, .int (t.sh : Int) t2, .int (t.wd : Int) t3, .bool t.pb]) Q E s := by
  subst h8
  have sub : ∀ p ∈ base7, p ∈ (I, oI) :: (a1, o1) :: (a2, o2) :: (a3, o3) :: (infs.map Inf.ent ++ base7) := fun p hp => .tail _ (.tail _ (.tail _ (.tail _ (List.mem_append_right _ hp))))
  refine run_call C F (rws := rws) (own := (I, oI) :: (a1, o1) :: (a2, o2) :: (a3, o3) :: (infs.map Inf.ent ++ base7)) (fun p hp => N p ?_) K.nd2 (fun p hp b hb => ?_) hok (by omega) (sub _ mrl) (sub _ ht.tl) (all2_imp (fun _ _ h => h.mono sub) ht.tabs) ht.len ht.sh ht.wd (fl := flOf t.pb) rfl hd hu ?_
  · simp only [List.mem_cons, List.mem_append] at hp ⊢
    rcases hp with e | e | e | e | e | e | e <;> simp [e]
  · obtain ⟨r, hr, rfl⟩ := List.mem_map.mp hb
    have hm : r.ent ∈ infs.map Inf.ent ++ (rws.map Row.ent ++ base7) := List.mem_append_right _ (List.mem_append_left _ (List.mem_map_of_mem hr))
    simp only [List.mem_cons, List.mem_append] at hp
    rcases hp with e | e | e | e | e | e
    · rw [e]; exact (hI _ hm).symm
    · rw [e]; exact (K.hd _ hm a1 (by simp)).symm
    · rw [e]; exact (K.hd _ hm a2 (by simp)).symm
    · rw [e]; exact (K.hd _ hm a3 (by simp)).symm
    · obtain ⟨j, hj, rfl⟩ := List.mem_map.mp e
      exact (K.x12 r hr j hj).symm
    · exact K.b2 p e _ hb
  · intro tk h' tk' rws' hs F' N'
    have e : rws'.map Row.a = rws.map Row.a := map_eq_of hs fun _ _ h => h.a
    have K' := K.rows e
    refine ret tk h' tk' rws' _ hs rfl K' K'.hd (ne_keys (by simp only [List.map_append, row_keys e]) hI) F' fun p hp => N' p ?_
    simp only [List.mem_cons, List.mem_append] at hp ⊢
    rcases hp with e | e | e | e | e | e | e <;> simp [e]
theorem runsub_call3 (C : Cx w p loose mean mg mb A₀ base h₀ outer cs) (F : Fr h₀ L s.heap m)
    {I a1 a2 a3 b db il ll gd' : Addr} {oI o1 o2 o3 : Obj} {own8 base7 : List (Addr × Obj)} {infs : List Inf} {rws0 rws : List Row} {eb : List DictEntry} {nb ki kl : Nat} {lks : List Addr} {num : Int} {t : Tn} {tn tb : Tok}
    (h8 : own8 = infs.map Inf.ent ++ (rws.map Row.ent ++ base7)) (K : Keys a1 a2 a3 infs rws base7) (ha : All2 InfRow infs rws0) (N : News h₀ L s.heap ((I, oI) :: (a1, o1) :: (a2, o2) :: (a3, o3) :: own8)) (hI : ∀ p ∈ own8, @Ne Nat p.1 I) (hlen : infs.length ≤ 8)
    (mil : (il, listOf (infs.map fun j => Value.ref j.x).toArray ki) ∈ base7) (mb' : (b, instObj 103 db) ∈ base7) (mdb : (db, dictOf eb nb) ∈ base7) (hrow : getL (Str.ofString "row") eb = some (some (.ref il)))
    (mll : (ll, listOf (lks.map Value.ref).toArray kl) ∈ base7) (hnum : 0 ≤ num ∧ num < 100) (hlkn : (lks.map Value.ref)[num.toNat]? = some (.ref t.lk)) (ht : TnOk prog w base7 t) (hgd : GdefIn prog w base7 gd')
    (hd : dp + 60 < recursionLimit) (hu : un + 480 < cLine)
    (ret : ∀ tk h' tk' infs' own8', All2 (Stepped (stepG t.Ts (flOf t.pb) t.sh t.wd)) infs infs' → own8' = infs'.map Inf.ent ++ (rws.map Row.ent ++ base7) → Keys a1 a2 a3 infs' rws base7 → OwnOff own8' [a1, a2, a3] → (∀ p ∈ own8', @Ne Nat p.1 I) → Fr h₀ L h' m → News h₀ L h' ((I, oI) :: (a1, o1) :: (a2, o2) :: (a3, o3) :: own8') → Q (.int (cntR (stepG t.Ts (flOf t.pb) t.sh t.wd) rws0) tk) { s with heap := h', toks := tk' }) :
    wpAny (model prog w) (ktrTop dp un gd cn cs L a ccd cl outer) (call (.ref 639) [.ref b, .ref gd', .ref ll, .int num tn, .int (bitsOf t.sh t.wd) tb]) Q E s := by
  subst h8
  have sub : ∀ p ∈ base7, p ∈ (I, oI) :: (a1, o1) :: (a2, o2) :: (a3, o3) :: (rws.map Row.ent ++ base7) := fun p hp => .tail _ (.tail _ (.tail _ (.tail _ (List.mem_append_right _ hp))))
  have hok : ∀ j ∈ infs, InfOk j := fun j hj => by
    have : ∀ {l : List Inf} {l' : List Row}, All2 InfRow l l' → ∀ j ∈ l, InfOk j := fun f => by
      induction f with
      | nil => intro j h; cases h
      | cons h _ ih =>
        intro j hj
        rcases List.mem_cons.mp hj with e | e
        · exact e ▸ h.ok
        · exact ih j e
    exact this ha j hj
  have ht' := ht.mono sub
  refine runsub_call C F (infs := infs) (own := (I, oI) :: (a1, o1) :: (a2, o2) :: (a3, o3) :: (rws.map Row.ent ++ base7)) (fun p hp => N p ?_) K.nd1 (fun p hp b hb => ?_) hok (fun j hj => sub _ (K.xs j hj)) (by omega) (sub _ mil) (sub _ mb') (sub _ mdb) hrow (sub _ mll) hnum hlkn ht'.look (hgd.mono sub) ht.sh ht.wd (by unfold flOf; cases t.pb <;> simp) hd hu ?_
  · simp only [List.mem_cons, List.mem_append] at hp ⊢
    rcases hp with e | e | e | e | e | e | e <;> simp [e]
  · obtain ⟨j, hj, rfl⟩ := List.mem_map.mp hb
    have hm : j.ent ∈ infs.map Inf.ent ++ (rws.map Row.ent ++ base7) := List.mem_append_left _ (List.mem_map_of_mem hj)
    simp only [List.mem_cons, List.mem_append] at hp
    rcases hp with e | e | e | e | e | e
    · rw [e]; exact (hI _ hm).symm
    · rw [e]; exact (K.hd _ hm a1 (by simp)).symm
    · rw [e]; exact (K.hd _ hm a2 (by simp)).symm
    · rw [e]; exact (K.hd _ hm a3 (by simp)).symm
    · obtain ⟨r, hr, rfl⟩ := List.mem_map.mp e
      exact K.x12 r hr j hj
    · exact K.b1 p e _ hb
  · intro tk h' tk' infs' hs F' N'
    have e : infs'.map Inf.dx = infs.map Inf.dx := map_eq_of hs fun _ _ h => h.dx
    have K' := K.infs hs
    rw [count_eq ha]
    refine ret tk h' tk' infs' _ hs rfl K' K'.hd (ne_keys (by simp only [List.map_append, ent_keys e]) hI) F' fun p hp => N' p ?_
    simp only [List.mem_cons, List.mem_append] at hp ⊢
    rcases hp with e | e | e | e | e | e | e <;> simp [e]
def LastJ (P rl b gd pl ll a1 a2 a3 : Addr) (base7 : List (Addr × Obj)) (xs0 as0 : List Addr) (_i : Nat) (m : Str → Option Value) (news : List (Addr × Obj)) : Prop :=
  ∃ (o1 o2 o3 : Obj) (infs : List Inf) (rws : List Row), LawNames m P rl b gd pl ll ∧ news = (a1, o1) :: (a2, o2) :: (a3, o3) :: (infs.map Inf.ent ++ (rws.map Row.ent ++ base7)) ∧ Ex.Cell o1 ∧ Ex.Cell o2 ∧ Ex.Cell o3 ∧ All2 InfRow infs rws ∧ Keys a1 a2 a3 infs rws base7 ∧ infs.map Inf.x = xs0 ∧ rws.map Row.a = as0 ∧ ∀ r ∈ rws, 0 ≤ r.mv ∧ r.mv < 256
theorem last_end {P rl b gd pl ll a1 a2 a3 I : Addr} {oI o1 o2 o3 : Obj} {own8 base7 news : List (Addr × Obj)} {xs0 as0 : List Addr} {i : Nat} {infs : List Inf} {rws : List Row} {h' : Heap} {tk' : Nat} {m₂ : Str → Option Value}
    (F : Fr h₀ L h' m₂) (N : News h₀ L h' news) (h8 : own8 = infs.map Inf.ent ++ (rws.map Row.ent ++ base7)) (hsub : ∀ p ∈ (I, oI) :: (a1, o1) :: (a2, o2) :: (a3, o3) :: own8, p ∈ news)
    (hm : LawNames m₂ P rl b gd pl ll) (c1 : Ex.Cell o1) (c2 : Ex.Cell o2) (c3 : Ex.Cell o3) (ha : All2 InfRow infs rws) (K : Keys a1 a2 a3 infs rws base7) (hx : infs.map Inf.x = xs0) (hr : rws.map Row.a = as0) (hmv : ∀ r ∈ rws, 0 ≤ r.mv ∧ r.mv < 256)
    (hI : ∀ p ∈ own8, @Ne Nat p.1 I) (j1 : Apart a1 I) (j2 : Apart a2 I) (j3 : Apart a3 I) : LedEnd h₀ L (LastJ P rl b gd pl ll a1 a2 a3 base7 xs0 as0 (i + 1)) I oI s { s with heap := h', toks := tk' } := by
  subst h8
  refine LedEnd.intro ((a1, o1) :: (a2, o2) :: (a3, o3) :: (infs.map Inf.ent ++ (rws.map Row.ent ++ base7))) F (fun p hp => N p (hsub p hp)) (fun p hp => ?_) ⟨o1, o2, o3, infs, rws, hm, rfl, c1, c2, c3, ha, K, hx, hr, hmv⟩
  rcases List.mem_cons.mp hp with e | hp
  · rw [e]; exact j1.out
  · rcases List.mem_cons.mp hp with e | hp
    · rw [e]; exact j2.out
    · rcases List.mem_cons.mp hp with e | hp
      · rw [e]; exact j3.out
      · exact hI p hp
theorem last_loop {A : Around} {env : Env} {body : List Stmt} {x : Str} {Q : Flow → Shared → Prop} {ol P c rl b gd pl ll a1 a2 a3 : Addr} {oP oc o1 o2 o3 : Obj} {vs : List Value} {nO : Nat} {led6 base6 : List (Addr × Obj)} {infs : List Inf} {rws : List Row} {m₀ : Str → Option Value}
    (hh : A.handled = none) (F : Fr h₀ env.locals s.heap m₀) (N : News h₀ env.locals s.heap ((ol, listOf vs.toArray nO) :: (P, oP) :: (c, oc) :: (a1, o1) :: (a2, o2) :: (a3, o3) :: led6)) (hled6 : led6 = infs.map Inf.ent ++ (rws.map Row.ent ++ base6))
    (hlt : @LT.lt Nat _ P ol ∧ @LT.lt Nat _ c ol ∧ @LT.lt Nat _ a1 ol ∧ @LT.lt Nat _ a2 ol ∧ @LT.lt Nat _ a3 ol ∧ AllLt ol led6) (hoff6 : OwnOff led6 [P, c, a1, a2, a3]) (hd6 : OwnOff base6 (infs.map Inf.dx)) (ha6 : OwnOff base6 (rws.map Row.a)) (hnd1 : (infs.map Inf.dx).Nodup) (hnd2 : (rws.map Row.a).Nodup)
    (hra : ∀ r ∈ rws, ∀ j ∈ infs, @LT.lt Nat _ r.a j.dx) {q1 q2 q3 : Obj} (hoffc : OwnOff [(a3, q3), (a2, q2), (a1, q1)] [P, c]) (hxs : ∀ j ∈ infs, (j.x, instObj 52 j.dx) ∈ base6) (c1 : Ex.Cell o1) (c2 : Ex.Cell o2) (c3 : Ex.Cell o3) (ha : All2 InfRow infs rws) (hmv : ∀ r ∈ rws, 0 ≤ r.mv ∧ r.mv < 256) (hm : LawNames m₀ P rl b gd pl ll)
    (turn : ∀ (i : Nat) (v : Value) (m₁ : Str → Option Value) (h : Heap) (tk : Nat) (I : Addr) (oI o1 o2 o3 : Obj) (infs' : List Inf) (rws' : List Row) (own8 base7 : List (Addr × Obj)), vs[i]? = some v → LawNames m₁ P rl b gd pl ll → own8 = infs'.map Inf.ent ++ (rws'.map Row.ent ++ base7) → (∀ p ∈ base6, p ∈ base7) → Ex.Cell o1 → Ex.Cell o2 → Ex.Cell o3 → All2 InfRow infs' rws' → Keys a1 a2 a3 infs' rws' base7 → infs'.map Inf.x = infs.map Inf.x → rws'.map Row.a = rws.map Row.a → (∀ r ∈ rws', 0 ≤ r.mv ∧ r.mv < 256) →
      (∀ p ∈ own8, @Ne Nat p.1 I) → OwnOff own8 [a1, a2, a3] → Apart a1 I → Apart a2 I → Apart a3 I → Fr h₀ env.locals h (fun y => if y = x then some v else m₁ y) → News h₀ env.locals h ((I, oI) :: (a1, o1) :: (a2, o2) :: (a3, o3) :: own8) →
      wpAny (model prog w) A (execs body env) (LedPost h₀ env.locals (LastJ P rl b gd pl ll a1 a2 a3 base7 (infs.map Inf.x) (rws.map Row.a) (i + 1)) I oI { s with heap := h, toks := tk } Q) E { s with heap := h, toks := tk })
    (done : ∀ (m₁ : Str → Option Value) (h : Heap) (tk : Nat) (base7 : List (Addr × Obj)), (∀ p ∈ base6, p ∈ base7) → LawNames m₁ P rl b gd pl ll → Fr h₀ env.locals h m₁ → News h₀ env.locals h base7 → Q .next { s with heap := h, toks := tk }) :
    wpAny (model prog w) A (pyIter (.ref ol)) (fun it s₂ => LoopAtV prog w A h₀ env x body Q E it s₂) E s := by
  subst hled6
  obtain ⟨t1, t2, t3, t4, t5, t6⟩ := hlt
  have t6' := ktn_ltOf t6
  have mdx : ∀ j ∈ infs, j.ent ∈ infs.map Inf.ent ++ (rws.map Row.ent ++ base6) := fun j hj => List.mem_append_left _ (List.mem_map_of_mem hj)
  have mra : ∀ r ∈ rws, r.ent ∈ infs.map Inf.ent ++ (rws.map Row.ent ++ base6) := fun r hr => List.mem_append_right _ (List.mem_append_left _ (List.mem_map_of_mem hr))
  have K : Keys a1 a2 a3 infs rws ((ol, listOf vs.toArray nO) :: (P, oP) :: (c, oc) :: base6) := {
    nd1 := hnd1
    nd2 := hnd2
    b1 := fun p hp b' hb => by
      obtain ⟨j, hj, rfl⟩ := List.mem_map.mp hb
      simp only [List.mem_cons] at hp
      rcases hp with e | e | e | e
      · rw [e]; exact Nat.ne_of_gt (t6' _ (mdx j hj))
      · rw [e]; exact (hoff6 _ (mdx j hj) P (by simp)).symm
      · rw [e]; exact (hoff6 _ (mdx j hj) c (by simp)).symm
      · exact hd6 p e _ hb
    b2 := fun p hp b' hb => by
      obtain ⟨r, hr, rfl⟩ := List.mem_map.mp hb
      simp only [List.mem_cons] at hp
      rcases hp with e | e | e | e
      · rw [e]; exact Nat.ne_of_gt (t6' _ (mra r hr))
      · rw [e]; exact (hoff6 _ (mra r hr) P (by simp)).symm
      · rw [e]; exact (hoff6 _ (mra r hr) c (by simp)).symm
      · exact ha6 p e _ hb
    x12 := fun r hr j hj => Nat.ne_of_lt (hra r hr j hj)
    hd := fun p hp b' hb => by
      have h3 : b' = a1 ∨ b' = a2 ∨ b' = a3 := by simpa using hb
      have hl : @LT.lt Nat _ b' ol := by rcases h3 with rfl | rfl | rfl <;> assumption
      have old : ∀ q ∈ infs.map Inf.ent ++ (rws.map Row.ent ++ base6), @Ne Nat q.1 b' := fun q hq => hoff6 q hq b' (by rcases h3 with rfl | rfl | rfl <;> simp)
      rcases List.mem_append.mp hp with e | e
      · exact old p (List.mem_append_left _ e)
      · rcases List.mem_append.mp e with e | e
        · exact old p (List.mem_append_right _ (List.mem_append_left _ e))
        · simp only [List.mem_cons] at e
          rcases e with e | e | e | e
          · rw [e]; exact Nat.ne_of_gt hl
          · rw [e]
            rcases h3 with rfl | rfl | rfl
            · exact (hoffc (_, q1) (by simp) P (by simp)).symm
            · exact (hoffc (_, q2) (by simp) P (by simp)).symm
            · exact (hoffc (_, q3) (by simp) P (by simp)).symm
          · rw [e]
            rcases h3 with rfl | rfl | rfl
            · exact (hoffc (_, q1) (by simp) c (by simp)).symm
            · exact (hoffc (_, q2) (by simp) c (by simp)).symm
            · exact (hoffc (_, q3) (by simp) c (by simp)).symm
          · exact old p (List.mem_append_right _ (List.mem_append_right _ e))
    xs := fun j hj => .tail _ (.tail _ (.tail _ (hxs j hj))) }
  have N0 : News h₀ env.locals s.heap ((a1, o1) :: (a2, o2) :: (a3, o3) :: (infs.map Inf.ent ++ (rws.map Row.ent ++ ((ol, listOf vs.toArray nO) :: (P, oP) :: (c, oc) :: base6)))) := fun p hp => N p (by
    simp only [List.mem_cons, List.mem_append] at hp ⊢
    rcases hp with e | e | e | e | e | e | e | e | e <;> simp [e])
  have sub7 : ∀ p ∈ base6, p ∈ (ol, listOf vs.toArray nO) :: (P, oP) :: (c, oc) :: base6 := fun p hp => .tail _ (.tail _ (.tail _ hp))
  refine iter_led (vs := vs) (n := nO) (LastJ P rl b gd pl ll a1 a2 a3 ((ol, listOf vs.toArray nO) :: (P, oP) :: (c, oc) :: base6) (infs.map Inf.x) (rws.map Row.a)) hh F N0 ⟨o1, o2, o3, infs, rws, hm, rfl, c1, c2, c3, ha, K, rfl, rfl, hmv⟩ ?_ ?_ ?_
  · rintro i m₁ news₁ ⟨_, _, _, infs', rws', _, rfl, _⟩
    exact .tail _ (.tail _ (.tail _ (List.mem_append_right _ (List.mem_append_right _ (.head _)))))
  · rintro i v m₁ news₁ h tk I oI hv ⟨o1', o2', o3', infs', rws', hm', rfl, c1', c2', c3', ha', K', hx', hr', hmv'⟩ hne F2 N2
    exact turn i v m₁ h tk I oI o1' o2' o3' infs' rws' _ _ hv hm' rfl sub7 c1' c2' c3' ha' K' hx' hr' hmv' (fun p hp => hne p (.tail _ (.tail _ (.tail _ hp)))) K'.hd (hne _ (.head _)) (hne _ (.tail _ (.head _))) (hne _ (.tail _ (.tail _ (.head _)))) F2 N2
  · rintro m₁ news₁ h tk ⟨o1', o2', o3', infs', rws', hm', rfl, _⟩ F2 N2
    exact done m₁ h tk _ sub7 hm' F2 fun p hp => N2 p (.tail _ (.tail _ (.tail _ (List.mem_append_right _ (List.mem_append_right _ hp)))))
theorem pick {tns : List Tn} (hl : tns.length = 2) {num : Int} (h : num = 0 ∨ num = 1) : ∃ t ∈ tns, (tns.map fun t => Value.ref (Tn.pt t))[num.toNat]? = some (.ref t.pt) ∧ ((tns.map Tn.lk).map Value.ref)[num.toNat]? = some (.ref t.lk) := by
  match tns, hl with
  | [t0, t1], _ =>
    rcases h with rfl | rfl
    · exact ⟨t0, .head _, rfl, rfl⟩
    · exact ⟨t1, .tail _ (.head _), rfl, rfl⟩
theorem two_items {v0 v1 v : Value} {i : Nat} (h : [v0, v1][i]? = some v) : v = v0 ∨ v = v1 := by
  match i with
  | 0 => exact .inl (Option.some.inj h).symm
  | 1 => exact .inr (Option.some.inj h).symm
  | n + 2 => simp at h
theorem trues_are : ∀ n : Nat, LSm.BoolsAre (trues n) (List.replicate n true)
  | 0 => .nil
  | n + 1 => .cons true (trues_are n)
theorem all_trues {A : Around} {D : Addr} {n : Nat} {m : Str → Option Value} {news : List (Addr × Obj)} (hh : A.handled = none) (F : Fr h₀ L s.heap m) (N : News h₀ L s.heap news) (hm : (D, LCg.lst (trues n)) ∈ news)
    (h : ∀ h' tk, Fr h₀ L h' m → News h₀ L h' news → Q (.bool true) { s with heap := h', toks := tk }) : wpAny (model prog w) A (call (.builtin "all") [.ref D]) Q E s := by
  refine LSm.all_bools F N hh (News.isList N hm) (trues_are n) fun h' tk F' N' => ?_
  have e : (List.replicate n true).all id = true := by simp
  rw [e]
  exact h h' tk F' N'
/-- an outer item of the law's last comparison -/
def LaOk (prog : Program) (w : World) (news : List (Addr × Obj)) (v : Value) (t : Tn) : Prop := ∃ a n vs, v = .ref a ∧ (a, listOf vs.toArray n) ∈ news ∧ All2 (SameDict prog w news) vs (t.tds.map Value.ref)
theorem LaOk.mono {news news' : List (Addr × Obj)} {v : Value} {t : Tn} (h : LaOk prog w news v t) (hs : ∀ p ∈ news, p ∈ news') : LaOk prog w news' v t := by
  obtain ⟨a, n, vs, e, m1, f⟩ := h
  exact ⟨a, n, vs, e, hs _ m1, all2_imp (fun _ _ h => h.mono hs) f⟩
def OutJ (prog : Program) (w : World) (base7 : List (Addr × Obj)) (tns : List Tn) (i : Nat) (ys : List Value) (news : List (Addr × Obj)) : Prop :=
  ∃ ext, news = ext ++ base7 ∧ All2 (LaOk prog w (ext ++ base7)) ys (tns.take i)
theorem out_end {S : List (Addr × Obj) → Prop} {I C D D2 : Addr} {oI oC oD : Obj} {ext base7 own6 : List (Addr × Obj)} {tns : List Tn} {t : Tn} {i : Nat} {ys zs : List Value} {h' : Heap} {tk' : Nat}
    (F : Fr h₀ L h' m) (N : News h₀ L h' ((D2, LCg.lst zs) :: (I, oI) :: (C, oC) :: (D, oD) :: own6)) (h6 : own6 = ext ++ base7) (off : LCg.Off3 I C D own6) (off2 : LCg.Off1 D2 ((I, oI) :: (C, oC) :: (D, oD) :: own6)) (hJ : All2 (LaOk prog w (ext ++ base7)) ys (tns.take i)) (hti : tns[i]? = some t) (hz : All2 (SameDict prog w base7) zs (t.tds.map Value.ref))
    (hS : S ((D2, LCg.lst zs) :: own6)) : LCg.CompEnd h₀ L m s I oI C oC D oD S (fun y news' => OutJ prog w base7 tns (i + 1) (ys ++ [y]) news') (.ref D2) { s with heap := h', toks := tk' } := by
  subst h6
  refine LCg.CompEnd.intro F N ((D2, LCg.lst zs) :: (ext ++ base7)) (fun p hp => ?_) ⟨⟨off2.1.symm, off2.2.1.symm, off2.2.2.1.symm⟩, off⟩ hS ⟨(D2, LCg.lst zs) :: ext, rfl, ?_⟩
  · simp only [List.mem_cons, List.mem_append] at hp ⊢
    rcases hp with e | e | e | e | e | e <;> simp [e]
  · rw [List.take_add_one, hti]
    exact all2_snoc (all2_imp (fun _ _ h => h.mono fun p hp => .tail _ hp) hJ) ⟨D2, zs.length, zs, rfl, .head _, all2_imp (fun _ _ h => h.mono fun p hp => .tail _ (List.mem_append_right _ hp)) hz⟩
theorem same_all {news : List (Addr × Obj)} {ys : List Value} {tns : List Tn} (f : All2 (LaOk prog w news) ys tns) (h : ∀ t ∈ tns, (t.tl, listOf (t.tds.map Value.ref).toArray t.kk) ∈ news) : All2 (SameList prog w news) ys (tns.map fun t => Value.ref (Tn.tl t)) := by
  induction f with
  | nil => exact .nil
  | cons a _ ih =>
    obtain ⟨a, n, vs, e, m1, f⟩ := a
    exact .cons ⟨a, _, n, _, vs, _, e, rfl, m1, h _ (.head _), f⟩ (ih fun t ht => h t (.tail _ ht))
def PlJ (news₀ : List (Addr × Obj)) (tns : List Tn) (i : Nat) (ys : List Value) (news : List (Addr × Obj)) : Prop := news = news₀ ∧ ys = (tns.take i).map fun t => Value.ref (Tn.tl t)
theorem pl_next {news₀ : List (Addr × Obj)} {tns : List Tn} {i : Nat} {t : Tn} (h : tns[i]? = some t) : PlJ news₀ tns (i + 1) (((tns.take i).map fun t => Value.ref (Tn.tl t)) ++ [.ref t.tl]) news₀ := ⟨rfl, by rw [List.take_add_one, h, List.map_append]; rfl⟩
theorem ref_item {α : Type} {f : α → Addr} {l : List α} {i : Nat} {v : Value} (h : (l.map fun t => Value.ref (f t)).toArray[i]? = some v) : ∃ t, l[i]? = some t ∧ v = .ref (f t) := by
  rw [List.getElem?_toArray, List.getElem?_map] at h
  cases e : l[i]? with
  | none => rw [e] at h; cases h
  | some t => rw [e] at h; exact ⟨t, rfl, (Option.some.inj h).symm⟩
theorem map_ref_x {l l' : List Inf} (e : l'.map Inf.x = l.map Inf.x) : (l'.map fun j => Value.ref j.x) = l.map fun j => Value.ref j.x := by
  have h := congrArg (List.map Value.ref) e
  rw [List.map_map, List.map_map] at h
  exact h
theorem map_ref_a {l l' : List Row} (e : l'.map Row.a = l.map Row.a) : (l'.map fun r => Value.ref (Row.a r)) = l.map fun r => Value.ref (Row.a r) := by
  have h := congrArg (List.map Value.ref) e
  rw [List.map_map, List.map_map] at h
  exact h
theorem All2.mem_left {α β : Type} {R : α → β → Prop} {l : List α} {l' : List β} (f : All2 R l l') : ∀ {x : α}, x ∈ l → ∃ y ∈ l', R x y := by
  induction f with
  | nil => intro x h; cases h
  | cons h' _ ih =>
    intro x h
    rcases List.mem_cons.mp h with e | e
    · exact ⟨_, .head _, e ▸ h'⟩
    · obtain ⟨y, hy, hr⟩ := ih e; exact ⟨y, .tail _ hy, hr⟩
theorem gdef_none (v1 v2 : Value) : ∀ g : Int, g ≠ 5 → g ≠ 1 → valueAt [(5, v1), (1, v2)] g = none := fun g h5 h1 => by
  have e5 : ¬ (5 : Int) = g := fun e => h5 e.symm
  have e1 : ¬ (1 : Int) = g := fun e => h1 e.symm
  simp [valueAt, e5, e1]
theorem get_row {db il : Addr} {eb : List DictEntry} {nb : Nat} {l : List (Addr × Obj)} (_ : (db, dictOf eb nb) ∈ l) (e : getL (Str.ofString "row") eb = some (some (.ref il))) : getL (Str.ofString "row") eb = some (some (.ref il)) := e
/-- the rows of the last comparison -/
def CmpJ (base : List (Addr × Obj)) (infs : List Inf) (i : Nat) (ys : List Value) (news : List (Addr × Obj)) : Prop :=
  ∃ ext, news = ext ++ base ∧ All2 (RdRow (ext ++ base)) ys ((infs.take i).map fun j => (j.g, j.mv, j.cl))
theorem RdRow.mono {news news' : List (Addr × Obj)} {v : Value} {d : Int × Int × Int} (h : RdRow news v d) (hs : ∀ p ∈ news, p ∈ news') : RdRow news' v d := by
  obtain ⟨a, n, t1, t2, t3, e, hm⟩ := h
  exact ⟨a, n, t1, t2, t3, e, hs _ hm⟩
theorem cmp_end {S : List (Addr × Obj) → Prop} {I C D N0 : Addr} {oI oC oD : Obj} {ext base own6 : List (Addr × Obj)} {infs : List Inf} {j : Inf} {i n : Nat} {t1 t2 t3 : Tok} {ys : List Value} {h' : Heap} {tk' : Nat}
    (F : Fr h₀ L h' m) (N : News h₀ L h' ((N0, listOf #[.int j.g t1, .int j.mv t2, .int j.cl t3] n) :: (I, oI) :: (C, oC) :: (D, oD) :: own6)) (h6 : own6 = ext ++ base) (off : LCg.Off3 I C D own6) (l1 : @LT.lt Nat _ I N0) (l2 : @LT.lt Nat _ C N0) (l3 : @LT.lt Nat _ D N0)
    (hJ : All2 (RdRow (ext ++ base)) ys ((infs.take i).map fun j => (j.g, j.mv, j.cl))) (hj : infs[i]? = some j) (hS : S ((N0, listOf #[.int j.g t1, .int j.mv t2, .int j.cl t3] n) :: own6)) :
    LCg.CompEnd h₀ L m s I oI C oC D oD S (fun y news' => CmpJ base infs (i + 1) (ys ++ [y]) news') (.ref N0) { s with heap := h', toks := tk' } := by
  subst h6
  refine LCg.CompEnd.intro F N ((N0, listOf #[.int j.g t1, .int j.mv t2, .int j.cl t3] n) :: (ext ++ base)) (fun p hp => ?_) ⟨⟨Nat.ne_of_gt l1, Nat.ne_of_gt l2, Nat.ne_of_gt l3⟩, off⟩ hS ⟨(N0, listOf #[.int j.g t1, .int j.mv t2, .int j.cl t3] n) :: ext, rfl, ?_⟩
  · simp only [List.mem_cons, List.mem_append] at hp ⊢
    rcases hp with e | e | e | e | e | e <;> simp [e]
  · rw [List.take_add_one, hj, List.map_append]
    exact all2_snoc (all2_imp (fun _ _ h => h.mono fun p hp => .tail _ hp) hJ) ⟨N0, n, t1, t2, t3, rfl, .head _⟩
theorem rows_read {infs : List Inf} {rws : List Row} {news : List (Addr × Obj)} (f : All2 InfRow infs rws) (h : ∀ r ∈ rws, r.ent ∈ news) : All2 (RdRow news) (rws.map fun r => Value.ref (Row.a r)) (infs.map fun j => (j.g, j.mv, j.cl)) := by
  induction f with
  | nil => exact .nil
  | @cons x y _ _ a _ ih =>
    refine .cons ⟨y.a, y.n, y.tg, y.tm, y.tc, rfl, ?_⟩ (ih fun r hr => h r (.tail _ hr))
    have := h y (.head _)
    dsimp only
    rw [a.g, a.mv, a.cl]
    exact this
def Zo (v : Value) : Prop := ∃ num tok, v = .int num tok ∧ (num = 0 ∨ num = 1)
def OrdPost (h₀ : Heap) (L : Addr) (m : Str → Option Value) (P c a1 a2 a3 : Addr) (o1 o2 o3 : Obj) (led6 : List (Addr × Obj)) (s : Shared) (v : Value) (s' : Shared) : Prop :=
  ∃ ol v0 v1 n h' tk oP oc, v = .ref ol ∧ s' = { s with heap := h', toks := tk } ∧ Fr h₀ L h' m ∧ News h₀ L h' ((ol, listOf #[v0, v1] n) :: (P, oP) :: (c, oc) :: (a1, o1) :: (a2, o2) :: (a3, o3) :: led6) ∧ (@LT.lt Nat _ P ol ∧ @LT.lt Nat _ c ol ∧ @LT.lt Nat _ a1 ol ∧ @LT.lt Nat _ a2 ol ∧ @LT.lt Nat _ a3 ol ∧ AllLt ol led6) ∧ Zo v0 ∧ Zo v1
theorem if_ord {A : Around} {env : Env} {e : PySem.Expr} {P c a1 a2 a3 : Addr} {oP oc o1 o2 o3 : Obj} {led6 : List (Addr × Obj)} (_F : Fr h₀ L s.heap m) (_N : News h₀ L s.heap ((P, oP) :: (c, oc) :: (a1, o1) :: (a2, o2) :: (a3, o3) :: led6))
    (h1 : wpAny (model prog w) A (eval e env) (OrdPost h₀ L m P c a1 a2 a3 o1 o2 o3 led6 s) E s)
    (h2 : ∀ ol v0 v1 n h' tk oP oc, Fr h₀ L h' m → News h₀ L h' ((ol, listOf #[v0, v1] n) :: (P, oP) :: (c, oc) :: (a1, o1) :: (a2, o2) :: (a3, o3) :: led6) → (@LT.lt Nat _ P ol ∧ @LT.lt Nat _ c ol ∧ @LT.lt Nat _ a1 ol ∧ @LT.lt Nat _ a2 ol ∧ @LT.lt Nat _ a3 ol ∧ AllLt ol led6) → Zo v0 → Zo v1 → Q (.ref ol) { s with heap := h', toks := tk }) :
    wpAny (model prog w) A (eval e env) Q E s := by
  refine wpAny_mono h1 (fun v s' h => ?_) fun _ _ e => e
  obtain ⟨ol, v0, v1, n, h', tk, oP, oc, rfl, rfl, F, N, hl, z0, z1⟩ := h
  exact h2 ol v0 v1 n h' tk oP oc F N hl z0 z1
def FlPost (b : Bool) (s : Shared) (v : Value) (s' : Shared) : Prop := ∃ t tk, v = .int (flOf b) t ∧ s' = { s with toks := tk }
theorem if_fl {A : Around} {env : Env} {e : PySem.Expr} {b : Bool} (_hb : m (Str.ofString "is_passing") = some (.bool b)) (_F : Fr h₀ L s.heap m) (h1 : wpAny (model prog w) A (eval e env) (FlPost b s) E s) (h2 : ∀ t tk, Q (.int (flOf b) t) { s with toks := tk }) : wpAny (model prog w) A (eval e env) Q E s := by
  refine wpAny_mono h1 (fun v s' h => ?_) fun _ _ e => e
  obtain ⟨t, tk, rfl, rfl⟩ := h
  exact h2 t tk
theorem mem15 {p e1 e2 e3 e4 e5 e6 e7 e8 e9 e10 e11 e12 e13 e14 e15 : Addr × Obj} {l : List (Addr × Obj)} (h : p ∈ l) : p ∈ e1 :: e2 :: e3 :: e4 :: e5 :: e6 :: e7 :: e8 :: e9 :: e10 :: e11 :: e12 :: e13 :: e14 :: e15 :: l := by
  iterate 15 apply List.Mem.tail
  exact h
theorem inf_ok_of {infs : List Inf} {rws : List Row} (f : All2 InfRow infs rws) : ∀ j ∈ infs, InfOk j := by
  induction f with
  | nil => intro j h; cases h
  | cons h _ ih =>
    intro j hj
    rcases List.mem_cons.mp hj with e | e
    · exact e ▸ h.ok
    · exact ih j e
theorem map_len_x {l l' : List Inf} (e : l'.map Inf.x = l.map Inf.x) : l'.length = l.length := by
  have h := congrArg List.length e
  rwa [List.length_map, List.length_map] at h
theorem out_start {base7 : List (Addr × Obj)} {tns : List Tn} (_ : ∀ t ∈ tns, TnOk prog w base7 t) : OutJ prog w base7 tns 0 [] base7 := ⟨[], rfl, .nil⟩
theorem inn_start {news₀ base : List (Addr × Obj)} {als tds : List Addr} (_ : All2 (SameTab prog w base) als tds) : InnJ prog w news₀ base tds 0 [] news₀ := ⟨rfl, .nil⟩
theorem cmp_start {base : List (Addr × Obj)} {infs : List Inf} : CmpJ base infs 0 [] base := ⟨[], rfl, .nil⟩

end
/- Top -/
section
theorem open₀ : ∀ w : World, (fencedOpening treeTable PySem.Challenge.pw_pb0205_01 w 9030).map (fun s => (s.heap, s.gens, s.drawn, s.toks)) = some (boot_heap w.params, Array.mk [], boot_drawn, boot_toks) :=
  boot_open (by kernel_rfl) (by rfl) (fun _ => by kernel_rfl)
noncomputable abbrev xt₀ (s : Shared) : Bool := xlAt hd.view_1_2 [] s && recOk (RowW.records PySem.Challenge.rw_pb0205_01.row.toRowW) s
noncomputable abbrev hook₀ : Hook := kHook K kas kas_ok
theorem obs₀ : ∀ (w : World) (os : OsState), hook₀.obs ⟨hd.heap_1_751 w.params, Array.mk [], ⟨0, 0, 0, 0⟩, 1210, os⟩ = hook₀.val w := fun _ _ => by kernel_rfl
theorem left₀ : LeftO PySem.Challenge.pw_pb0205_01 hd.view_1_2 [] xt₀ hook₀.obs hook₀.val 9030 :=
  LeftO.of_pieces (H₀ := boot_heap) (H₁ := hd.heap_1_751) (gs₀ := Array.mk []) (gs₁ := Array.mk []) (d₀ := boot_drawn) (d₁ := ⟨0, 0, 0, 0⟩) (k₀ := boot_toks) (k₁ := 1210) (m₀ := 11) (ann := some (Value.ref 6))
    open₀ hd._proof_1_756 hd._proof_1_754 (by rfl) (fun w => funext fun os => looks_pair (congrFun (hd._proof_1_758 w) os) (looks_pair (hd._proof_1_783 w os) (obs₀ w os)))
theorem law_of {d : DefRec} {kwd : List (Str × Expr)} (hdef : defOf hd.view_1_2 PySem.Challenge.rw_pb0205_01.row.name = some (d, kwd)) (hp : PySem.Challenge.rw_pb0205_01.row.prog.theDef PySem.Challenge.rw_pb0205_01.row.name = some (d.params, d.body, d.scope))
    (hk : kwWritten? d.params.kwonlyargs d.params.kw_defaults = some kwd) (h : WalkO hd.view_1_2 [] (XL hd.view_1_2 []) hook₀.says PySem.Challenge.rw_pb0205_01.row.toRowW d kwd (fun f vs => PySem.call f vs)) : PySem.Challenge.rw_pb0205_01.Holds := by
  o_law
  refine holds_open (q := hd.view_1_2) (loose := []) (Xt := xt₀) (XP := XL hd.view_1_2 []) (Yf := hook₀.obs) (Ya := hook₀.val) (YP := hook₀.says) (N := 9030) left₀ hook₀.of hook₀.keeps (fun s e => xl_of s (Bool.and_eq_true_iff.mp e).1) XL.keeps hdef hp hk (fun s e => recFacts_of (Bool.and_eq_true_iff.mp e).2) (by rfl) (by assumption) (by decide +kernel) ⟨rfl, rfl, rfl, rfl, rfl, by decide +kernel⟩ ?hw h
  case hw => w_witness2

end
/- Law -/
section
theorem newDict_env {A : Around} {env : Env} {pos : Pos} {m : Str → Option Value} {news : List (Addr × Obj)} (F : Fr h₀ env.locals s.heap m) (N : News h₀ env.locals s.heap news) (hbig : h₀.NoLimit)
    (k : ∀ d h' o, Fr h₀ env.locals h' m → News h₀ env.locals h' ((d, o) :: news) → (∀ p ∈ news, p.1 < d) → (d == sysModules) = false → o.IsDictOf (intKind prog w) [] → Q (.ref d) { s with heap := h' }) : wpAny (model prog w) A (eval (.Dict [] [] pos) env) Q E s :=
  newDict_K F N hbig fun d h' o F' N' l lo _ _ hi _ => k d h' o F' N' l lo hi
local macro_rules | `(tactic| walk_at "eval Dict nil nil") => `(tactic| (k_here; k_dflt (refine' newDict_env ?k1q02945 ?k2q02945 ?k3q02945 ?_; (case k1q02945 => k_asm); (case k2q02945 => k_asm); (case k3q02945 => exact TopRead.nolimit (by k_asm)); k_whole); intro d' h' o' F' N' l1 lo' hi'; (try k_lt l1); (try dsimp only at F' N'); (try k_sweep)))
local macro_rules | `(tactic| walk_at "eval Name") => `(tactic| (k_here; (first | (with_reducible show wpAny _ _ (eval (Expr.Name (Str.ofString "tables") _) (envOfC _ _ _ _ _)) _ _ _) | (with_reducible show wpAny _ _ (eval (Expr.Name (Str.ofString "shift") _) (envOfC _ _ _ _ _)) _ _ _) | (with_reducible show wpAny _ _ (eval (Expr.Name (Str.ofString "width") _) (envOfC _ _ _ _ _)) _ _ _)); k_dflt (refine' nameX_C ?Nq84320 ?cq84320 ?mq84320 ?dq84320 ?_ ?aq84320 ?bq84320; (case aq84320 => rfl); (case bq84320 => rfl); (case Nq84320 => k_asm); (case cq84320 => rfl); (case mq84320 => k_mem); (case dq84320 => k_asm); k_whole)))
local macro_rules | `(tactic| walk_at "eval Name") => `(tactic| (k_here; (first | (with_reducible show wpAny _ _ (eval (Expr.Name (Str.ofString "tables") _) (compEnvC _ _ _ _)) _ _ _) | (with_reducible show wpAny _ _ (eval (Expr.Name (Str.ofString "shift") _) (compEnvC _ _ _ _)) _ _ _) | (with_reducible show wpAny _ _ (eval (Expr.Name (Str.ofString "width") _) (compEnvC _ _ _ _)) _ _ _)); k_dflt (refine' lcf_cell ?Nq19966 ?cq19966 ?mq19966 ?dq19966 ?_ ?aq19966 ?bq19966; (case aq19966 => rfl); (case bq19966 => rfl); (case Nq19966 => k_asm); (case cq19966 => rfl); (case mq19966 => k_mem); (case dq19966 => k_asm); k_whole)))
local macro_rules | `(tactic| walk_at "newTuple") => `(tactic| (k_here; k_dflt (refine' kup_newTuple ?Fq07509 ?Nq07509 ?_ ?zq07509; (case Fq07509 => k_asm); (case Nq07509 => k_asm); (case zq07509 => kmk_size)); intro D' h' F' N' l1; (try k_lt l1); (try k_sweep)))
local macro_rules | `(tactic| walk_at "Src2") => `(tactic| (refine Hold.out ?_))
local macro_rules | `(tactic| walk_at "eval ListComp") => `(tactic| (k_here; (with_reducible show wpAny _ _ (eval (Expr.ListComp (Expr.Subscript _ _ _) _ _ _) _) _ _ _); (refine Hold.out ?_)))
local macro_rules | `(tactic| walk_at "compareOp Eq ref ref") => `(tactic| (refine Hold.out ?_))
local macro_rules | `(tactic| walk_at "compareOp NotEq ref ref") => `(tactic| (refine Hold.out ?_))
theorem law_holds : PySem.Challenge.rw_pb0205_01.Holds := law_of (by rfl) (by rfl) (by rfl) (by
  k_go0
  all_goals try k_fold
  k_with_none
  k_with "call ref" => ((with_reducible show wpAny _ _ (call (Value.ref 656) _) _ _ _); k_dflt (refine' tables_call3 (Cx.mk (by k_asm) (by k_asm) (by k_asm) rfl) (by k_asm) (by k_asm) (by assumption) (by assumption) (by assumption) (by omega) (by assumption) (by assumption) (by assumption) (by assumption) (by assumption) (by assumption) (by assumption) (by assumption) (by (first | omega | ((try simp only [depth_under_make, depth_under_kw, depth_in1, depth_deeper, depth_caller]); (try dsimp only [ktrTop]); omega) | ktr_room)) (by (first | omega | ((try simp only [units_in1, units_deeper, Around.mark_units, units_caller]); (try dsimp only [ktrTop]); omega) | ktr_units)) ?_); intro tl9 tds9 Ts9 kk9 h9 tk9 oP9 oc9 pl9 ext9 own9 ho9 F' N' p9 b9 n9 ht9 hT9 hl9 off9; (try k_fold))
  k_with "call ref" => ((with_reducible show wpAny _ _ (call (Value.ref 644) _) _ _ _); k_dflt (refine' pot_call (Cx.mk (by k_asm) (by k_asm) (by k_asm) rfl) (by k_asm) (by k_asm) (by assumption) (by assumption) (by omega) (by (first | omega | ((try simp only [depth_under_make, depth_under_kw, depth_in1, depth_deeper, depth_caller]); (try dsimp only [ktrTop]); omega) | ktr_room)) (by (first | omega | ((try simp only [units_in1, units_deeper, Around.mark_units, units_caller]); (try dsimp only [ktrTop]); omega) | ktr_units)) ?_); intro P9 c9 oP9 oc9 n9 k9 h9 tk9 F' N' p9 ne9 off9; (try k_fold))
  k_with "call ref" => ((with_reducible show wpAny _ _ (call (Value.ref 651) _) _ _ _); k_dflt (refine' draw_call3 (Cx.mk (by k_asm) (by k_asm) (by k_asm) rfl) (by k_asm) (by k_asm) (by assumption) (by k_updF) (by intro o; k_updF) (by assumption) (by omega) (by omega) (by omega) (by (first | omega | ((try simp only [depth_under_make, depth_under_kw, depth_in1, depth_deeper, depth_caller]); (try dsimp only [ktrTop]); omega) | ktr_room)) (by (first | omega | ((try simp only [units_in1, units_deeper, Around.mark_units, units_caller]); (try dsimp only [ktrTop]); omega) | ktr_units)) ?_); intro r9 t9 h9 tk9 oP9 oc9 F' N' p9 b9; (try dsimp only at N'); (try k_fold))
  k_with "pyIter ref" => (refine Hold.out ?_)
  rename News _ _ _ _ => N0
  rename CellsAre _ _ _ => X0
  clear X0
  rename _ = Data.cell _ => d1
  have d1' := Ex.cell d1
  clear d1
  rename _ = Data.cell _ => d2
  have d2' := Ex.cell d2
  clear d2
  rename _ = Data.cell _ => d3
  have d3' := Ex.cell d3
  clear d3
  k_steps
  unfold Hold
  rename IsRange _ _ _ _ _ _ _ _ => rg
  rename _ ∧ _ < (9 : Int) => hb
  rename PotSt _ _ _ _ _ _ => hp1
  rename _ ∧ _ ∧ _ ∧ _ ∧ _ => hlt
  have q1 := hlt.1
  have q2 := hlt.2.1
  have q3 := hlt.2.2.1
  have q4 := hlt.2.2.2.1
  have q5 := hlt.2.2.2.2
  clear hlt
  rename OwnOff _ _ => hoff0
  rename Fr _ _ _ _ => F1
  rename News _ _ _ _ => N1
  have c3 := q3
  have c2 := q4
  have c1 := q5
  refine rows_loop (by rfl) rg hb F1 N1 hp1 rfl rfl hoff0 q1 q2 (own3_lt q3 q4 q5) ?turn1 ?done1
  case turn1 =>
    clear F1 N1
    intro i t m₁ h tk I oI oP oc rws kk pl ownX hi hm1 hm2 hX hp2 hpl hrl hnd hra hmv hne hI1 hI2 hI3 hoff F2 N2
    clear hp1 q3 q4 q5 hb
    k_steps
    rename Fr _ _ _ _ => F9
    rename News _ _ _ _ => N9
    rename PotSt _ _ _ _ _ _ => hp9
    rename _ ∧ _ ∧ _ ∧ _ ∧ AllLt _ _ => hl9
    have z1 := hl9.1
    have z2 := hl9.2.1
    have z3 := hl9.2.2.1
    have z4 := hl9.2.2.2.1
    have z5 := hl9.2.2.2.2
    clear hl9
    exact rows_end (r := ⟨_, _, _, _, _, _, _, _⟩) F9 N9 hX (fun p hp => hp) hm1 hm2 hp9 ⟨by omega, by omega⟩ hrl hnd hra hmv (by assumption) (ktn_ltOf z5) z2 z1 hne
  case done1 =>
    clear F1 N1
    intro m₁ h tk oP oc rws kk pl ownX hm1 hm2 hX hp2 hpl hrl hnd hra hmv hoff F2 N2
    clear hp1 q3 q4 q5 hb
    k_with "exec For Tuple Name cons nil" => (k_here; (rename Fr _ _ _ _ => lF'); (with_unfolding_all refine' For_turns lF' ?_; k_whole))
    k_steps
    unfold Hold
    rename Fr _ _ _ _ => F5
    rename News _ _ _ _ => N5
    rename _ ∧ _ ∧ _ ∧ AllLt _ _ => hl5
    have z1 := hl5.1
    have z2 := hl5.2.1
    have z3 := hl5.2.2.1
    have z4 := hl5.2.2.2
    clear hl5
    have z4' := ktn_ltOf z4
    refine infos_loop (by rfl) F5 N5 (.head _) (fun r hr => .tail _ (.tail _ (.tail _ (by rw [hX]; exact List.mem_append_left _ (List.mem_map_of_mem hr))))) (lt_cons3 z1 z2 z3 z4') hm1 hm2 rfl ?turn2 ?done2
    case turn2 =>
      clear F5 N5
      intro i r m₁ h tk I oI infs kk ownY hri hrm hm1 hm2 hm3 hY hil ha hnd hi hne hI1 hoffY hrY F6 N6
      clear z1 z2 z3 z4 z4' q1 q2
      have hi8 : i < 8 := by
        have := (List.getElem?_eq_some_iff.mp hri).1
        omega
      have hmv9 := hmv r hrm
      k_steps
      rename Fr _ _ _ _ => F9
      rename News _ _ _ _ => N9
      rename _ ∧ _ ∧ AllLt _ _ => hl9
      have z1 := hl9.1
      have z2 := hl9.2.1
      have z3 := hl9.2.2
      clear hl9
      exact infos_end F9 N9 hY hm1 hm2 hm3 hri hil ha hnd hi ⟨⟨_, by k_get⟩, ⟨_, by k_get⟩, ⟨_, by k_get⟩, Nat.le_of_ble_eq_true rfl⟩ hmv9 (ktn_ltOf z3) z2 z1 (by assumption) hne
    case done2 =>
      clear F5 N5
      intro m₁ h tk infs kk hm1 hm2 hm3 ha hndx hi hoffx F6 N6
      refine ex1and6 (after_infos N6 hX hi hra (fun r hr => z4' r.ent (by rw [hX]; exact List.mem_append_left _ (List.mem_map_of_mem hr))) z1 q1 q2 c1 c2 c3) ?_
      intro own2 hown2 N7 hoff7 hoffd hoffa hra7
      clear N6
      clear z4 c1 c2 c3 hoffx
      refine ex1and2 (hide N7) ?_
      intro led0 hled0 N8
      clear N7
      repeat (rename Unit → Shared → Prop => zz; clear zz)
      repeat (rename List Value → Shared → Prop => zz; clear zz)
      repeat (rename Value → Shared → Prop => zz; clear zz)
      dsimp only
      k_steps
      unfold Hold
      rename IsRange _ _ _ _ _ _ _ _ => rg8
      rename Fr _ _ _ _ => F8
      rename News _ _ _ _ => N8
      refine' turns_loop (by rfl) rg8 F8 N8 hled0 hoff7 ?hPc hoff0 ?h12 ?h13 ?hz ?z ?H1 ?H2 d1' hp2 hpl ⟨hm2, hm1, rfl, rfl, rfl, rfl⟩ ?turn3 ?done3
      case hPc => assumption
      case h12 => show @Ne Nat _ _; omega
      case h13 => show @Ne Nat _ _; omega
      case hz => assumption
      case z =>
        refine ⟨?_, ?_, ?_, ?_, ?_, ?_, ?_, ?_, ?_, ?_, ?_, ?_⟩ <;> (dsimp only; first | (first | exact Nat.le_of_lt (by assumption) | exact Nat.le_of_lt (And.left (by assumption)) | exact Nat.le_of_lt (And.left (And.right (by assumption))) | exact Nat.le_of_lt (And.left (And.right (And.right (by assumption)))) | exact Nat.le_of_lt (And.left (And.right (And.right (And.right (by assumption))))) | exact Nat.le_of_lt (And.left (And.right (And.right (And.right (And.right (by assumption)))))) | exact Nat.le_of_lt (And.left (And.right (And.right (And.right (And.right (And.right (by assumption))))))) | exact Nat.le_of_lt (And.left (And.right (And.right (And.right (And.right (And.right (And.right (by assumption)))))))) | exact Nat.le_of_lt (And.left (And.right (And.right (And.right (And.right (And.right (And.right (And.right (by assumption))))))))) | exact Nat.le_of_lt (And.left (And.right (And.right (And.right (And.right (And.right (And.right (And.right (And.right (by assumption)))))))))) | exact Nat.le_of_lt (And.left (And.right (And.right (And.right (And.right (And.right (And.right (And.right (And.right (And.right (by assumption))))))))))) | exact Nat.le_of_lt (And.left (And.right (And.right (And.right (And.right (And.right (And.right (And.right (And.right (And.right (And.right (by assumption)))))))))))) | exact Nat.le_of_lt (And.left (And.right (And.right (And.right (And.right (And.right (And.right (And.right (And.right (And.right (And.right (And.right (by assumption))))))))))))) | exact Nat.le_of_lt (And.left (And.right (And.right (And.right (And.right (And.right (And.right (And.right (And.right (And.right (And.right (And.right (And.right (by assumption)))))))))))))) | exact Nat.le_of_lt (And.left (And.right (And.right (And.right (And.right (And.right (And.right (And.right (And.right (And.right (And.right (And.right (And.right (And.right (by assumption)))))))))))))))) | (refine Nat.le_trans ?_ (Nat.le_of_lt (by assumption)); (first | exact Nat.le_of_lt (by assumption) | exact Nat.le_of_lt (And.left (by assumption)) | exact Nat.le_of_lt (And.left (And.right (by assumption))) | exact Nat.le_of_lt (And.left (And.right (And.right (by assumption)))) | exact Nat.le_of_lt (And.left (And.right (And.right (And.right (by assumption))))) | exact Nat.le_of_lt (And.left (And.right (And.right (And.right (And.right (by assumption)))))) | exact Nat.le_of_lt (And.left (And.right (And.right (And.right (And.right (And.right (by assumption))))))) | exact Nat.le_of_lt (And.left (And.right (And.right (And.right (And.right (And.right (And.right (by assumption)))))))) | exact Nat.le_of_lt (And.left (And.right (And.right (And.right (And.right (And.right (And.right (And.right (by assumption))))))))) | exact Nat.le_of_lt (And.left (And.right (And.right (And.right (And.right (And.right (And.right (And.right (And.right (by assumption)))))))))) | exact Nat.le_of_lt (And.left (And.right (And.right (And.right (And.right (And.right (And.right (And.right (And.right (And.right (by assumption))))))))))) | exact Nat.le_of_lt (And.left (And.right (And.right (And.right (And.right (And.right (And.right (And.right (And.right (And.right (And.right (by assumption)))))))))))) | exact Nat.le_of_lt (And.left (And.right (And.right (And.right (And.right (And.right (And.right (And.right (And.right (And.right (And.right (And.right (by assumption))))))))))))) | exact Nat.le_of_lt (And.left (And.right (And.right (And.right (And.right (And.right (And.right (And.right (And.right (And.right (And.right (And.right (And.right (by assumption)))))))))))))) | exact Nat.le_of_lt (And.left (And.right (And.right (And.right (And.right (And.right (And.right (And.right (And.right (And.right (And.right (And.right (And.right (And.right (by assumption))))))))))))))))) | omega)
      case H1 => assumption
      case H2 => assumption
      case turn3 =>
        clear F8 N8
        intro i t m₁ h tk I oI oP oc o1 ext tns p' kp kl own4 hi2 hm hX4 hc1 hp4 hb4 hnew4 hoff4 htn4 hl4 hne4 ap1 ap2 ap3 ap4 ap5 ap6 ap7 ap8 ap9 ap10 ap11 ap12 ap13 ap14 hPc4 F4 N4
        have k1 := hm.1
        have k2 := hm.2
        have k3 := hm.3
        have k4 := hm.4
        have k5 := hm.5
        have k6 := hm.6
        clear hm
        obtain ⟨v1, hd1⟩ := hc1
        k_with "eval IfExp" => (refine Hold.out ?_)
        k_steps
        unfold Hold
        rename Fr _ _ _ _ => F4x
        refine if_fl rfl F4x ?flA ?flB
        case flA =>
          k_with_none
          k_with "call ref" => ((with_reducible show wpAny _ _ (call (Value.ref 656) _) _ _ _); k_dflt (refine' tables_call3 (Cx.mk (by k_asm) (by k_asm) (by k_asm) rfl) (by k_asm) (by k_asm) (by assumption) (by assumption) (by assumption) (by omega) (by assumption) (by assumption) (by assumption) (by assumption) (by assumption) (by assumption) (by assumption) (by assumption) (by (first | omega | ((try simp only [depth_under_make, depth_under_kw, depth_in1, depth_deeper, depth_caller]); (try dsimp only [ktrTop]); omega) | ktr_room)) (by (first | omega | ((try simp only [units_in1, units_deeper, Around.mark_units, units_caller]); (try dsimp only [ktrTop]); omega) | ktr_units)) ?_); intro tl9 tds9 Ts9 kk9 h9 tk9 oP9 oc9 pl9 ext9 own9 ho9 F' N' p9 b9 n9 ht9 hT9 hl9 off9; (try k_fold))
          k_with "call ref" => ((with_reducible show wpAny _ _ (call (Value.ref 644) _) _ _ _); k_dflt (refine' pot_call (Cx.mk (by k_asm) (by k_asm) (by k_asm) rfl) (by k_asm) (by k_asm) (by assumption) (by assumption) (by omega) (by (first | omega | ((try simp only [depth_under_make, depth_under_kw, depth_in1, depth_deeper, depth_caller]); (try dsimp only [ktrTop]); omega) | ktr_room)) (by (first | omega | ((try simp only [units_in1, units_deeper, Around.mark_units, units_caller]); (try dsimp only [ktrTop]); omega) | ktr_units)) ?_); intro P9 c9 oP9 oc9 n9 k9 h9 tk9 F' N' p9 ne9 off9; (try k_fold))
          k_with "call ref" => ((with_reducible show wpAny _ _ (call (Value.ref 651) _) _ _ _); k_dflt (refine' draw_call3 (Cx.mk (by k_asm) (by k_asm) (by k_asm) rfl) (by k_asm) (by k_asm) (by assumption) (by k_updF) (by intro o; k_updF) (by assumption) (by omega) (by omega) (by omega) (by (first | omega | ((try simp only [depth_under_make, depth_under_kw, depth_in1, depth_deeper, depth_caller]); (try dsimp only [ktrTop]); omega) | ktr_room)) (by (first | omega | ((try simp only [units_in1, units_deeper, Around.mark_units, units_caller]); (try dsimp only [ktrTop]); omega) | ktr_units)) ?_); intro r9 t9 h9 tk9 oP9 oc9 F' N' p9 b9; (try dsimp only at N'); (try k_fold))
          k_steps
          · rename _ = (1 : Int) => hr1
            exact ⟨_, _, by rw [hr1]; exact rfl, rfl⟩
          · rename _ ≠ (1 : Int) => hr1
            exact ⟨_, _, by unfold flOf; rw [show (_ == (1 : Int)) = false from beq_eq_false_iff_ne.mpr hr1]; exact rfl, rfl⟩
        case flB =>
          intro tf9 tk9f
          rename _ ∧ _ < (6 : Int) => b6
          rename _ ∧ _ < (3 : Int) => b3
          refine ex1and1 (Int.eq_ofNat_of_zero_le b6.1) ?_
          intro sh hshe
          subst hshe
          refine ex1and1 (Int.eq_ofNat_of_zero_le b3.1) ?_
          intro w0 hwe
          subst hwe
          k_steps
          unfold Hold
          rename All2 (TabIn _ _ _) _ _ => hT9
          rename _ = _ ++ own4 => ho9
          rename ∀ p ∈ _, _ ∧ ∀ q ∈ own4, _ => n9
          rename (_, listOf (List.map Value.ref _).toArray _) ∈ _ => ht9
          rename List.length _ = 1 ∨ _ => hl9
          rename OwnOff _ _ => off9
          rename PotSt _ _ _ _ _ _ => p9
          rename _ ∧ _ ∧ _ ∧ _ ∧ _ ∧ _ ∧ AllLt _ _ => hl1
          have y1 := hl1.1
          have y2 := hl1.2.1
          have y3 := hl1.2.2.1
          have y4 := hl1.2.2.2.1
          have y5 := hl1.2.2.2.2.1
          have y6 := hl1.2.2.2.2.2.1
          have y7 := hl1.2.2.2.2.2.2
          clear hl1
          have y7' := ktn_ltOf y7
          clear y7
          subst ho9
          rename Fr _ _ _ _ => F5
          rename News _ _ _ _ => N5
          have N5r := pull7 N5
          clear N5
          refine LCg.CompSrc.ledger (by rfl) F5 N5r (.tail _ (.tail _ (.tail _ (.tail _ (.tail _ (.tail _ (.tail _ (List.mem_append_left _ ht9)))))))) (by rw [List.size_toArray, List.length_map, sizeLine_eq]; omega) (fun g => alts_comp hT9 ?cturn ?cfin)
          case cturn =>
            intro ci td T o kvs ext3 als big Ic oIc Cc oCc Dc mc hc tkc Ec htd hTi h6 ha hs hn lo mM6 mM hdk hkl hall hC hx Fc Nc off ne1 ne2 ne3
            clear F5 N5r
            (try clear y1); (try clear y2); (try clear y3); (try clear y4); (try clear y5); (try clear y6); (try clear y7'); (try clear ap1); (try clear ap2); (try clear ap3); (try clear ap4); (try clear ap5); (try clear ap6); (try clear ap7); (try clear ap8); (try clear ap9); (try clear ap10); (try clear ap11); (try clear ap12); (try clear ap13); (try clear ap14); (try clear n9); (try clear off9); (try clear hnew4); (try clear hoff4); (try clear hne4); (try clear hoff); (try clear hoff7); (try clear hoffd); (try clear hoffa); (try clear hra7); (try clear hi); (try clear hra); (try clear z4'); (try clear z1); (try clear z2); (try clear z3); (try clear q1); (try clear q2); (try clear b3); (try clear b6); (try clear p9); (try clear hb4); (try clear hp4); (try clear hmv)
            k_with_none
            k_with "call ref" => ((with_reducible show wpAny _ _ (call (Value.ref 656) _) _ _ _); k_dflt (refine' tables_call3 (Cx.mk (by k_asm) (by k_asm) (by k_asm) rfl) (by k_asm) (by k_asm) (by assumption) (by assumption) (by assumption) (by omega) (by assumption) (by assumption) (by assumption) (by assumption) (by assumption) (by assumption) (by assumption) (by assumption) (by (first | omega | ((try simp only [depth_under_make, depth_under_kw, depth_in1, depth_deeper, depth_caller]); (try dsimp only [ktrTop]); omega) | ktr_room)) (by (first | omega | ((try simp only [units_in1, units_deeper, Around.mark_units, units_caller]); (try dsimp only [ktrTop]); omega) | ktr_units)) ?_); intro tl9 tds9 Ts9 kk9 h9 tk9 oP9 oc9 pl9 ext9 own9 ho9 F' N' p9 b9 n9 ht9 hT9 hl9 off9; (try k_fold))
            k_with "call ref" => ((with_reducible show wpAny _ _ (call (Value.ref 644) _) _ _ _); k_dflt (refine' pot_call (Cx.mk (by k_asm) (by k_asm) (by k_asm) rfl) (by k_asm) (by k_asm) (by assumption) (by assumption) (by omega) (by (first | omega | ((try simp only [depth_under_make, depth_under_kw, depth_in1, depth_deeper, depth_caller]); (try dsimp only [ktrTop]); omega) | ktr_room)) (by (first | omega | ((try simp only [units_in1, units_deeper, Around.mark_units, units_caller]); (try dsimp only [ktrTop]); omega) | ktr_units)) ?_); intro P9 c9 oP9 oc9 n9 k9 h9 tk9 F' N' p9 ne9 off9; (try k_fold))
            k_with "call ref" => ((with_reducible show wpAny _ _ (call (Value.ref 651) _) _ _ _); k_dflt (refine' draw_call3 (Cx.mk (by k_asm) (by k_asm) (by k_asm) rfl) (by k_asm) (by k_asm) (by assumption) (by k_updF) (by intro o; k_updF) (by assumption) (by omega) (by omega) (by omega) (by (first | omega | ((try simp only [depth_under_make, depth_under_kw, depth_in1, depth_deeper, depth_caller]); (try dsimp only [ktrTop]); omega) | ktr_room)) (by (first | omega | ((try simp only [units_in1, units_deeper, Around.mark_units, units_caller]); (try dsimp only [ktrTop]); omega) | ktr_units)) ?_); intro r9 t9 h9 tk9 oP9 oc9 F' N' p9 b9; (try dsimp only at N'); (try k_fold))
            k_steps
            unfold Hold
            rename Fr _ _ _ _ => F9
            rename News _ _ _ _ => N9
            exact alts_end F9 N9 h6 off (by k_get) (by assumption) (by assumption) lo mM hdk hkl hall hTi htd rfl ha hs hn (by assumption) (by omega) (by assumption) (.inr ⟨_, .tail _ (.tail _ (.tail _ (.tail _ (.tail _ (.tail _ (List.mem_append_right _ (List.mem_append_left _ (.tail _ ht9)))))))), rfl, _, rfl⟩)
          case cfin =>
            intro ext3 als ha hs hn
            intro D hD tkD FD ND offD
            clear F5 N5r
            obtain ⟨own6, h6⟩ := Eqn.mk' (ext3 ++ (_ :: _ ++ own4))
            rw [← h6] at ND offD
            have off6 := own6_off hn off9 ⟨y1, y2, y3, y4, y5, y6⟩
            rw [← h6] at off6
            have dd1 : Apart _ D := offD.1
            have dd2 : Apart _ D := offD.2.1
            have dd3 : Apart _ D := offD.2.2.1
            have dd4 : Apart _ D := offD.2.2.2.1
            have dd5 : Apart _ D := offD.2.2.2.2.1
            have dd6 : Apart _ D := offD.2.2.2.2.2.1
            dsimp only
            k_with_none
            k_with "call ref" => ((with_reducible show wpAny _ _ (call (Value.ref 656) _) _ _ _); k_dflt (refine' tables_call3 (Cx.mk (by k_asm) (by k_asm) (by k_asm) rfl) (by k_asm) (by k_asm) (by assumption) (by assumption) (by assumption) (by omega) (by assumption) (by assumption) (by assumption) (by assumption) (by assumption) (by assumption) (by assumption) (by assumption) (by (first | omega | ((try simp only [depth_under_make, depth_under_kw, depth_in1, depth_deeper, depth_caller]); (try dsimp only [ktrTop]); omega) | ktr_room)) (by (first | omega | ((try simp only [units_in1, units_deeper, Around.mark_units, units_caller]); (try dsimp only [ktrTop]); omega) | ktr_units)) ?_); intro tl9 tds9 Ts9 kk9 h9 tk9 oP9 oc9 pl9 ext9 own9 ho9 F' N' p9 b9 n9 ht9 hT9 hl9 off9; (try k_fold))
            k_with "call ref" => ((with_reducible show wpAny _ _ (call (Value.ref 644) _) _ _ _); k_dflt (refine' pot_call (Cx.mk (by k_asm) (by k_asm) (by k_asm) rfl) (by k_asm) (by k_asm) (by assumption) (by assumption) (by omega) (by (first | omega | ((try simp only [depth_under_make, depth_under_kw, depth_in1, depth_deeper, depth_caller]); (try dsimp only [ktrTop]); omega) | ktr_room)) (by (first | omega | ((try simp only [units_in1, units_deeper, Around.mark_units, units_caller]); (try dsimp only [ktrTop]); omega) | ktr_units)) ?_); intro P9 c9 oP9 oc9 n9 k9 h9 tk9 F' N' p9 ne9 off9; (try k_fold))
            k_with "call ref" => ((with_reducible show wpAny _ _ (call (Value.ref 651) _) _ _ _); k_dflt (refine' draw_call3 (Cx.mk (by k_asm) (by k_asm) (by k_asm) rfl) (by k_asm) (by k_asm) (by assumption) (by k_updF) (by intro o; k_updF) (by assumption) (by omega) (by omega) (by omega) (by (first | omega | ((try simp only [depth_under_make, depth_under_kw, depth_in1, depth_deeper, depth_caller]); (try dsimp only [ktrTop]); omega) | ktr_room)) (by (first | omega | ((try simp only [units_in1, units_deeper, Around.mark_units, units_caller]); (try dsimp only [ktrTop]); omega) | ktr_units)) ?_); intro r9 t9 h9 tk9 oP9 oc9 F' N' p9 b9; (try dsimp only at N'); (try k_fold))
            k_steps
            rename Fr _ _ _ _ => F9
            rename News _ _ _ _ => N9
            rename _ ∧ _ ∧ _ ∧ _ ∧ _ ∧ _ ∧ _ ∧ AllLt _ _ => hl9'
            have w1 := hl9'.1
            have w2 := hl9'.2.1
            have w3 := hl9'.2.2.1
            have w4 := hl9'.2.2.2.1
            have w5 := hl9'.2.2.2.2.1
            have w6 := hl9'.2.2.2.2.2.1
            have w7 := hl9'.2.2.2.2.2.2.1
            have w8 := hl9'.2.2.2.2.2.2.2
            clear hl9'
            have w8' := ktn_ltOf w8
            rw [h6] at offD N9 w8'
            obtain ⟨nn1, nn2⟩ := turn_new offD hn off9 n9 ⟨y1, y2, y3, y4, y5, y6⟩ y7' ⟨w2, w3, w4, w5, w6, w7⟩ w8' (by assumption)
            refine' turns_end (sh := sh) (wd := 1 + w0) rfl ?hwi F9 N9 hX4 turns_sub ⟨k1, k2, k3, k4, k5, k6⟩ (Ex.cell ?cc) p9 ?pb hnew4 hoff4 htn4 hl4 nn1 nn2 (.tail _ ht9) (all2_imp (fun _ _ h => h.mono fun p hp => .tail _ hp) hT9) hl9 ?sh ?wd ha hs ?g1 ?g2 ?g3 hne4 ap3 ap4 ap5
            case hwi => omega
            case cc => assumption
            case pb => exact ⟨by omega, by omega⟩
            case sh => omega
            case wd => exact ⟨by omega, by omega⟩
            case g1 => k_get
            case g2 => k_get
            case g3 => k_get
      case done3 =>
        clear F8 N8
        intro m₁ h tk oP oc o1 ext tns p' kp kl hbig hbpl hm hc1 hp4 hb4 hnew4 hoff4 htn4 hl4 hPc4 ap6 ap7 ap8 ap9 ap10 ap11 ap12 ap13 ap14 F4 N4
        have k1 := hm.1
        have k2 := hm.2
        have k3 := hm.3
        have k4 := hm.4
        have k5 := hm.5
        have k6 := hm.6
        clear hm
        refine ex1and5 (after_turns N4 rfl hled0 hbig hbpl hnew4 hoff4 hoff7 hoffd hoffa) ?_
        intro base6 hsub6 N6 hoffd6 hoffa6 hoff6
        have hgd6 : GdefIn _ _ base6 _ := ⟨⟨_, _, _, _, _, _, _, _, _, _, _, _, hsub6 _ (.tail _ (.tail _ (.tail _ (.tail _ (.head _))))), hsub6 _ (.tail _ (.tail _ (.tail _ (.tail _ (.tail _ (.head _)))))), (by k_get), hsub6 _ (.tail _ (.tail _ (.tail _ (.tail _ (.tail _ (.tail _ (.tail _ (.tail _ (.tail _ (.tail _ (.head _))))))))))), hsub6 _ (.tail _ (.tail _ (.tail _ (.tail _ (.tail _ (.tail _ (.tail _ (.tail _ (.tail _ (.tail _ (.tail _ (.head _)))))))))))), (by k_get), (by assumption), hsub6 _ (.tail _ (.tail _ (.tail _ (.tail _ (.tail _ (.tail _ (.tail _ (.tail _ (.tail _ (.tail _ (.tail _ (.tail _ (.head _))))))))))))), (by assumption), rfl, rfl, gdef_none _ _, (by k_get), (by k_get)⟩⟩
        have mb6 := hsub6 _ (.tail _ (.tail _ (.tail _ (.tail _ (.tail _ (.tail _ (.tail _ (.tail _ (.tail _ (.tail _ (.tail _ (.tail _ (.tail _ (.head _))))))))))))))
        have mdb6 := hsub6 _ (.tail _ (.tail _ (.tail _ (.tail _ (.tail _ (.tail _ (.tail _ (.tail _ (.tail _ (.tail _ (.tail _ (.tail _ (.tail _ (.tail _ (.head _)))))))))))))))
        have hrow6 := get_row mdb6 (by k_get)
        have mil6 : (_, listOf (infs.map fun j => Value.ref j.x).toArray _) ∈ base6 := hsub6 _ (mem15 (List.mem_append_right _ (by rw [hown2]; exact .head _)))
        have mrl6 : (_, listOf (rws.map fun r => Value.ref (Row.a r)).toArray _) ∈ base6 := hsub6 _ (mem15 (List.mem_append_right _ (by rw [hown2]; exact .tail _ (List.mem_append_right _ (.head _)))))
        have x1 : Apart _ _ := Apart.of (hoff0 _ (.tail _ (.head _)) _ (.head _))
        have x2 : Apart _ _ := Apart.of (hoff0 _ (.tail _ (.head _)) _ (.tail _ (.head _)))
        have x3 : Apart _ _ := Apart.of (hoff0 _ (.head _) _ (.head _))
        have x4 : Apart _ _ := Apart.of (hoff0 _ (.head _) _ (.tail _ (.head _)))
        clear N4
        obtain ⟨led6, hled6⟩ : ∃ l, l = infs.map Inf.ent ++ (rws.map Row.ent ++ base6) := ⟨_, rfl⟩
        rw [← hled6] at N6 hoff6
        dsimp only
        k_with_none
        k_with "call ref" => ((with_reducible show wpAny _ _ (call (Value.ref 656) _) _ _ _); k_dflt (refine' tables_call3 (Cx.mk (by k_asm) (by k_asm) (by k_asm) rfl) (by k_asm) (by k_asm) (by assumption) (by assumption) (by assumption) (by omega) (by assumption) (by assumption) (by assumption) (by assumption) (by assumption) (by assumption) (by assumption) (by assumption) (by (first | omega | ((try simp only [depth_under_make, depth_under_kw, depth_in1, depth_deeper, depth_caller]); (try dsimp only [ktrTop]); omega) | ktr_room)) (by (first | omega | ((try simp only [units_in1, units_deeper, Around.mark_units, units_caller]); (try dsimp only [ktrTop]); omega) | ktr_units)) ?_); intro tl9 tds9 Ts9 kk9 h9 tk9 oP9 oc9 pl9 ext9 own9 ho9 F' N' p9 b9 n9 ht9 hT9 hl9 off9; (try k_fold))
        k_with "call ref" => ((with_reducible show wpAny _ _ (call (Value.ref 644) _) _ _ _); k_dflt (refine' pot_call (Cx.mk (by k_asm) (by k_asm) (by k_asm) rfl) (by k_asm) (by k_asm) (by assumption) (by assumption) (by omega) (by (first | omega | ((try simp only [depth_under_make, depth_under_kw, depth_in1, depth_deeper, depth_caller]); (try dsimp only [ktrTop]); omega) | ktr_room)) (by (first | omega | ((try simp only [units_in1, units_deeper, Around.mark_units, units_caller]); (try dsimp only [ktrTop]); omega) | ktr_units)) ?_); intro P9 c9 oP9 oc9 n9 k9 h9 tk9 F' N' p9 ne9 off9; (try k_fold))
        k_with "call ref" => ((with_reducible show wpAny _ _ (call (Value.ref 651) _) _ _ _); k_dflt (refine' draw_call3 (Cx.mk (by k_asm) (by k_asm) (by k_asm) rfl) (by k_asm) (by k_asm) (by assumption) (by k_updF) (by intro o; k_updF) (by assumption) (by omega) (by omega) (by omega) (by (first | omega | ((try simp only [depth_under_make, depth_under_kw, depth_in1, depth_deeper, depth_caller]); (try dsimp only [ktrTop]); omega) | ktr_room)) (by (first | omega | ((try simp only [units_in1, units_deeper, Around.mark_units, units_caller]); (try dsimp only [ktrTop]); omega) | ktr_units)) ?_); intro r9 t9 h9 tk9 oP9 oc9 F' N' p9 b9; (try dsimp only at N'); (try k_fold))
        k_with "eval IfExp" => (refine Hold.out ?_)
        k_steps
        unfold Hold
        rename Fr _ _ _ _ => F6x
        rename News _ _ _ _ => N6x
        refine if_ord F6x N6x ?ordA ?ordB
        case ordA =>
          k_with_none
          k_with "call ref" => ((with_reducible show wpAny _ _ (call (Value.ref 656) _) _ _ _); k_dflt (refine' tables_call3 (Cx.mk (by k_asm) (by k_asm) (by k_asm) rfl) (by k_asm) (by k_asm) (by assumption) (by assumption) (by assumption) (by omega) (by assumption) (by assumption) (by assumption) (by assumption) (by assumption) (by assumption) (by assumption) (by assumption) (by (first | omega | ((try simp only [depth_under_make, depth_under_kw, depth_in1, depth_deeper, depth_caller]); (try dsimp only [ktrTop]); omega) | ktr_room)) (by (first | omega | ((try simp only [units_in1, units_deeper, Around.mark_units, units_caller]); (try dsimp only [ktrTop]); omega) | ktr_units)) ?_); intro tl9 tds9 Ts9 kk9 h9 tk9 oP9 oc9 pl9 ext9 own9 ho9 F' N' p9 b9 n9 ht9 hT9 hl9 off9; (try k_fold))
          k_with "call ref" => ((with_reducible show wpAny _ _ (call (Value.ref 644) _) _ _ _); k_dflt (refine' pot_call (Cx.mk (by k_asm) (by k_asm) (by k_asm) rfl) (by k_asm) (by k_asm) (by assumption) (by assumption) (by omega) (by (first | omega | ((try simp only [depth_under_make, depth_under_kw, depth_in1, depth_deeper, depth_caller]); (try dsimp only [ktrTop]); omega) | ktr_room)) (by (first | omega | ((try simp only [units_in1, units_deeper, Around.mark_units, units_caller]); (try dsimp only [ktrTop]); omega) | ktr_units)) ?_); intro P9 c9 oP9 oc9 n9 k9 h9 tk9 F' N' p9 ne9 off9; (try k_fold))
          k_with "call ref" => ((with_reducible show wpAny _ _ (call (Value.ref 651) _) _ _ _); k_dflt (refine' draw_call3 (Cx.mk (by k_asm) (by k_asm) (by k_asm) rfl) (by k_asm) (by k_asm) (by assumption) (by k_updF) (by intro o; k_updF) (by assumption) (by omega) (by omega) (by omega) (by (first | omega | ((try simp only [depth_under_make, depth_under_kw, depth_in1, depth_deeper, depth_caller]); (try dsimp only [ktrTop]); omega) | ktr_room)) (by (first | omega | ((try simp only [units_in1, units_deeper, Around.mark_units, units_caller]); (try dsimp only [ktrTop]); omega) | ktr_units)) ?_); intro r9 t9 h9 tk9 oP9 oc9 F' N' p9 b9; (try dsimp only at N'); (try k_fold))
          k_steps
          all_goals (
            rename Fr _ _ _ _ => F6y
            rename News _ _ _ _ => N6y
            first
              | exact ⟨_, _, _, _, _, _, _, _, rfl, rfl, F6y, N6y, by assumption, ⟨_, _, rfl, .inl rfl⟩, ⟨_, _, rfl, .inr rfl⟩⟩
              | exact ⟨_, _, _, _, _, _, _, _, rfl, rfl, F6y, N6y, by assumption, ⟨_, _, rfl, .inr rfl⟩, ⟨_, _, rfl, .inl rfl⟩⟩)
        case ordB =>
          clear F6x N6x
          intro ol9 v09 v19 n9o h9o tk9o oP9o oc9o F6z N6z hl7 hz0 hz1
          k_with_none
          k_with "call ref" => ((with_reducible show wpAny _ _ (call (Value.ref 656) _) _ _ _); k_dflt (refine' tables_call3 (Cx.mk (by k_asm) (by k_asm) (by k_asm) rfl) (by k_asm) (by k_asm) (by assumption) (by assumption) (by assumption) (by omega) (by assumption) (by assumption) (by assumption) (by assumption) (by assumption) (by assumption) (by assumption) (by assumption) (by (first | omega | ((try simp only [depth_under_make, depth_under_kw, depth_in1, depth_deeper, depth_caller]); (try dsimp only [ktrTop]); omega) | ktr_room)) (by (first | omega | ((try simp only [units_in1, units_deeper, Around.mark_units, units_caller]); (try dsimp only [ktrTop]); omega) | ktr_units)) ?_); intro tl9 tds9 Ts9 kk9 h9 tk9 oP9 oc9 pl9 ext9 own9 ho9 F' N' p9 b9 n9 ht9 hT9 hl9 off9; (try k_fold))
          k_with "call ref" => ((with_reducible show wpAny _ _ (call (Value.ref 644) _) _ _ _); k_dflt (refine' pot_call (Cx.mk (by k_asm) (by k_asm) (by k_asm) rfl) (by k_asm) (by k_asm) (by assumption) (by assumption) (by omega) (by (first | omega | ((try simp only [depth_under_make, depth_under_kw, depth_in1, depth_deeper, depth_caller]); (try dsimp only [ktrTop]); omega) | ktr_room)) (by (first | omega | ((try simp only [units_in1, units_deeper, Around.mark_units, units_caller]); (try dsimp only [ktrTop]); omega) | ktr_units)) ?_); intro P9 c9 oP9 oc9 n9 k9 h9 tk9 F' N' p9 ne9 off9; (try k_fold))
          k_with "call ref" => ((with_reducible show wpAny _ _ (call (Value.ref 651) _) _ _ _); k_dflt (refine' draw_call3 (Cx.mk (by k_asm) (by k_asm) (by k_asm) rfl) (by k_asm) (by k_asm) (by assumption) (by k_updF) (by intro o; k_updF) (by assumption) (by omega) (by omega) (by omega) (by (first | omega | ((try simp only [depth_under_make, depth_under_kw, depth_in1, depth_deeper, depth_caller]); (try dsimp only [ktrTop]); omega) | ktr_room)) (by (first | omega | ((try simp only [units_in1, units_deeper, Around.mark_units, units_caller]); (try dsimp only [ktrTop]); omega) | ktr_units)) ?_); intro r9 t9 h9 tk9 oP9 oc9 F' N' p9 b9; (try dsimp only at N'); (try k_fold))
          k_with "pyIter ref" => (refine Hold.out ?_)
          k_steps
          unfold Hold
          rename Fr _ _ _ _ => F7
          rename News _ _ _ _ => N7
          refine' last_loop (by rfl) F7 N7 hled6 hl7 hoff6 hoffd6 hoffa6 hndx hnd hra7 hoff0 ?xs hc1 d2' d3' ha hmv ⟨k1, k2, k3, k4, k5, k6⟩ ?turn5 ?done5
          case xs => intro j hj; exact hsub6 _ (mem15 (List.mem_append_right _ (by rw [hown2]; exact .tail _ (List.mem_append_left _ (List.mem_map_of_mem hj)))))
          case turn5 =>
            clear F7 N7 hl7 F6z
            intro i v m₁ h tk I oI o1 o2 o3 infs' rws' own8 base7 hv hm h8 hsub7 c1 c2 c3 ha8 K8 hx8 hr8 hmv8 hI8 hoff8 j1 j2 j3 F8 N8
            have k1' := hm.1
            have k2' := hm.2
            have k3' := hm.3
            have k4' := hm.4
            have k5' := hm.5
            have k6' := hm.6
            clear hm
            obtain ⟨w1, g1⟩ := c1
            obtain ⟨w2, g2⟩ := c2
            obtain ⟨w3, g3⟩ := c3
            obtain ⟨num, tok, rfl, hn01⟩ : ∃ num tok, v = .int num tok ∧ (num = 0 ∨ num = 1) := by
              rcases two_items hv with e | e
              · rw [e]; exact hz0
              · rw [e]; exact hz1
            refine ex1and3 (pick hl4 hn01) ?_
            intro t ht hpt hlk
            have hnum : 0 ≤ num ∧ num < 100 := by omega
            have hn0 : 0 ≤ num := hnum.1
            have hn1 : num < 100 := hnum.2
            have s7 : ∀ p ∈ base7, p ∈ own8 := fun p hp => by rw [h8]; exact List.mem_append_right _ (List.mem_append_right _ hp)
            have ht7 : TnOk _ _ base7 t := (htn4 t ht).mono fun p hp => hsub7 p (hsub6 p (mem15 (List.mem_append_left _ hp)))
            have mpl := s7 _ (hsub7 _ (hsub6 _ (.head _)))
            refine ex3and1 (ht7.pt) ?_
            intro np ts tw mpt
            replace mpt := s7 _ mpt
            have hs5 := ht7.sh
            have hw5 := ht7.wd
            have htl8 := s7 _ ht7.tl
            have mil7 := hsub7 _ mil6
            rw [← map_ref_x hx8] at mil7
            have mrl7 := hsub7 _ mrl6
            rw [← map_ref_a hr8] at mrl7
            have mrl8 := s7 _ mrl7
            have mb7 := hsub7 _ mb6
            have mdb7 := hsub7 _ mdb6
            have hgd7 := hgd6.mono hsub7
            have mll7 := hsub7 _ (hsub6 _ (.tail _ (.head _)))
            have ell : (tns.map fun t => Value.ref (Tn.lk t)) = (tns.map Tn.lk).map Value.ref := by rw [List.map_map]; rfl
            rw [ell] at mll7
            have hlen8 : rws'.length ≤ 8 := by
              have := congrArg List.length hr8
              rw [List.length_map, List.length_map] at this
              omega
            have hleni : infs'.length ≤ 8 := by rw [All2.length ha8]; exact hlen8
            have hsz : (rws'.map fun r => Value.ref (Row.a r)).length * (t.tds.map Value.ref).length ≤ 1000 := by
              rw [List.length_map, List.length_map]
              rcases ht7.len with e | e <;> rw [e] <;> omega
            k_with_none
            k_with "call ref" => ((with_reducible show wpAny _ _ (call (Value.ref 656) _) _ _ _); k_dflt (refine' tables_call3 (Cx.mk (by k_asm) (by k_asm) (by k_asm) rfl) (by k_asm) (by k_asm) (by assumption) (by assumption) (by assumption) (by omega) (by assumption) (by assumption) (by assumption) (by assumption) (by assumption) (by assumption) (by assumption) (by assumption) (by (first | omega | ((try simp only [depth_under_make, depth_under_kw, depth_in1, depth_deeper, depth_caller]); (try dsimp only [ktrTop]); omega) | ktr_room)) (by (first | omega | ((try simp only [units_in1, units_deeper, Around.mark_units, units_caller]); (try dsimp only [ktrTop]); omega) | ktr_units)) ?_); intro tl9 tds9 Ts9 kk9 h9 tk9 oP9 oc9 pl9 ext9 own9 ho9 F' N' p9 b9 n9 ht9 hT9 hl9 off9; (try k_fold))
            k_with "call ref" => ((with_reducible show wpAny _ _ (call (Value.ref 644) _) _ _ _); k_dflt (refine' pot_call (Cx.mk (by k_asm) (by k_asm) (by k_asm) rfl) (by k_asm) (by k_asm) (by assumption) (by assumption) (by omega) (by (first | omega | ((try simp only [depth_under_make, depth_under_kw, depth_in1, depth_deeper, depth_caller]); (try dsimp only [ktrTop]); omega) | ktr_room)) (by (first | omega | ((try simp only [units_in1, units_deeper, Around.mark_units, units_caller]); (try dsimp only [ktrTop]); omega) | ktr_units)) ?_); intro P9 c9 oP9 oc9 n9 k9 h9 tk9 F' N' p9 ne9 off9; (try k_fold))
            k_with "call ref" => ((with_reducible show wpAny _ _ (call (Value.ref 651) _) _ _ _); k_dflt (refine' draw_call3 (Cx.mk (by k_asm) (by k_asm) (by k_asm) rfl) (by k_asm) (by k_asm) (by assumption) (by k_updF) (by intro o; k_updF) (by assumption) (by omega) (by omega) (by omega) (by (first | omega | ((try simp only [depth_under_make, depth_under_kw, depth_in1, depth_deeper, depth_caller]); (try dsimp only [ktrTop]); omega) | ktr_room)) (by (first | omega | ((try simp only [units_in1, units_deeper, Around.mark_units, units_caller]); (try dsimp only [ktrTop]); omega) | ktr_units)) ?_); intro r9 t9 h9 tk9 oP9 oc9 F' N' p9 b9; (try dsimp only at N'); (try k_fold))
            k_with "eval ListComp" => (refine Hold.out ?_)
            k_with "call ref" => (refine Hold.out ?_)
            k_with "call builtin:all" => (refine Hold.out ?_)
            k_with "compareOp NotEq ref ref" => (refine Hold.out ?_)
            k_steps
            unfold Hold
            rename Fr _ _ _ _ => F5
            rename News _ _ _ _ => N5
            refine ListComp_2 (F₀ := F5) (by with_unfolding_all rfl) (by decide) (by rfl) (by decide) (by rfl) (by rfl) (by decide) ?_
            k_steps
            unfold Hold
            refine ⟨_, _, _, _, _, _, _, rfl, rfl, F5, N5, .tail _ (.tail _ (.tail _ (.tail _ mrl8))), .tail _ (.tail _ (.tail _ (.tail _ htl8))), hsz, ?tw, ?fin⟩
            case tw =>
              rintro _ ⟨g, rfl⟩
              refine ⟨?it, ?tn⟩
              case it =>
                intro C oC m₂ h tk E' hC hg Fc Nc
                clear F5 N5
                walk1
                exact ⟨rfl, _, rfl⟩
              case tn =>
                intro v1 v2 I1 oI1 I2 oI2 C oC D oD m₂ h tk E' hv1 hv2 hC hx hy Fc Nc
                clear F5 N5
                refine ex1and2 (List.mem_map.mp hv1) ?_
                intro r hr e223z
                subst e223z
                refine ex1and2 (List.mem_map.mp hv2) ?_
                intro td htd e224z
                subst e224z
                have hmr := hmv8 r hr
                have mr8 : (r.a, listOf #[.int r.g r.tg, .int r.mv r.tm, .int r.cl r.tc] r.n) ∈ own8 := by rw [h8]; exact List.mem_append_right _ (List.mem_append_left _ (List.mem_map_of_mem hr))
                obtain ⟨T, hTm, hTab⟩ := All2.mem_left ht7.tabs htd
                have hTab8 := hTab.mono s7
                k_steps
                unfold Hold
                rename Fr _ _ _ _ => Fd
                rename News _ _ _ _ => Nd
                refine' alone_call (Cx.mk ?aB ?aX ?aT ?aK) Fd Nd (.tail _ (.tail _ (.tail _ (.tail _ (.tail _ (.tail _ (.tail _ (.tail _ mr8)))))))) (hTab8.mono fun p hp => .tail _ (.tail _ (.tail _ (.tail _ (.tail _ (.tail _ (.tail _ (.tail _ hp)))))))) hmr hs5 hw5 ?ad ?au ?ar
                case aB => k_asm
                case aX => k_asm
                case aT => k_asm
                case aK => rfl
                case ad => (first | omega | ((try simp only [depth_under_make, depth_under_kw, depth_in1, depth_deeper, depth_caller]); (try dsimp only [ktrTop]); omega) | ktr_room)
                case au => (first | omega | ((try simp only [units_in1, units_deeper, Around.mark_units, units_caller]); (try dsimp only [ktrTop]); omega) | ktr_units)
                case ar => exact fun h9 tk9 F9 N9 => ⟨rfl, _, _, rfl, F9, N9⟩
            case fin =>
              intro D h tk n F N off hn
              clear F5 N5
              dsimp only
              k_steps
              unfold Hold
              rename Fr _ _ _ _ => Fe
              rename News _ _ _ _ => Ne
              refine all_trues (by rfl) Fe Ne (.head _) fun h9 tk9 Ff Nf => ?_
              clear Fe Ne
              k_steps
              unfold Hold
              rename Fr _ _ _ _ => Fe
              rename News _ _ _ _ => Ne
              refine' run_call3 (Cx.mk ?rB ?rX ?rT ?rK) Fe h8 K8 (news_tail Ne) hI8 hmv8 hlen8 mrl7 ht7 ?rd ?ru ?rr
              case rB => k_asm
              case rX => k_asm
              case rT => k_asm
              case rK => rfl
              case rd => (first | omega | ((try simp only [depth_under_make, depth_under_kw, depth_in1, depth_deeper, depth_caller]); (try dsimp only [ktrTop]); omega) | ktr_room)
              case ru => (first | omega | ((try simp only [units_in1, units_deeper, Around.mark_units, units_caller]); (try dsimp only [ktrTop]); omega) | ktr_units)
              intro t9 h9 tk9 rws9 own9 hr9 hw9a K9a o9a i9a Fg Ng
              clear Fe Ne
              k_steps
              unfold Hold
              rename Fr _ _ _ _ => Fe
              rename News _ _ _ _ => Ne
              refine' runsub_call3 (Cx.mk ?sB ?sX ?sT ?sK) Fe hw9a K9a ha8 Ne i9a hleni mil7 mb7 mdb7 hrow6 mll7 hnum hlk ht7 hgd7 ?sd ?su ?sr
              case sB => k_asm
              case sX => k_asm
              case sT => k_asm
              case sK => rfl
              case sd => (first | omega | ((try simp only [depth_under_make, depth_under_kw, depth_in1, depth_deeper, depth_caller]); (try dsimp only [ktrTop]); omega) | ktr_room)
              case su => (first | omega | ((try simp only [units_in1, units_deeper, Around.mark_units, units_caller]); (try dsimp only [ktrTop]); omega) | ktr_units)
              intro t9b h9b tk9b infs9 own10 hs9 hw9 K9 o9 i9 Fh Nh
              clear Fe Ne
              have ha9 := stepped_rows ha8 hs9 hr9
              have s9 : ∀ p ∈ base7, p ∈ own10 := fun p hp => by rw [hw9]; exact List.mem_append_right _ (List.mem_append_right _ hp)
              have e9 := map_eq_of hs9 fun _ _ h => h.x
              have e9r := map_eq_of hr9 fun _ _ h => h.a
              have mb9 := s9 _ mb7
              have mdb9 := s9 _ mdb7
              have mil9 := s9 _ mil7
              rw [← map_ref_x e9] at mil9
              have mrl9 := s9 _ mrl7
              rw [← map_ref_a e9r] at mrl9
              k_with_none
              k_with "call ref" => ((with_reducible show wpAny _ _ (call (Value.ref 656) _) _ _ _); k_dflt (refine' tables_call3 (Cx.mk (by k_asm) (by k_asm) (by k_asm) rfl) (by k_asm) (by k_asm) (by assumption) (by assumption) (by assumption) (by omega) (by assumption) (by assumption) (by assumption) (by assumption) (by assumption) (by assumption) (by assumption) (by assumption) (by (first | omega | ((try simp only [depth_under_make, depth_under_kw, depth_in1, depth_deeper, depth_caller]); (try dsimp only [ktrTop]); omega) | ktr_room)) (by (first | omega | ((try simp only [units_in1, units_deeper, Around.mark_units, units_caller]); (try dsimp only [ktrTop]); omega) | ktr_units)) ?_); intro tl9 tds9 Ts9 kk9 h9 tk9 oP9 oc9 pl9 ext9 own9 ho9 F' N' p9 b9 n9 ht9 hT9 hl9 off9; (try k_fold))
              k_with "call ref" => ((with_reducible show wpAny _ _ (call (Value.ref 644) _) _ _ _); k_dflt (refine' pot_call (Cx.mk (by k_asm) (by k_asm) (by k_asm) rfl) (by k_asm) (by k_asm) (by assumption) (by assumption) (by omega) (by (first | omega | ((try simp only [depth_under_make, depth_under_kw, depth_in1, depth_deeper, depth_caller]); (try dsimp only [ktrTop]); omega) | ktr_room)) (by (first | omega | ((try simp only [units_in1, units_deeper, Around.mark_units, units_caller]); (try dsimp only [ktrTop]); omega) | ktr_units)) ?_); intro P9 c9 oP9 oc9 n9 k9 h9 tk9 F' N' p9 ne9 off9; (try k_fold))
              k_with "call ref" => ((with_reducible show wpAny _ _ (call (Value.ref 651) _) _ _ _); k_dflt (refine' draw_call3 (Cx.mk (by k_asm) (by k_asm) (by k_asm) rfl) (by k_asm) (by k_asm) (by assumption) (by k_updF) (by intro o; k_updF) (by assumption) (by omega) (by omega) (by omega) (by (first | omega | ((try simp only [depth_under_make, depth_under_kw, depth_in1, depth_deeper, depth_caller]); (try dsimp only [ktrTop]); omega) | ktr_room)) (by (first | omega | ((try simp only [units_in1, units_deeper, Around.mark_units, units_caller]); (try dsimp only [ktrTop]); omega) | ktr_units)) ?_); intro r9 t9 h9 tk9 oP9 oc9 F' N' p9 b9; (try dsimp only at N'); (try k_fold))
              k_with "compareOp NotEq ref ref" => (refine Hold.out ?_)
              k_steps
              unfold Hold
              rename Fr _ _ _ _ => F5
              rename News _ _ _ _ => N5
              refine LCg.CompSrc.ledger (by rfl) F5 N5 (.tail _ (.tail _ (.tail _ (.tail _ mil9)))) (by rw [List.size_toArray, List.length_map, map_len_x e9, sizeLine_eq]; omega) (fun g => comp_inv (CmpJ _ infs9) cmp_start ?ct ?cf)
              case ct =>
                intro ci cv ys news₃ Ic oIc Cc oCc Dc mc hc tkc Ec hci hcv hJ201z
                refine ex1and2 hJ201z ?_
                intro ext5 e202z hJ
                (try clear hJ201z)
                subst e202z
                intro hC hx Fc Nc off5 hJ203z
                have ne1 := hJ203z.1
                have ne2 := hJ203z.2.1
                have ne3 := hJ203z.2.2
                clear hJ203z
                clear F5 N5
                refine ex1and2 (ref_item (f := Inf.x) hcv) ?_
                intro j hj e225z
                subst e225z
                have hjm := List.mem_of_getElem? hj
                obtain ⟨big, hbig5⟩ := Eqn.mk' (ext5 ++ _)
                rw [← hbig5] at Nc off5
                have jx := K9.xs j hjm
                have ie5 := (inf_ok_of ha9 j hjm).es
                refine ex1and1 (ie5.glyph) ?_
                intro tg5 eg5
                refine ex1and1 (ie5.mask) ?_
                intro tm5 em5
                refine ex1and1 (ie5.cluster) ?_
                intro tc5 ec5
                clear ie5
                have jx5 : (j.x, instObj 52 j.dx) ∈ big := by rw [hbig5]; exact List.mem_append_right _ (.tail _ (.tail _ (.tail _ (.tail _ (s9 _ jx)))))
                have jd5 : (j.dx, dictOf j.es j.n) ∈ big := by rw [hbig5]; exact List.mem_append_right _ (.tail _ (.tail _ (.tail _ (.tail _ (by rw [hw9]; exact List.mem_append_left _ (List.mem_map_of_mem hjm))))))
                k_steps
                unfold Hold
                rename Fr _ _ _ _ => F9
                rename News _ _ _ _ => N9
                rename _ ∧ _ ∧ _ ∧ AllLt _ _ => hl9
                have b1 := hl9.1
                have b2 := hl9.2.1
                have b3 := hl9.2.2.1
                have b4 := hl9.2.2.2
                clear hl9
                exact cmp_end F9 N9 hbig5 off5 b1 b2 b3 hJ hj (.inr ⟨_, .tail _ (by rw [hbig5]; exact List.mem_append_right _ (.tail _ (.tail _ (.tail _ (.tail _ mil9))))), rfl, _, rfl⟩)
              case cf =>
                intro ys news₃ hJ204z
                refine ex1and2 hJ204z ?_
                intro ext5 e205z hJ
                (try clear hJ204z)
                subst e205z
                intro D hD tkD FD ND offD
                clear F5 N5
                obtain ⟨big, hbig5⟩ := Eqn.mk' (ext5 ++ _)
                rw [← hbig5] at ND offD hJ
                dsimp only
                k_steps
                unfold Hold
                rename Fr _ _ _ _ => F9
                rename News _ _ _ _ => N9
                rw [List.size_toArray, List.length_map, List.take_length] at hJ
                refine ne_rows N9 (.head _) (.tail _ (by rw [hbig5]; exact List.mem_append_right _ (.tail _ (.tail _ (.tail _ (.tail _ mrl9)))))) (all2_imp (fun _ _ h => h.mono fun p hp => .tail _ hp) hJ) (rows_read ha9 fun r hr => .tail _ (by rw [hbig5]; exact List.mem_append_right _ (.tail _ (.tail _ (.tail _ (.tail _ (by rw [hw9]; exact List.mem_append_right _ (List.mem_append_left _ (List.mem_map_of_mem hr)))))))) ) ?room ?_
                case room => ke_room
                k_with_none
                k_with "call ref" => ((with_reducible show wpAny _ _ (call (Value.ref 656) _) _ _ _); k_dflt (refine' tables_call3 (Cx.mk (by k_asm) (by k_asm) (by k_asm) rfl) (by k_asm) (by k_asm) (by assumption) (by assumption) (by assumption) (by omega) (by assumption) (by assumption) (by assumption) (by assumption) (by assumption) (by assumption) (by assumption) (by assumption) (by (first | omega | ((try simp only [depth_under_make, depth_under_kw, depth_in1, depth_deeper, depth_caller]); (try dsimp only [ktrTop]); omega) | ktr_room)) (by (first | omega | ((try simp only [units_in1, units_deeper, Around.mark_units, units_caller]); (try dsimp only [ktrTop]); omega) | ktr_units)) ?_); intro tl9 tds9 Ts9 kk9 h9 tk9 oP9 oc9 pl9 ext9 own9 ho9 F' N' p9 b9 n9 ht9 hT9 hl9 off9; (try k_fold))
                k_with "call ref" => ((with_reducible show wpAny _ _ (call (Value.ref 644) _) _ _ _); k_dflt (refine' pot_call (Cx.mk (by k_asm) (by k_asm) (by k_asm) rfl) (by k_asm) (by k_asm) (by assumption) (by assumption) (by omega) (by (first | omega | ((try simp only [depth_under_make, depth_under_kw, depth_in1, depth_deeper, depth_caller]); (try dsimp only [ktrTop]); omega) | ktr_room)) (by (first | omega | ((try simp only [units_in1, units_deeper, Around.mark_units, units_caller]); (try dsimp only [ktrTop]); omega) | ktr_units)) ?_); intro P9 c9 oP9 oc9 n9 k9 h9 tk9 F' N' p9 ne9 off9; (try k_fold))
                k_with "call ref" => ((with_reducible show wpAny _ _ (call (Value.ref 651) _) _ _ _); k_dflt (refine' draw_call3 (Cx.mk (by k_asm) (by k_asm) (by k_asm) rfl) (by k_asm) (by k_asm) (by assumption) (by k_updF) (by intro o; k_updF) (by assumption) (by omega) (by omega) (by omega) (by (first | omega | ((try simp only [depth_under_make, depth_under_kw, depth_in1, depth_deeper, depth_caller]); (try dsimp only [ktrTop]); omega) | ktr_room)) (by (first | omega | ((try simp only [units_in1, units_deeper, Around.mark_units, units_caller]); (try dsimp only [ktrTop]); omega) | ktr_units)) ?_); intro r9 t9 h9 tk9 oP9 oc9 F' N' p9 b9; (try dsimp only at N'); (try k_fold))
                k_steps
                rename Fr _ _ _ _ => F9
                rename News _ _ _ _ => N9
                refine' last_end F9 N9 hw9 (fun p hp => .tail _ (by rw [hbig5]; exact List.mem_append_right _ hp)) ⟨k1', k2', k3', k4', k5', k6'⟩ (Ex.cell ?q1) (Ex.cell ?q2) (Ex.cell ?q3) ha9 K9 (e9.trans hx8) (e9r.trans hr8) (mv_rows hr9 hmv8) i9 j1 j2 j3
                case q1 => assumption
                case q2 => assumption
                case q3 => assumption
          case done5 =>
            clear F7 N7 hl7 F6z
            intro m₁ h tk base7 hsub7 hm F8 N8
            have k1' := hm.1
            have k2' := hm.2
            have k3' := hm.3
            have k4' := hm.4
            have k5' := hm.5
            have k6' := hm.6
            clear hm
            have mpl := hsub7 _ (hsub6 _ (.head _))
            have mll := hsub7 _ (hsub6 _ (.tail _ (.head _)))
            have ht7 : ∀ t ∈ tns, TnOk _ _ base7 t := fun t ht => (htn4 t ht).mono fun p hp => hsub7 p (hsub6 p (mem15 (List.mem_append_left _ hp)))
            dsimp only
            k_with_none
            k_with "call ref" => ((with_reducible show wpAny _ _ (call (Value.ref 656) _) _ _ _); k_dflt (refine' tables_call3 (Cx.mk (by k_asm) (by k_asm) (by k_asm) rfl) (by k_asm) (by k_asm) (by assumption) (by assumption) (by assumption) (by omega) (by assumption) (by assumption) (by assumption) (by assumption) (by assumption) (by assumption) (by assumption) (by assumption) (by (first | omega | ((try simp only [depth_under_make, depth_under_kw, depth_in1, depth_deeper, depth_caller]); (try dsimp only [ktrTop]); omega) | ktr_room)) (by (first | omega | ((try simp only [units_in1, units_deeper, Around.mark_units, units_caller]); (try dsimp only [ktrTop]); omega) | ktr_units)) ?_); intro tl9 tds9 Ts9 kk9 h9 tk9 oP9 oc9 pl9 ext9 own9 ho9 F' N' p9 b9 n9 ht9 hT9 hl9 off9; (try k_fold))
            k_with "call ref" => ((with_reducible show wpAny _ _ (call (Value.ref 644) _) _ _ _); k_dflt (refine' pot_call (Cx.mk (by k_asm) (by k_asm) (by k_asm) rfl) (by k_asm) (by k_asm) (by assumption) (by assumption) (by omega) (by (first | omega | ((try simp only [depth_under_make, depth_under_kw, depth_in1, depth_deeper, depth_caller]); (try dsimp only [ktrTop]); omega) | ktr_room)) (by (first | omega | ((try simp only [units_in1, units_deeper, Around.mark_units, units_caller]); (try dsimp only [ktrTop]); omega) | ktr_units)) ?_); intro P9 c9 oP9 oc9 n9 k9 h9 tk9 F' N' p9 ne9 off9; (try k_fold))
            k_with "call ref" => ((with_reducible show wpAny _ _ (call (Value.ref 651) _) _ _ _); k_dflt (refine' draw_call3 (Cx.mk (by k_asm) (by k_asm) (by k_asm) rfl) (by k_asm) (by k_asm) (by assumption) (by k_updF) (by intro o; k_updF) (by assumption) (by omega) (by omega) (by omega) (by (first | omega | ((try simp only [depth_under_make, depth_under_kw, depth_in1, depth_deeper, depth_caller]); (try dsimp only [ktrTop]); omega) | ktr_room)) (by (first | omega | ((try simp only [units_in1, units_deeper, Around.mark_units, units_caller]); (try dsimp only [ktrTop]); omega) | ktr_units)) ?_); intro r9 t9 h9 tk9 oP9 oc9 F' N' p9 b9; (try dsimp only at N'); (try k_fold))
            k_with "compareOp Eq ref ref" => (refine Hold.out ?_)
            k_steps
            unfold Hold
            rename Fr _ _ _ _ => F9
            rename News _ _ _ _ => N9
            refine LCg.CompSrc.ledger (by rfl) F9 N9 mll (by rw [List.size_toArray, List.length_map, sizeLine_eq]; omega) (fun g => comp_inv (OutJ _ _ base7 tns) (out_start ht7) ?oturn ?ofin)
            case oturn =>
              intro i v ys news₁ I oI C oC D m₂ h tk E' hi hv hJ206z
              refine ex1and2 hJ206z ?_
              intro ext e207z hJ
              (try clear hJ206z)
              subst e207z
              intro hC hx Fc Nc off hJ208z
              have ne1 := hJ208z.1
              have ne2 := hJ208z.2.1
              have ne3 := hJ208z.2.2
              clear hJ208z
              clear F9 N9
              refine ex1and2 (ref_item hv) ?_
              intro t hti e226z
              subst e226z
              have htok := ht7 t (List.mem_of_getElem? hti)
              refine ex6and5 (htok.same) ?_
              intro dlk elk nl tl2 als k2 g1 g2 g3 g4 g5
              obtain ⟨own6, h6⟩ := Eqn.mk' (ext ++ base7)
              have s6 : ∀ p ∈ base7, p ∈ own6 := fun p hp => by rw [h6]; exact List.mem_append_right _ hp
              rw [← h6] at Nc off
              have n1 := s6 _ g1
              have n2 := s6 _ g2
              have n4 := s6 _ g4
              refine LCg.ListComp_U (F₀ := Fc) (by with_unfolding_all rfl) (by decide) (by rfl) (by decide) (by rfl) ?_
              k_steps
              unfold Hold
              refine LCg.CompSrc.ledger (by rfl) Fc Nc (.tail _ (.tail _ (.tail _ n4))) (by rw [List.size_toArray, List.length_map, All2.length g5, sizeLine_eq]; have := htok.len; omega) (fun g => comp_inv (InnJ _ _ _ base7 t.tds) (inn_start g5) ?iturn ?ifin)
              case iturn =>
                intro j v zs news₂ I2 oI2 C2 oC2 D2 m₃ h2 tk2 E2 hj hv2 hJ209z
                refine ex0and2 hJ209z ?_
                intro e210z hz
                (try clear hJ209z)
                subst e210z
                intro hC2 hx2 Fd Nd off2 hJ211z
                have nf1 := hJ211z.1
                have nf2 := hJ211z.2.1
                have nf3 := hJ211z.2.2
                clear hJ211z
                clear Fc Nc
                refine ex1and2 (ref_item (f := id) hv2) ?_
                intro al hal e228z
                subst e228z
                obtain ⟨td, htd, da, ea, na, M, o, o', kvs, f1, f2, f3, f4, f5, f6, f7, f8, f9⟩ := All2.get' g5 hal
                have p1 := s6 _ f1
                have p2 := s6 _ f2
                dsimp only [id] at hx2
                k_steps
                unfold Hold
                exact LCg.CompEnd.intro Fd Nd _ (fun p hp => hp) off2 (.inr ⟨_, .tail _ (.tail _ (.tail _ n4)), rfl, _, rfl⟩) (inn_next hz htd f4 f5 f6 f7 f8 f9)
              case ifin =>
                intro zs news₂ hJ212z
                refine ex0and2 hJ212z ?_
                intro e213z hz
                (try clear hJ212z)
                subst e213z
                intro D2 hD tkD FD ND offD
                clear Fc Nc
                rw [List.size_toArray, List.length_map, All2.length g5, List.take_length] at hz
                exact out_end FD ND h6 off offD hJ hti hz (.inr ⟨_, .tail _ (s6 _ mll), rfl, _, rfl⟩)
            case ofin =>
              intro ys news₁ hJ214z
              refine ex1and2 hJ214z ?_
              intro ext e215z hJ
              (try clear hJ214z)
              subst e215z
              intro D hD tkD FD ND offD
              clear F9 N9
              rw [List.size_toArray, List.length_map, List.take_length] at hJ
              obtain ⟨big, hbig5⟩ := Eqn.mk' (ext ++ base7)
              have s6 : ∀ p ∈ base7, p ∈ big := fun p hp => by rw [hbig5]; exact List.mem_append_right _ hp
              rw [← hbig5] at ND offD hJ
              have n1 := s6 _ mpl
              dsimp only
              k_steps
              unfold Hold
              refine LCg.ListComp_U (F₀ := FD) (by with_unfolding_all rfl) (by decide) (by rfl) (by decide) (by rfl) ?_
              k_steps
              unfold Hold
              refine LCg.CompSrc.ledger (by rfl) FD ND (.tail _ n1) (by rw [List.size_toArray, List.length_map, sizeLine_eq]; omega) (fun g => comp_inv (PlJ _ tns) ⟨rfl, rfl⟩ ?pturn ?pfin)
              case pturn =>
                intro i v us news₁ I oI C oC D' m₂ h tk E' hi hv hJ216z
                refine ex0and2 hJ216z ?_
                intro e217z e218z
                (try clear hJ216z)
                subst e217z
                subst e218z
                intro hC hx Fc Nc off hJ219z
                have ne1 := hJ219z.1
                have ne2 := hJ219z.2.1
                have ne3 := hJ219z.2.2
                clear hJ219z
                clear FD ND
                refine ex1and2 (ref_item hv) ?_
                intro t hti e227z
                subst e227z
                refine ex3and1 ((ht7 t (List.mem_of_getElem? hti)).pt) ?_
                intro np ts tw mpt
                have n2 := s6 _ mpt
                k_steps
                unfold Hold
                exact LCg.CompEnd.intro Fc Nc _ (fun p hp => hp) off (.inr ⟨_, .tail _ n1, rfl, _, rfl⟩) (pl_next hti)
              case pfin =>
                intro us news₁ hJ220z
                refine ex0and2 hJ220z ?_
                intro e221z e222z
                (try clear hJ220z)
                subst e221z
                subst e222z
                intro D3 hD3 tkD3 FD3 ND3 offD3
                clear FD ND
                simp only [List.size_toArray, List.length_map, List.take_length] at ND3
                dsimp only
                k_steps
                unfold Hold
                refine eq_plain ND3 (.tail _ (.head _)) (.head _) (all2_imp (fun _ _ h => SameList.mono h fun p hp => .tail _ (.tail _ hp)) (same_all hJ fun t ht => s6 _ (ht7 t ht).tl)) ?room ?_
                case room => first | units_room | exact Nat.le_of_ble_eq_true rfl
                k_with_none
                k_with "call ref" => ((with_reducible show wpAny _ _ (call (Value.ref 656) _) _ _ _); k_dflt (refine' tables_call3 (Cx.mk (by k_asm) (by k_asm) (by k_asm) rfl) (by k_asm) (by k_asm) (by assumption) (by assumption) (by assumption) (by omega) (by assumption) (by assumption) (by assumption) (by assumption) (by assumption) (by assumption) (by assumption) (by assumption) (by (first | omega | ((try simp only [depth_under_make, depth_under_kw, depth_in1, depth_deeper, depth_caller]); (try dsimp only [ktrTop]); omega) | ktr_room)) (by (first | omega | ((try simp only [units_in1, units_deeper, Around.mark_units, units_caller]); (try dsimp only [ktrTop]); omega) | ktr_units)) ?_); intro tl9 tds9 Ts9 kk9 h9 tk9 oP9 oc9 pl9 ext9 own9 ho9 F' N' p9 b9 n9 ht9 hT9 hl9 off9; (try k_fold))
                k_with "call ref" => ((with_reducible show wpAny _ _ (call (Value.ref 644) _) _ _ _); k_dflt (refine' pot_call (Cx.mk (by k_asm) (by k_asm) (by k_asm) rfl) (by k_asm) (by k_asm) (by assumption) (by assumption) (by omega) (by (first | omega | ((try simp only [depth_under_make, depth_under_kw, depth_in1, depth_deeper, depth_caller]); (try dsimp only [ktrTop]); omega) | ktr_room)) (by (first | omega | ((try simp only [units_in1, units_deeper, Around.mark_units, units_caller]); (try dsimp only [ktrTop]); omega) | ktr_units)) ?_); intro P9 c9 oP9 oc9 n9 k9 h9 tk9 F' N' p9 ne9 off9; (try k_fold))
                k_with "call ref" => ((with_reducible show wpAny _ _ (call (Value.ref 651) _) _ _ _); k_dflt (refine' draw_call3 (Cx.mk (by k_asm) (by k_asm) (by k_asm) rfl) (by k_asm) (by k_asm) (by assumption) (by k_updF) (by intro o; k_updF) (by assumption) (by omega) (by omega) (by omega) (by (first | omega | ((try simp only [depth_under_make, depth_under_kw, depth_in1, depth_deeper, depth_caller]); (try dsimp only [ktrTop]); omega) | ktr_room)) (by (first | omega | ((try simp only [units_in1, units_deeper, Around.mark_units, units_caller]); (try dsimp only [ktrTop]); omega) | ktr_units)) ?_); intro r9 t9 h9 tk9 oP9 oc9 F' N' p9 b9; (try dsimp only at N'); (try k_fold))
                k_steps
        )

end
end
end Mine
theorem PySem.Challenge.cw_pb0205_01_holds : PySem.Challenge.rw_pb0205_01.Holds :=
  Mine.law_holds
