import PyProof.Rows.All
import Wide.All
import OpenK.AllK
import Wide.FinOn
import PySem.Challenge.RW_xw0339_01
open PySem PySem.W PySem.Spec PySem.Calls PyProof.Rows
set_option Elab.async false
set_option compiler.extract_closed false
namespace Mine.hd
theorem tw13379537198823146264 : True := trivial
theorem tw11649762642437741248 : True := trivial
theorem tw3722113530107879704 : True := trivial
theorem tw10727248033764811480 : True := trivial
theorem tw10693273971655334444 : True := trivial
theorem tw2278119957841055166 : True := trivial
theorem tw16861914782487885521 : True := trivial
theorem tw11767976778520718283 : True := trivial
theorem tw17265738369068824589 : True := trivial
theorem tw18067741883639830147 : True := trivial
theorem tw7668181498733406534 : True := trivial
theorem tw6423788790717744660 : True := trivial
theorem tw17030052369818702570 : True := trivial
theorem tw26425463804135960 : True := trivial
theorem tw12423421440243004742 : True := trivial
theorem tw8683543433012000357 : True := trivial
theorem tw2213181580616183961 : True := trivial
theorem tw2040699094819691630 : True := trivial
theorem tw9606253495797119724 : True := trivial
theorem tw9292802415728713258 : True := trivial
theorem tw9516743096105243765 : True := trivial
theorem tw13844380318115746083 : True := trivial
theorem tw4412777980754652355 : True := trivial
theorem tw7043115280108504885 : True := trivial
theorem tw7844135587440483903 : True := trivial
theorem tw7865762390884039853 : True := trivial
theorem tw3410444493855829464 : True := trivial
theorem tw13350186804988542658 : True := trivial
theorem tw7898215921889874393 : True := trivial
theorem tw18321552122766947510 : True := trivial
theorem tw2468469042602058204 : True := trivial
theorem tw7553592314356048186 : True := trivial
theorem tw1448358952932078338 : True := trivial
theorem tw1809687716253123402 : True := trivial
theorem tw9009610825154827081 : True := trivial
theorem tw16661405048812198066 : True := trivial
theorem tw16823583209533085739 : True := trivial
theorem tw17065117259998071890 : True := trivial
theorem tw7339039647409124788 : True := trivial
theorem tw2845207389951388047 : True := trivial
theorem tw4449123307109862055 : True := trivial
theorem tw13771594117681916504 : True := trivial
theorem tw4068527845204499245 : True := trivial
theorem tw13092906067662860646 : True := trivial
theorem tw4643362625855044894 : True := trivial
theorem tw845060206244984605 : True := trivial
theorem tw12127338746724423809 : True := trivial
theorem tw8493152586797012548 : True := trivial
theorem tw12611767792052310623 : True := trivial
theorem tw4091639524402994376 : True := trivial
theorem tw12414669353804360901 : True := trivial
theorem tw9763420282994701918 : True := trivial
theorem tw7712819752767893495 : True := trivial
theorem tw7174315439194531881 : True := trivial
theorem tw3419581819265744254 : True := trivial
theorem tw1331086792558400476 : True := trivial
theorem tw14553816603554493358 : True := trivial
theorem tw3608708970678896270 : True := trivial
theorem tw11119798521548139033 : True := trivial
theorem tw10678649693572172417 : True := trivial
theorem tw15179676742415161110 : True := trivial
theorem tw4343815846532229135 : True := trivial
theorem tw5505332120971382143 : True := trivial
theorem tw1208734638264122097 : True := trivial
theorem tw797944442704176489 : True := trivial
theorem tw13217225542625558698 : True := trivial
theorem tw10781468475247234061 : True := trivial
theorem tw6965799899956892507 : True := trivial
theorem tw10583446816852156582 : True := trivial
theorem tw17386561741084979693 : True := trivial
theorem tw16904818350239718627 : True := trivial
theorem tw5167245352685981253 : True := trivial
theorem tw9228397985900620932 : True := trivial
theorem tw991583007596301734 : True := trivial
theorem tw500953250457666378 : True := trivial
theorem tw567884609423149705 : True := trivial
theorem tw5174551420813472067 : True := trivial
theorem tw9429285754427346401 : True := trivial
theorem tw12480425521718506038 : True := trivial
theorem tw3109861748172591687 : True := trivial
theorem tw16456969618363192440 : True := trivial
theorem tw18358800413957953924 : True := trivial
theorem tw15463257786427224491 : True := trivial
theorem tw9842699097658496709 : True := trivial
theorem tw701333769924781912 : True := trivial
theorem tw15923250282426842828 : True := trivial
theorem tw17177331786930743035 : True := trivial
theorem tw16240987189780228909 : True := trivial
theorem tw4817003022231809500 : True := trivial
theorem tw8273930003744585626 : True := trivial
theorem tw10603584201595350602 : True := trivial
theorem tw12575139184659369484 : True := trivial
theorem tw9533747618267967006 : True := trivial
theorem tw6924109203229866365 : True := trivial
theorem tw7519716089354478335 : True := trivial
theorem tw5983496337302601536 : True := trivial
theorem tw13064122474441708322 : True := trivial
theorem tw2315301623876862497 : True := trivial
theorem tw3451239065008710300 : True := trivial
theorem tw1800889605409440832 : True := trivial
theorem tw7792395482447073224 : True := trivial
theorem tw4182648748547736412 : True := trivial
theorem tw22551697357593593 : True := trivial
theorem tw2042292140826266357 : True := trivial
theorem tw4015398097383911347 : True := trivial
theorem tw10788059911547816233 : True := trivial
theorem tw8652628183442184457 : True := trivial
theorem tw11117797201346649052 : True := trivial
theorem tw14176624398918483544 : True := trivial
theorem tw6547078798241139092 : True := trivial
theorem tw10012880186880212623 : True := trivial
theorem tw13866372431405929976 : True := trivial
theorem tw8990313861142287110 : True := trivial
theorem tw17562767543260142214 : True := trivial
theorem tw4990156530697904881 : True := trivial
theorem tw5433107678231618845 : True := trivial
theorem tw11256106856564762260 : True := trivial
theorem tw313027258313007627 : True := trivial
theorem tw12487502673411948298 : True := trivial
theorem tw3759623122121258479 : True := trivial
theorem tw6882427118574961969 : True := trivial
theorem tw5535567543195554156 : True := trivial
theorem tw14478148883734587675 : True := trivial
theorem tw17213754286329925777 : True := trivial
theorem tw16868993833207775613 : True := trivial
theorem tw10778257442750969130 : True := trivial
theorem tw1954109241102656831 : True := trivial
theorem tw15199589371867527261 : True := trivial
theorem tw7292484366425897655 : True := trivial
theorem tw6615107907471364465 : True := trivial
theorem tw10844753989422098599 : True := trivial
theorem tw2658526732547218105 : True := trivial
theorem tw17001982702790524580 : True := trivial
theorem tw17183224562656869120 : True := trivial
theorem tw8716120427605611371 : True := trivial
theorem tw6308581086252854402 : True := trivial
theorem tw4523669819894539328 : True := trivial
theorem tw16415028865518655546 : True := trivial
theorem tw10743916045514856203 : True := trivial
theorem tw17330132731328240911 : True := trivial
theorem tw8960069828448710407 : True := trivial
theorem tw12394076208661396346 : True := trivial
theorem tw14683707025165767436 : True := trivial
theorem tw9427301549700849589 : True := trivial
theorem tw13919464512627920130 : True := trivial
theorem tw8609351116199087170 : True := trivial
theorem tw13363553139645760527 : True := trivial
theorem tw11115866451450875312 : True := trivial
theorem tw13322179722446271537 : True := trivial
theorem tw9325612240067072397 : True := trivial
theorem tw6679266806504041263 : True := trivial
theorem tw16684818696116721337 : True := trivial
theorem tw8801323125487838256 : True := trivial
theorem tw2871226400543044806 : True := trivial
theorem tw15213948185873263833 : True := trivial
theorem tw9459050058782445324 : True := trivial
theorem tw11034497122203965937 : True := trivial
theorem tw12337632362937886050 : True := trivial
theorem tw7023726343779634624 : True := trivial
theorem tw16091413853298234908 : True := trivial
theorem tw15220180469806662145 : True := trivial
theorem tw12602439190401603521 : True := trivial
theorem tw14768889098011018680 : True := trivial
theorem tw3795277891434052102 : True := trivial
theorem tw8479784124755550697 : True := trivial
theorem tw6140570298594658328 : True := trivial
theorem tw11213053971927718326 : True := trivial
theorem tw9513423893830186035 : True := trivial
theorem tw17447410573909459338 : True := trivial
theorem tw8117029840178788049 : True := trivial
theorem tw17491280204586788870 : True := trivial
theorem tw7031273417212677730 : True := trivial
theorem tw9345676750909349944 : True := trivial
theorem tw3386092968808520798 : True := trivial
theorem tw12271959270614036898 : True := trivial
theorem tw1792636949448641307 : True := trivial
theorem tw6683769817339685419 : True := trivial
theorem tw17047115858639842297 : True := trivial
theorem tw3381375190539634487 : True := trivial
theorem tw15833661619300960221 : True := trivial
theorem tw15083628210047938546 : True := trivial
theorem tw5513025101015932971 : True := trivial
theorem tw7382370116671421104 : True := trivial
theorem tw15616948245753086127 : True := trivial
theorem tw16473244170626142550 : True := trivial
theorem tw2457190517430149469 : True := trivial
theorem tw7270182246851987180 : True := trivial
theorem tw5189956158058943387 : True := trivial
theorem tw7880807054014371918 : True := trivial
theorem tw11319097763535126812 : True := trivial
theorem tw10834780440838970164 : True := trivial
theorem tw262745018181394680 : True := trivial
theorem tw1588505670450824345 : True := trivial
theorem tw5322579261384874668 : True := trivial
theorem tw13225837485096350037 : True := trivial
theorem tw18093812233618175256 : True := trivial
theorem tw16412773359747925120 : True := trivial
theorem tw2448417245163862455 : True := trivial
theorem tw16138627921320673191 : True := trivial
theorem tw15673258824015622330 : True := trivial
theorem tw14438451200097066615 : True := trivial
theorem tw4654797750381630734 : True := trivial
theorem tw1869635642477389258 : True := trivial
theorem tw15166520500009309586 : True := trivial
theorem tw13330244855972007585 : True := trivial
theorem tw7654286748164834634 : True := trivial
theorem tw16052320808349706082 : True := trivial
theorem tw1589133516308662214 : True := trivial
theorem tw11434409384045074295 : True := trivial
theorem tw12070051907170230399 : True := trivial
theorem tw16713699803418581334 : True := trivial
theorem tw17542962492245011380 : True := trivial
theorem tw11672842613191775419 : True := trivial
theorem tw7525542149764818722 : True := trivial
theorem tw10458740792067480800 : True := trivial
theorem tw6877226645827823821 : True := trivial
theorem tw6305734824756694309 : True := trivial
theorem tw14612060388864693735 : True := trivial
theorem tw5318216170032084099 : True := trivial
theorem tw6014424301940151174 : True := trivial
theorem tw15042006015671813226 : True := trivial
theorem tw6335257393663865988 : True := trivial
theorem tw16443024508289211202 : True := trivial
theorem tw12239354291974867115 : True := trivial
theorem tw14462709497994964445 : True := trivial
theorem tw5366084841770067474 : True := trivial
theorem tw1382963296337349011 : True := trivial
theorem tw7523672394736509286 : True := trivial
theorem tw15837987909243819085 : True := trivial
theorem tw4706079058837389440 : True := trivial
theorem tw8268277133935991078 : True := trivial
theorem tw10264135568141901301 : True := trivial
theorem tw15967140613478806237 : True := trivial
theorem tw10614716105012338702 : True := trivial
theorem tw5036846961687405229 : True := trivial
theorem tw14586822029978311858 : True := trivial
theorem tw16547865195752855329 : True := trivial
theorem tw1197925565968671727 : True := trivial
theorem tw13368278939475635651 : True := trivial
theorem tw7752767780024739350 : True := trivial
theorem tw13929354066492186541 : True := trivial
theorem tw11814627755841444246 : True := trivial
theorem tw13171141561276507362 : True := trivial
theorem tw18330183385023645277 : True := trivial
theorem tw7746578258024575070 : True := trivial
theorem tw1299046323782801668 : True := trivial
theorem tw8191903926673212241 : True := trivial
theorem tw15367242080415987702 : True := trivial
theorem tw4272726840584523970 : True := trivial
theorem tw8025032847418708242 : True := trivial
theorem tw758273949599710562 : True := trivial
theorem tw17739348878880393726 : True := trivial
theorem tw2783992281797965187 : True := trivial
theorem tw13293453174229064190 : True := trivial
theorem tw17606422857730326317 : True := trivial
theorem tw395138700845864316 : True := trivial
theorem tw6184460063843016694 : True := trivial
theorem tw5549315172176941698 : True := trivial
theorem tw11852641145169952659 : True := trivial
theorem tw16919406825032445293 : True := trivial
theorem tw7296583596125217682 : True := trivial
theorem tw6879831473291441079 : True := trivial
theorem tw4377701919642642989 : True := trivial
theorem tw15610959940260225430 : True := trivial
theorem tw6636792957720756321 : True := trivial
theorem tw13531707123254989501 : True := trivial
theorem tw6184208073178115725 : True := trivial
theorem tw7152984921513172624 : True := trivial
theorem tw5978321128707920903 : True := trivial
theorem tw16828841361933241965 : True := trivial
theorem tw2371736936440567457 : True := trivial
theorem tw10365702040365258594 : True := trivial
theorem tw10216474801634566288 : True := trivial
theorem tw8587404781116728655 : True := trivial
theorem tw17471934795394947791 : True := trivial
theorem tw2887051446865420828 : True := trivial
theorem tw10919297434634762262 : True := trivial
theorem tw9557236495431379559 : True := trivial
theorem tw16064382804478563927 : True := trivial
theorem tw10601615944963115059 : True := trivial
theorem tw7540655947842036084 : True := trivial
theorem tw5781342201191254626 : True := trivial
theorem tw6998783941825042932 : True := trivial
theorem tw9960721518486171458 : True := trivial
theorem tw8134915037123179040 : True := trivial
theorem tw6293948785866598258 : True := trivial
theorem tw2134215046882385847 : True := trivial
theorem tw14120982254508448379 : True := trivial
theorem tw9627899436633539337 : True := trivial
theorem tw11709330566771433103 : True := trivial
theorem tw16853341256802265648 : True := trivial
theorem tw18293732401869909652 : True := trivial
theorem tw4159134105002834734 : True := trivial
theorem tw13132618709999183898 : True := trivial
theorem tw13609717118414637909 : True := trivial
theorem tw1409312971732116557 : True := trivial
theorem tw2216850387143573719 : True := trivial
theorem tw17901334829092211166 : True := trivial
theorem tw2808349399557158395 : True := trivial
theorem tw12994019391074448376 : True := trivial
theorem tw16211521421427940678 : True := trivial
theorem tw3513125359445811510 : True := trivial
theorem tw4367231431732253908 : True := trivial
theorem tw17588044629489971554 : True := trivial
theorem tw16011055738799735888 : True := trivial
theorem tw4225703048834024713 : True := trivial
theorem tw6598312636042714100 : True := trivial
theorem tw6627881031435992008 : True := trivial
theorem tw17583924267553061668 : True := trivial
theorem tw9555612238305686254 : True := trivial
theorem tw825126770350376351 : True := trivial
theorem tw978945382295711627 : True := trivial
theorem tw12023040214023829324 : True := trivial
theorem tw12832683148521936107 : True := trivial
theorem tw14745743045033390146 : True := trivial
theorem tw2781682124601125471 : True := trivial
theorem tw4367455430839740993 : True := trivial
theorem tw15591429051563716170 : True := trivial
theorem tw16759147789766475008 : True := trivial
theorem tw10117440562283002822 : True := trivial
theorem tw8457440626546761165 : True := trivial
theorem tw5363564295841288755 : True := trivial
theorem tw12399718760709695909 : True := trivial
theorem tw17975533764899295144 : True := trivial
theorem tw5010264101278932077 : True := trivial
theorem tw3434918251397683217 : True := trivial
theorem tw4993660671451451078 : True := trivial
theorem tw8727321023445011275 : True := trivial
theorem tw16299908979028503884 : True := trivial
theorem tw17377529257436501650 : True := trivial
theorem tw11513968764499736323 : True := trivial
theorem tw13389116031464166691 : True := trivial
theorem tw2999033326186475339 : True := trivial
theorem tw18264374347568628810 : True := trivial
theorem tw10949625832625181284 : True := trivial
theorem tw9496365245306024149 : True := trivial
theorem tw5480042469492414594 : True := trivial
theorem tw14859038896228082724 : True := trivial
theorem tw1147470481896660410 : True := trivial
theorem tw16920754564084929960 : True := trivial
theorem tw17062030032774818151 : True := trivial
theorem tw9132557439983319658 : True := trivial
theorem tw7541792107247259296 : True := trivial
theorem tw13038990169509382042 : True := trivial
theorem tw13770079208771991547 : True := trivial
theorem tw8317466277049474617 : True := trivial
theorem tw3219085151875037572 : True := trivial
theorem tw11251137523995926341 : True := trivial
theorem tw2480057099694739299 : True := trivial
theorem tw697623264460660564 : True := trivial
theorem tw11953376511379268794 : True := trivial
theorem tw9386895884608548742 : True := trivial
theorem tw663384727985864361 : True := trivial
theorem tw8044012406986999415 : True := trivial
theorem tw3704167492566942397 : True := trivial
theorem tw13431754692932380062 : True := trivial
theorem tw2708950531961675432 : True := trivial
theorem tw6276725880618359904 : True := trivial
theorem tw17989097746536338734 : True := trivial
theorem tw2284436838669742495 : True := trivial
theorem tw17387473266821786944 : True := trivial
theorem tw16487816990975572028 : True := trivial
theorem tw7854228177987924090 : True := trivial
theorem tw7261450039545342454 : True := trivial
theorem tw4014540891139286612 : True := trivial
theorem tw7578210074245671484 : True := trivial
theorem tw3828038474966422129 : True := trivial
theorem tw11905163887095721015 : True := trivial
theorem tw2167537188350426706 : True := trivial
theorem tw15048261121198461528 : True := trivial
theorem tw4478166936697009375 : True := trivial
theorem tw7120233287515763914 : True := trivial
theorem tw9641152695372364146 : True := trivial
theorem tw6407587892757256292 : True := trivial
theorem tw5373601922739893978 : True := trivial
theorem tw11912922877643110818 : True := trivial
theorem tw3173010612589774626 : True := trivial
theorem tw11660266114150955751 : True := trivial
theorem tw1600037746751723098 : True := trivial
theorem tw1118553966540926140 : True := trivial
theorem tw9215827820722605749 : True := trivial
theorem tw14439243815434019604 : True := trivial
theorem tw16302227732802510677 : True := trivial
theorem tw17902569758825723728 : True := trivial
theorem tw3404104791013757517 : True := trivial
theorem tw6291416237084387574 : True := trivial
theorem tw14980023328507725902 : True := trivial
theorem tw6759412095888398321 : True := trivial
theorem tw3913528116038191188 : True := trivial
theorem tw13994979335412520660 : True := trivial
theorem tw10292235466723388172 : True := trivial
theorem tw12591134339009171964 : True := trivial
theorem tw10738003575532504788 : True := trivial
theorem tw12131494931117144662 : True := trivial
theorem tw12350410155528471161 : True := trivial
theorem tw13218659294841961345 : True := trivial
theorem tw5715734110848049390 : True := trivial
theorem tw7153062008950511462 : True := trivial
theorem tw11399449904127653305 : True := trivial
theorem tw8015326511298524721 : True := trivial
theorem tw17772917993097084435 : True := trivial
theorem tw17948085552500728524 : True := trivial
theorem tw7082855905992002993 : True := trivial
theorem tw7379015992945566340 : True := trivial
theorem tw18163647496604598072 : True := trivial
theorem tw10507497572311344420 : True := trivial
theorem tw17066044127408595049 : True := trivial
theorem tw14685462170515437407 : True := trivial
theorem tw1535757262459896012 : True := trivial
theorem tw15344866539931968096 : True := trivial
theorem tw10543509907540572799 : True := trivial
theorem tw17925215291927510665 : True := trivial
theorem tw561391293025646643 : True := trivial
theorem tw7372000682148998216 : True := trivial
theorem tw12459740579856956213 : True := trivial
theorem tw16301592386811335294 : True := trivial
theorem tw5245234834050458271 : True := trivial
theorem tw8684328023851190084 : True := trivial
theorem tw16257038226119295666 : True := trivial
theorem tw10098268173465320503 : True := trivial
theorem tw9476321141362543215 : True := trivial
theorem tw4788038989552484473 : True := trivial
theorem tw9073681462420916055 : True := trivial
theorem tw656455966557771466 : True := trivial
theorem tw7610815399733428385 : True := trivial
theorem tw10806950440038215891 : True := trivial
theorem tw960944832710211464 : True := trivial
theorem tw1511243299971373483 : True := trivial
theorem tw4282359134580295075 : True := trivial
theorem tw3443669649825651883 : True := trivial
theorem tw11151547217846952531 : True := trivial
theorem tw10030107230732127627 : True := trivial
theorem tw14040608126747316905 : True := trivial
theorem tw6767318904944593275 : True := trivial
theorem tw5416991563250132298 : True := trivial
theorem tw13628142620392400109 : True := trivial
theorem tw16006246977917349235 : True := trivial
theorem tw10763509664835889504 : True := trivial
theorem tw16194383521188589630 : True := trivial
theorem tw3969467460574380271 : True := trivial
theorem tw14705683404202351889 : True := trivial
theorem tw8803977449572941912 : True := trivial
theorem tw13181700845877081190 : True := trivial
theorem tw1561501074875855439 : True := trivial
theorem tw15625209780758371316 : True := trivial
theorem tw13574768056931433239 : True := trivial
theorem tw11754176132448286083 : True := trivial
theorem tw6123773746684550334 : True := trivial
theorem tw14560493823538711346 : True := trivial
theorem tw2442259710966052079 : True := trivial
theorem tw3763122126050802206 : True := trivial
theorem tw14353793391729792155 : True := trivial
theorem tw14205177575709318024 : True := trivial
theorem tw9908193460736022307 : True := trivial
theorem tw7914949630228597729 : True := trivial
theorem tw4299596416071116603 : True := trivial
theorem tw9420132969298855359 : True := trivial
theorem tw12050417470231563642 : True := trivial
theorem tw4702841417184801058 : True := trivial
theorem tw6060742912462422084 : True := trivial
theorem tw13409441903868389331 : True := trivial
theorem tw13277076834127875243 : True := trivial
theorem tw16794629799341752650 : True := trivial
theorem tw1241404454085649124 : True := trivial
theorem tw7891253978561527248 : True := trivial
theorem tw9719896912496429819 : True := trivial
theorem tw442638132926106271 : True := trivial
theorem tw2295870552580634182 : True := trivial
theorem tw10258999931320997221 : True := trivial
theorem tw8081886968326746073 : True := trivial
theorem tw17454471701868102899 : True := trivial
theorem tw15416985209724490359 : True := trivial
theorem tw15924899543223041283 : True := trivial
theorem tw16156708551869547534 : True := trivial
theorem tw16345102440705955213 : True := trivial
theorem tw16635604280276938560 : True := trivial
theorem tw6196171512934965099 : True := trivial
theorem tw5148922909946612681 : True := trivial
theorem tw10203026625882799534 : True := trivial
theorem tw18103420901670897651 : True := trivial
theorem tw10933677585905718993 : True := trivial
theorem tw15813434630575017362 : True := trivial
theorem tw5927567313105069670 : True := trivial
theorem tw8789358453043137523 : True := trivial
theorem tw1760603350576429475 : True := trivial
theorem tw18103342009636024947 : True := trivial
theorem tw17919194246423945575 : True := trivial
theorem tw6982297934935202809 : True := trivial
theorem tw11713075325732132258 : True := trivial
theorem tw3694398316872202419 : True := trivial
theorem tw15089522573102190283 : True := trivial
theorem tw10604169790165778682 : True := trivial
theorem tw9983995961361265002 : True := trivial
theorem tw15946356160694317329 : True := trivial
theorem tw6819123309680001836 : True := trivial
theorem tw7691918140598264929 : True := trivial
theorem tw12647368939536790636 : True := trivial
theorem tw12614811148066621264 : True := trivial
theorem tw2595994805191909183 : True := trivial
theorem tw1582976572388173787 : True := trivial
theorem tw14492701947808656938 : True := trivial
theorem tw4005110847755344681 : True := trivial
theorem tw3350844169311001129 : True := trivial
theorem tw5292301768408028288 : True := trivial
theorem tw9499510787657705874 : True := trivial
theorem tw2603259988358896889 : True := trivial
theorem tw5657824000916062451 : True := trivial
theorem tw9753359207989701909 : True := trivial
theorem tw9702936160620672325 : True := trivial
theorem tw15910714762333108613 : True := trivial
theorem tw243823211424636713 : True := trivial
theorem tw17130151131035750659 : True := trivial
theorem tw1413172679324656950 : True := trivial
theorem tw10525666975642140466 : True := trivial
theorem tw13783031573616600631 : True := trivial
theorem tw11079593142295127227 : True := trivial
theorem tw8184699220007379433 : True := trivial
theorem tw15422856539912107476 : True := trivial
theorem tw16171809288044610508 : True := trivial
theorem tw11968265576560266318 : True := trivial
theorem tw15615537253650120727 : True := trivial
theorem tw8112040973832200146 : True := trivial
theorem tw4971549296188076032 : True := trivial
theorem tw13474097485772985973 : True := trivial
theorem tw15411387601460861337 : True := trivial
theorem tw1736311965527578767 : True := trivial
theorem tw11472165163037031739 : True := trivial
theorem tw2327210489368252092 : True := trivial
theorem tw17679848547673146604 : True := trivial
theorem tw6082411064634330575 : True := trivial
theorem tw7628703163842673926 : True := trivial
theorem tw13642289790063256904 : True := trivial
theorem tw17895171251205151618 : True := trivial
theorem tw6990203504111849199 : True := trivial
theorem tw7289634563603522867 : True := trivial
theorem tw18166333605607142505 : True := trivial
theorem tw10273187271170590260 : True := trivial
theorem tw14446474709323646786 : True := trivial
theorem tw13534587687697041467 : True := trivial
theorem tw10111801491309104144 : True := trivial
theorem tw14673209030070457562 : True := trivial
theorem tw15103106377680225435 : True := trivial
theorem tw17681399029576232318 : True := trivial
theorem tw18343703819029505601 : True := trivial
theorem tw8934143017859847078 : True := trivial
theorem tw7510230149288206974 : True := trivial
theorem tw11663481321943121269 : True := trivial
theorem tw5902613922787404954 : True := trivial
theorem tw2922222751358710265 : True := trivial
theorem tw18268791191939849864 : True := trivial
theorem tw2304311442786299043 : True := trivial
theorem tw13466754112058979494 : True := trivial
theorem tw16009884308244765898 : True := trivial
theorem tw8965841893048198262 : True := trivial
theorem tw17574625026820762457 : True := trivial
theorem tw6186238094035137676 : True := trivial
theorem tw13790719812936386609 : True := trivial
theorem tw13285133528070534704 : True := trivial
theorem tw5282504435634884242 : True := trivial
theorem tw307737655149646647 : True := trivial
theorem tw14896477498954680388 : True := trivial
theorem tw8773699223549846113 : True := trivial
theorem tw2000490053193787569 : True := trivial
theorem tw11162318198679636149 : True := trivial
theorem tw5009564483982726761 : True := trivial
theorem tw4768578896829404305 : True := trivial
theorem tw15948780112781908787 : True := trivial
theorem tw701787995468756871 : True := trivial
theorem tw15963624873386084050 : True := trivial
theorem tw7754304195085646258 : True := trivial
theorem tw12900700647772717614 : True := trivial
theorem tw2845679848157327705 : True := trivial
theorem tw12861998865439983172 : True := trivial
theorem tw13280443560766958183 : True := trivial
theorem tw8516288146210602744 : True := trivial
theorem tw13372043803930879067 : True := trivial
theorem tw4360684699965382250 : True := trivial
theorem tw15277330632498426303 : True := trivial
theorem tw15595854959937240912 : True := trivial
theorem tw17429513623812275283 : True := trivial
theorem tw8770659054964912022 : True := trivial
theorem tw12173100003817136821 : True := trivial
theorem tw13570092917057983080 : True := trivial
theorem tw464777395874653626 : True := trivial
theorem tw185848376630758926 : True := trivial
theorem tw8356816923877370021 : True := trivial
theorem tw14103535550066685397 : True := trivial
theorem tw1359830224848277088 : True := trivial
theorem tw9153386212771759811 : True := trivial
theorem tw14772383043592177042 : True := trivial
theorem tw13566260322249332789 : True := trivial
theorem tw7068711184596962023 : True := trivial
theorem tw4856431653887292112 : True := trivial
theorem tw15852365999677673905 : True := trivial
theorem tw190519026028168232 : True := trivial
theorem tw9155422001095189878 : True := trivial
theorem tw11364443708160879001 : True := trivial
theorem tw10531373872144210542 : True := trivial
theorem tw1033889070964956483 : True := trivial
theorem tw12659318050587179527 : True := trivial
end Mine.hd
namespace Mine
/-- what a call of the def at f gives back: a value and the ledger behind it -/
def Meets (K : Params → Frag) (q : Program) (lo : List Str) (w : World) (dn : Nat) (f : Addr) (vs : List Value) (news : List (Addr × Obj)) (R : Value → List (Addr × Obj) → Prop) : Prop :=
  ∀ (mean : ExcName → Option Value) (mg mb : Str → Option Value) (dp un : Nat) (gd : Option (List Code)) (cn : Str) (cs : Scope) (a : Addr) (ccd : Value) (cl : List (Str × Addr)) (outer : List Env) (A₀ : Around) (base h₀ : Heap) (L : Addr) (m : Str → Option Value) (s : Shared) (Q E : Value → Shared → Prop),
    Below A₀ base outer h₀ → Fr h₀ L s.heap m → (K w.params).In h₀ → News h₀ L s.heap news → Top q lo mean mg mb h₀ → cs.kind = .function → dp + dn < recursionLimit → un + 20 * dn < cLine →
    (∀ (v : Value) (news' : List (Addr × Obj)) (h' : Heap) (tk' : Nat), R v news' → Fr h₀ L h' m → News h₀ L h' news' → Q v { s with heap := h', toks := tk' }) →
    wpAny (model PySem.Challenge.rw_xw0339_01.row.prog w) (ktrTop dp un gd cn cs L a ccd cl outer) (call (.ref f) vs) Q E s

theorem Meets.use {K : Params → Frag} {q : Program} {lo : List Str} {w : World} {dn : Nat} {f : Addr} {vs : List Value} {news : List (Addr × Obj)} {R : Value → List (Addr × Obj) → Prop} (C : Meets K q lo w dn f vs news R)
    {mean : ExcName → Option Value} {mg mb : Str → Option Value} {dp un : Nat} {gd : Option (List Code)} {cn : Str} {cs : Scope} {a : Addr} {ccd : Value} {cl : List (Str × Addr)} {outer : List Env} {A₀ : Around} {base h₀ : Heap} {L : Addr} {m : Str → Option Value} {s : Shared} {Q E : Value → Shared → Prop}
    (B : Below A₀ base outer h₀) (F : Fr h₀ L s.heap m) (X : (K w.params).In h₀) (N : News h₀ L s.heap news) (T : Top q lo mean mg mb h₀) (hk : cs.kind = .function) (hd : dp + dn < recursionLimit) (hu : un + 20 * dn < cLine)
    (ret : ∀ (v : Value) (news' : List (Addr × Obj)) (h' : Heap) (tk' : Nat), R v news' → Fr h₀ L h' m → News h₀ L h' news' → Q v { s with heap := h', toks := tk' }) :
    wpAny (model PySem.Challenge.rw_xw0339_01.row.prog w) (ktrTop dp un gd cn cs L a ccd cl outer) (call (.ref f) vs) Q E s :=
  C mean mg mb dp un gd cn cs a ccd cl outer A₀ base h₀ L m s Q E B F X N T hk hd hu ret

theorem Meets.mono {K : Params → Frag} {q : Program} {lo : List Str} {w : World} {dn dn' : Nat} {f : Addr} {vs : List Value} {news : List (Addr × Obj)} {R R' : Value → List (Addr × Obj) → Prop} (C : Meets K q lo w dn f vs news R) (hd : dn ≤ dn') (h : ∀ v n, R v n → R' v n) :
    Meets K q lo w dn' f vs news R' :=
  fun mean mg mb dp un gd cn cs a ccd cl outer A₀ base h₀ L m s Q E B F X N T hk h1 h2 ret =>
    C mean mg mb dp un gd cn cs a ccd cl outer A₀ base h₀ L m s Q E B F X N T hk (by omega) (by omega) fun v n h' tk' r => ret v n h' tk' (h v n r)

/-- one object is changed; the ledger may name it anywhere -/
theorem Meets.upd {K : Params → Frag} {q : Program} {lo : List Str} {w : World} {dn : Nat} {f : Addr} {vs : List Value} {news : List (Addr × Obj)} {d : Addr} {o : Obj} {g : Obj → List (Addr × Obj)} {R : Value → List (Addr × Obj) → Obj → Prop}
    (U : UpdF d o news g)
    (C : ∀ rest, (∀ p ∈ rest, p.1 ≠ d) → (∀ p ∈ news, p.1 ≠ d → p ∈ rest) → Meets K q lo w dn f vs ((d, o) :: rest) (fun v n => ∃ new o', n = new ++ (d, o') :: rest ∧ R v new o')) :
    Meets K q lo w dn f vs news (fun v n => ∃ new o', n = new ++ g o' ∧ R v new o') := by
  obtain ⟨pre, post, e, hg, h1, h2⟩ := U.split
  subst e
  intro mean mg mb dp un gd cn cs a ccd cl outer A₀ base h₀ L m s Q E B F X N T hk hd hu ret
  refine C (pre ++ post) (fun p hp => (List.mem_append.mp hp).elim (h1 p) (h2 p)) (fun p hp hne => ?_) mean mg mb dp un gd cn cs a ccd cl outer A₀ base h₀ L m s Q E B F X (fun p hp => N p ?_) T hk hd hu ?_
  · rcases List.mem_append.mp hp with h | h
    · exact List.mem_append.mpr (.inl h)
    · rcases List.mem_cons.mp h with h | h
      · exact absurd (by rw [h]) hne
      · exact List.mem_append.mpr (.inr h)
  · rcases List.mem_cons.mp hp with h | h
    · exact List.mem_append.mpr (.inr (h ▸ .head _))
    · exact (List.mem_append.mp h).elim (fun h => List.mem_append.mpr (.inl h)) fun h => List.mem_append.mpr (.inr (.tail _ h))
  · rintro v n h' tk' ⟨new, o', rfl, r⟩ F' N'
    refine ret v _ h' tk' ⟨new, o', rfl, r⟩ F' fun p hp => N' p ?_
    rw [hg] at hp
    rcases List.mem_append.mp hp with h | h
    · exact List.mem_append.mpr (.inl h)
    · refine List.mem_append.mpr (.inr ?_)
      rcases List.mem_append.mp h with h | h
      · exact .tail _ (List.mem_append.mpr (.inl h))
      · rcases List.mem_cons.mp h with h | h
        · exact h ▸ .head _
        · exact .tail _ (List.mem_append.mpr (.inr h))

abbrev ent (w : World) (k : Tok) (n : Str) (v : Value) : DictEntry := ⟨PyData.keyHash w.params n, .str n k, v⟩
/-- the sender's fields -/
abbrev sndD (w : World) (kt : Nat → Tok) (iss ring mss una next great : Value) (p q : Addr) (syn fa fs : Value) : Obj :=
  dictOf [ent w (kt 0) "iss" iss, ent w (kt 1) "ring" ring, ent w (kt 2) "mss" mss, ent w (kt 3) "una" una, ent w (kt 4) "next" next, ent w (kt 5) "greatest" great,
    ent w (kt 6) "peer" (.ref p), ent w (kt 7) "queue" (.ref q), ent w (kt 8) "syn_pending" syn, ent w (kt 9) "fin_asked" fa, ent w (kt 10) "fin_sent" fs] 11
/-- the window's fields -/
abbrev perD (w : World) (kt : Nat → Tok) (ring size most tseq tack : Value) : Obj :=
  dictOf [ent w (kt 0) "ring" ring, ent w (kt 1) "size" size, ent w (kt 2) "most" most, ent w (kt 3) "told_seq" tseq, ent w (kt 4) "told_ack" tack] 5
/-- the queue's fields -/
abbrev queD (w : World) (kt : Nat → Tok) (room held : Value) : Obj := dictOf [ent w (kt 0) "room" room, ent w (kt 1) "held" held] 2

theorem fm {a r : Int} (h : 0 < r) : a.fmod r = a % r := Int.fmod_eq_emod_of_nonneg a (Int.le_of_lt h)
/-- the way from a to a + k on a ring -/
theorem way {a k r : Int} (hk : 0 ≤ k) (hr : k < r) : ((a + k) % r - a) % r = k := by
  rw [Int.emod_sub_emod, show a + k - a = k from by omega]
  exact Int.emod_eq_of_lt hk hr
theorem wayF {a k r : Int} (hk : 0 ≤ k) (hr : k < r) : ((a + k) % r - a).fmod r = k := by
  rw [fm (by omega)]; exact way hk hr
theorem step {a k m r : Int} : ((a + k) % r + m) % r = (a + (k + m)) % r := by
  rw [Int.emod_add_emod, Int.add_assoc]
/-- the way from a + k to a + k + m -/
theorem way2 {a k m r : Int} (hm : 0 ≤ m) (hr : m < r) : ((a + (k + m)) % r - (a + k) % r) % r = m := by
  rw [← Int.sub_emod, show a + (k + m) - (a + k) = m from by omega]
  exact Int.emod_eq_of_lt hm hr
/-- a fact that omega is not to see -/
structure KHid (P : Prop) : Prop where
  out : P
def FlightC (K : Params → Frag) (q : Program) (lo : List Str) (w : World) : Prop :=
  ∀ {news : List (Addr × Obj)} {x dx p q' : Addr} {kt : Nat → Tok} {iss mss great syn fa fs : Value} {r una k : Int} {tr tu tn : Tok}, 0 ≤ k → k < r →
    (x, instObj 680 dx) ∈ news → (dx, sndD w kt iss (.int r tr) mss (.int una tu) (.int ((una + k) % r) tn) great p q' syn fa fs) ∈ news →
    Meets K q lo w 3 543 [.ref x] news (fun v n' => n' = news ∧ ∃ t, v = .int k t)
def UsableC (K : Params → Frag) (q : Program) (lo : List Str) (w : World) : Prop :=
  ∀ {news : List (Addr × Obj)} {x dx p dp q' : Addr} {kt kp : Nat → Tok} {iss mss great syn fa fs ring most tseq tack : Value} {r una k W c M : Int} {tr tu tn tw tc : Tok}, 0 ≤ k → k < r → M = min W c → k ≤ M →
    (x, instObj 680 dx) ∈ news → (dx, sndD w kt iss (.int r tr) mss (.int una tu) (.int ((una + k) % r) tn) great p q' syn fa fs) ∈ news →
    (p, instObj 489 dp) ∈ news → (dp, perD w kp ring (.int W tw) most tseq tack) ∈ news →
    Meets K q lo w 5 550 [.ref x, .int c tc] news (fun v n' => n' = news ∧ ∃ t, v = .int (M - k) t)
def DataC (K : Params → Frag) (q : Program) (lo : List Str) (w : World) : Prop :=
  ∀ {news : List (Addr × Obj)} {x dx p q' dq : Addr} {kt kq : Nat → Tok} {iss mss great fa fs room : Value} {r una k : Int} {tr tu tn : Tok} {held : Array UInt8} {th : Tok}, 0 ≤ k → k < r → held.size < 1000 →
    (x, instObj 680 dx) ∈ news → (dx, sndD w kt iss (.int r tr) mss (.int una tu) (.int ((una + k) % r) tn) great p q' (.bool false) fa fs) ∈ news →
    (q', instObj 447 dq) ∈ news → (dq, queD w kq room (.bytes held th)) ∈ news →
    Meets K q lo w 5 557 [.ref x] news (fun v n' => n' = news ∧ ∃ t, v = .int (min (held.size : Int) k) t)
theorem DataC.le {K : Params → Frag} {q : Program} {lo : List Str} {w : World} (C : DataC K q lo w)
    {news : List (Addr × Obj)} {x dx p q' dq : Addr} {kt kq : Nat → Tok} {iss mss great fa fs room : Value} {r una k : Int} {tr tu tn : Tok} {held : Array UInt8} {th : Tok} (h0 : 0 ≤ k) (h1 : k < r) (h2 : held.size < 1000) (h3 : k ≤ held.size)
    (m1 : (x, instObj 680 dx) ∈ news) (m2 : (dx, sndD w kt iss (.int r tr) mss (.int una tu) (.int ((una + k) % r) tn) great p q' (.bool false) fa fs) ∈ news)
    (m3 : (q', instObj 447 dq) ∈ news) (m4 : (dq, queD w kq room (.bytes held th)) ∈ news) : Meets K q lo w 5 557 [.ref x] news (fun v n' => n' = news ∧ ∃ t, v = .int k t) :=
  (C h0 h1 h2 m1 m2 m3 m4).mono (Nat.le_refl _) fun v n ⟨a, t, b⟩ => ⟨a, t, b.trans (by rw [show min (held.size : Int) k = k from by omega])⟩
def UnsentC (K : Params → Frag) (q : Program) (lo : List Str) (w : World) : Prop :=
  ∀ {news : List (Addr × Obj)} {x dx p q' dq : Addr} {kt kq : Nat → Tok} {iss mss great fa fs room : Value} {r una k : Int} {tr tu tn : Tok} {held : Array UInt8} {th : Tok}, 0 ≤ k → k < r → held.size < 1000 →
    (x, instObj 680 dx) ∈ news → (dx, sndD w kt iss (.int r tr) mss (.int una tu) (.int ((una + k) % r) tn) great p q' (.bool false) fa fs) ∈ news →
    (q', instObj 447 dq) ∈ news → (dq, queD w kq room (.bytes held th)) ∈ news →
    Meets K q lo w 7 564 [.ref x] news (fun v n' => n' = news ∧ ∃ t, v = .int (held.size - min (held.size : Int) k) t)
theorem UnsentC.le {K : Params → Frag} {q : Program} {lo : List Str} {w : World} (C : UnsentC K q lo w)
    {news : List (Addr × Obj)} {x dx p q' dq : Addr} {kt kq : Nat → Tok} {iss mss great fa fs room : Value} {r una k : Int} {tr tu tn : Tok} {held : Array UInt8} {th : Tok} (h0 : 0 ≤ k) (h1 : k < r) (h2 : held.size < 1000) (h3 : k ≤ held.size)
    (m1 : (x, instObj 680 dx) ∈ news) (m2 : (dx, sndD w kt iss (.int r tr) mss (.int una tu) (.int ((una + k) % r) tn) great p q' (.bool false) fa fs) ∈ news)
    (m3 : (q', instObj 447 dq) ∈ news) (m4 : (dq, queD w kq room (.bytes held th)) ∈ news) : Meets K q lo w 7 564 [.ref x] news (fun v n' => n' = news ∧ ∃ t, v = .int (held.size - k) t) :=
  (C h0 h1 h2 m1 m2 m3 m4).mono (Nat.le_refl _) fun v n ⟨a, t, b⟩ => ⟨a, t, b.trans (by rw [show min (held.size : Int) k = k from by omega])⟩
theorem UnsentC.ge {K : Params → Frag} {q : Program} {lo : List Str} {w : World} (C : UnsentC K q lo w)
    {news : List (Addr × Obj)} {x dx p q' dq : Addr} {kt kq : Nat → Tok} {iss mss great fa fs room : Value} {r una k : Int} {tr tu tn : Tok} {held : Array UInt8} {th : Tok} (h0 : 0 ≤ k) (h1 : k < r) (h2 : held.size < 1000) (h3 : held.size ≤ k)
    (m1 : (x, instObj 680 dx) ∈ news) (m2 : (dx, sndD w kt iss (.int r tr) mss (.int una tu) (.int ((una + k) % r) tn) great p q' (.bool false) fa fs) ∈ news)
    (m3 : (q', instObj 447 dq) ∈ news) (m4 : (dq, queD w kq room (.bytes held th)) ∈ news) : Meets K q lo w 7 564 [.ref x] news (fun v n' => n' = news ∧ ∃ t, v = .int 0 t) :=
  (C h0 h1 h2 m1 m2 m3 m4).mono (Nat.le_refl _) fun v n ⟨a, t, b⟩ => ⟨a, t, b.trans (by rw [show (held.size : Int) - min (held.size : Int) k = 0 from by omega])⟩
def FinDueC (K : Params → Frag) (q : Program) (lo : List Str) (w : World) : Prop :=
  ∀ {news : List (Addr × Obj)} {x dx p q' dq : Addr} {kt kq : Nat → Tok} {iss mss room : Value} {fa fs : Bool} {r una k great : Int} {tr tu tn tg : Tok} {held : Array UInt8} {th : Tok}, 0 ≤ k → k < r → held.size < 1000 → (fs = true → 0 < held.size) →
    (x, instObj 680 dx) ∈ news → (dx, sndD w kt iss (.int r tr) mss (.int una tu) (.int ((una + k) % r) tn) (.int great tg) p q' (.bool false) (.bool fa) (.bool fs)) ∈ news →
    (q', instObj 447 dq) ∈ news → (dq, queD w kq room (.bytes held th)) ∈ news →
    Meets K q lo w 7 571 [.ref x] news (fun v n' => n' = news ∧ v = .bool (fa && decide (k ≤ held.size)))
theorem FinDueC.le {K : Params → Frag} {q : Program} {lo : List Str} {w : World} (C : FinDueC K q lo w)
    {news : List (Addr × Obj)} {x dx p q' dq : Addr} {kt kq : Nat → Tok} {iss mss room : Value} {fa fs : Bool} {r una k great : Int} {tr tu tn tg : Tok} {held : Array UInt8} {th : Tok} (h0 : 0 ≤ k) (h1 : k < r) (h2 : held.size < 1000) (h3 : fs = true → 0 < held.size) (h4 : k ≤ held.size)
    (m1 : (x, instObj 680 dx) ∈ news) (m2 : (dx, sndD w kt iss (.int r tr) mss (.int una tu) (.int ((una + k) % r) tn) (.int great tg) p q' (.bool false) (.bool fa) (.bool fs)) ∈ news)
    (m3 : (q', instObj 447 dq) ∈ news) (m4 : (dq, queD w kq room (.bytes held th)) ∈ news) : Meets K q lo w 7 571 [.ref x] news (fun v n' => n' = news ∧ v = .bool fa) :=
  (C h0 h1 h2 h3 m1 m2 m3 m4).mono (Nat.le_refl _) fun v n ⟨a, b⟩ => ⟨a, b.trans (by rw [decide_eq_true h4, Bool.and_true])⟩
theorem FinDueC.gt {K : Params → Frag} {q : Program} {lo : List Str} {w : World} (C : FinDueC K q lo w)
    {news : List (Addr × Obj)} {x dx p q' dq : Addr} {kt kq : Nat → Tok} {iss mss room : Value} {fa fs : Bool} {r una k great : Int} {tr tu tn tg : Tok} {held : Array UInt8} {th : Tok} (h0 : 0 ≤ k) (h1 : k < r) (h2 : held.size < 1000) (h3 : fs = true → 0 < held.size) (h4 : held.size < k)
    (m1 : (x, instObj 680 dx) ∈ news) (m2 : (dx, sndD w kt iss (.int r tr) mss (.int una tu) (.int ((una + k) % r) tn) (.int great tg) p q' (.bool false) (.bool fa) (.bool fs)) ∈ news)
    (m3 : (q', instObj 447 dq) ∈ news) (m4 : (dq, queD w kq room (.bytes held th)) ∈ news) : Meets K q lo w 7 571 [.ref x] news (fun v n' => n' = news ∧ v = .bool false) :=
  (C h0 h1 h2 h3 m1 m2 m3 m4).mono (Nat.le_refl _) fun v n ⟨a, b⟩ => ⟨a, b.trans (by rw [decide_eq_false (by omega), Bool.and_false])⟩
def MayGoC (K : Params → Frag) (q : Program) (lo : List Str) (w : World) : Prop :=
  ∀ {news : List (Addr × Obj)} {x dx p dp q' dq : Addr} {kt kp kq : Nat → Tok} {iss great fa fs room ring size tseq tack : Value} {r una k ms many mo : Int} {tr tu tn tms tmo tm : Tok} {held : Array UInt8} {th : Tok}, 0 ≤ k → k < r → held.size < 1000 →
    (x, instObj 680 dx) ∈ news → (dx, sndD w kt iss (.int r tr) (.int ms tms) (.int una tu) (.int ((una + k) % r) tn) great p q' (.bool false) fa fs) ∈ news →
    (p, instObj 489 dp) ∈ news → (dp, perD w kp ring size (.int mo tmo) tseq tack) ∈ news →
    (q', instObj 447 dq) ∈ news → (dq, queD w kq room (.bytes held th)) ∈ news →
    Meets K q lo w 10 606 [.ref x, .int many tm, .bool false] news (fun v n' => n' = news ∧ ∃ b, v = .bool b)
def GoOnC (K : Params → Frag) (q : Program) (lo : List Str) (w : World) : Prop :=
  ∀ {news : List (Addr × Obj)} {g : Obj → List (Addr × Obj)} {x dx p q' : Addr} {kt : Nat → Tok} {iss mss syn fa fs : Value} {r una k m : Int} {tr tu tn tg tm : Tok}, 0 ≤ k → 0 < m → 2 * m < r →
    UpdF dx (sndD w kt iss (.int r tr) mss (.int una tu) (.int ((una + k) % r) tn) (.int ((una + k) % r) tg) p q' syn fa fs) news g → (x, instObj 680 dx) ∈ news → x ≠ dx →
    Meets K q lo w 5 592 [.ref x, .int m tm] news (fun v n => ∃ new o', n = new ++ g o' ∧ (v = .none ∧ new = [] ∧ ∃ t t', o' = sndD w kt iss (.int r tr) mss (.int una tu) (.int ((una + (k + m)) % r) t) (.int ((una + (k + m)) % r) t') p q' syn fa fs))
def PartC (K : Params → Frag) (q : Program) (lo : List Str) (w : World) : Prop :=
  ∀ {news : List (Addr × Obj)} {q' dq : Addr} {kq : Nat → Tok} {room : Value} {held : Array UInt8} {at' many : Int} {th ta tm : Tok}, 0 ≤ at' → 0 ≤ many → at' + many ≤ held.size → held.size < 1000 →
    (q', instObj 447 dq) ∈ news → (dq, queD w kq room (.bytes held th)) ∈ news →
    Meets K q lo w 3 437 [.ref q', .int at' ta, .int many tm] news (fun v n => n = news ∧ ∃ o t, v = .bytes o t ∧ (o.size : Int) = many)
abbrev b2i (b : Bool) : Int := if b = true then 1 else 0
abbrev tup4 (seq : Int) (ts : Tok) (o : Array UInt8) (to : Tok) (il hf : Bool) (c : Nat) : Obj := { cls := .type "tuple", data := .seq #[.int seq ts, .bytes o to, .bool il, .bool hf] c }
def PieceC (K : Params → Frag) (q : Program) (lo : List Str) (w : World) : Prop :=
  ∀ {news : List (Addr × Obj)} {g : Obj → List (Addr × Obj)} {x dx p dp q' dq : Addr} {kt kp kq : Nat → Tok} {iss mss ring most tseq tack room : Value} {fa : Bool} {r una k W c M many : Int} {tr tu tn tg tw tc tm : Tok} {held : Array UInt8} {th : Tok},
    0 ≤ k → k ≤ held.size → 256 ≤ r → held.size ≤ 12 → 0 < many → many ≤ held.size - k → M = min W c → k ≤ M →
    (x, instObj 680 dx) ∈ news →
    UpdF dx (sndD w kt iss (.int r tr) mss (.int una tu) (.int ((una + k) % r) tn) (.int ((una + k) % r) tg) p q' (.bool false) (.bool fa) (.bool false)) news g →
    (p, instObj 489 dp) ∈ news → (dp, perD w kp ring (.int W tw) most tseq tack) ∈ news → (q', instObj 447 dq) ∈ news → (dq, queD w kq room (.bytes held th)) ∈ news →
    x ≠ dx → p ≠ dx → dp ≠ dx → q' ≠ dx → dq ≠ dx →
    Meets K q lo w 10 621 [.ref x, .int many tm, .int c tc] news (fun v n => ∃ new o', n = new ++ g o' ∧
      (∃ t seq ts o to il hf cn k' t1 t2, v = .ref t ∧ new = [(t, tup4 seq ts o to il hf cn)] ∧ (∀ p ∈ news, p.1 < t) ∧ (o.size : Int) = many ∧ (hf = true → fa = true ∧ many = held.size - k ∧ many < M - k) ∧ k' = k + many + b2i hf ∧
        o' = sndD w kt iss (.int r tr) mss (.int una tu) (.int ((una + k') % r) t1) (.int ((una + k') % r) t2) p q' (.bool false) (.bool fa) (.bool hf)))
/-- one piece that was told -/
structure Pc where
  a : Addr
  seq : Int
  ts : Tok
  o : Array UInt8
  to : Tok
  il : Bool
  hf : Bool
  c : Nat
abbrev Pc.ent (i : Pc) : Addr × Obj := (i.a, tup4 i.seq i.ts i.o i.to i.il i.hf i.c)
abbrev sumP : List Pc → Int
  | [] => 0
  | i :: r => i.o.size + b2i i.hf + sumP r
abbrev anyP : List Pc → Bool
  | [] => false
  | i :: r => i.hf || anyP r
/-- what the pieces come to -/
def PcsR (w : World) (kt : Nat → Tok) (iss : Value) (r : Int) (tr tms : Tok) (una : Int) (tu : Tok) (p q' : Addr) (fa : Bool) (v : Value) (new : List (Addr × Obj)) (o' : Obj) : Prop :=
  ∃ l cn its k' t1 t2, v = .ref l ∧ new = (l, listOf (its.map fun i => Value.ref i.a).toArray cn) :: its.map Pc.ent ∧ its.length ≤ 4 ∧ k' = sumP its ∧ 0 ≤ k' ∧ k' ≤ 13 ∧
    o' = sndD w kt iss (.int r tr) (.int 4 tms) (.int una tu) (.int ((una + k') % r) t1) (.int ((una + k') % r) t2) p q' (.bool false) (.bool fa) (.bool (anyP its))
def PiecesC (K : Params → Frag) (q : Program) (lo : List Str) (w : World) : Prop :=
  ∀ {news : List (Addr × Obj)} {g : Obj → List (Addr × Obj)} {x dx p dp q' dq : Addr} {kt kp kq : Nat → Tok} {iss ring tseq tack room : Value} {fa : Bool} {r una W c mo : Int} {tr tu tn tg tw tc tms tmo : Tok} {held : Array UInt8} {th : Tok},
    256 ≤ r → held.size ≤ 12 → 1 ≤ W → 1 ≤ c →
    (x, instObj 680 dx) ∈ news →
    UpdF dx (sndD w kt iss (.int r tr) (.int 4 tms) (.int una tu) (.int ((una + 0) % r) tn) (.int ((una + 0) % r) tg) p q' (.bool false) (.bool fa) (.bool false)) news g →
    (p, instObj 489 dp) ∈ news → (dp, perD w kp ring (.int W tw) (.int mo tmo) tseq tack) ∈ news → (q', instObj 447 dq) ∈ news → (dq, queD w kq room (.bytes held th)) ∈ news →
    x ≠ dx → p ≠ dx → dp ≠ dx → q' ≠ dx → dq ≠ dx →
    Meets K q lo w 14 614 [.ref x, .int c tc, .bool false] news (fun v n => ∃ new o', n = new ++ g o' ∧ PcsR w kt iss r tr tms una tu p q' fa v new o')
/-- a turn of the loop is over -/
structure KGo : Prop where
theorem kGo : KGo := ⟨⟩
structure Hold (P : Prop) : Prop where
  out : P
theorem sumP_app : ∀ (l : List Pc) (i : Pc), sumP (l ++ [i]) = sumP l + (i.o.size + b2i i.hf)
  | [], i => by show (i.o.size : Int) + b2i i.hf + 0 = 0 + _; omega
  | j :: r, i => by show (j.o.size : Int) + b2i j.hf + sumP (r ++ [i]) = (j.o.size + b2i j.hf + sumP r) + _; rw [sumP_app r i]; omega
theorem anyP_app : ∀ (l : List Pc) (i : Pc), anyP (l ++ [i]) = (anyP l || i.hf)
  | [], i => by show (i.hf || false) = (false || i.hf); cases i.hf <;> rfl
  | j :: r, i => by show (j.hf || anyP (r ++ [i])) = ((j.hf || anyP r) || i.hf); rw [anyP_app r i, Bool.or_assoc]
theorem while_ind {prog : Program} {w : World} {A : Around} {E : Value → Shared → Prop} {env : Env} {test : PySem.Expr} {body orelse : List Stmt} {Q : Flow → Shared → Prop} {s : Shared} {β : Type} (Inv : β → Heap → Prop) (μ : β → Nat)
    (hE : PassesOwn (model prog w) A env E)
    (turn : ∀ b h tk, Inv b h → (∀ b' h' tk', μ b' < μ b → Inv b' h' → WhlRest prog w A E env test body orelse Q 0 { s with heap := h', toks := tk' }) →
      wpAny (model prog w) A (isTrue test env (eval test env)) (fun c s₂ => WhlIf c (wpAny (model prog w) A (execs body env) (WhlPost prog w A E env test body orelse Q 0) E s₂) (wpAny (model prog w) A (execs orelse env) Q E s₂)) E { s with heap := h, toks := tk })
    (b : β) (h : Heap) (tk : Nat) (i : Inv b h) : WhlRest prog w A E env test body orelse Q 0 { s with heap := h, toks := tk } := by
  have all : ∀ n b h tk, μ b < n → Inv b h → WhlRest prog w A E env test body orelse Q 0 { s with heap := h, toks := tk } := by
    intro n
    induction n with
    | zero => intro b h tk hl; exact absurd hl (Nat.not_lt_zero _)
    | succ n ih => exact fun b h tk hl hi => whl_turn hE (turn b h tk hi fun b' h' tk' hl' hi' => ih b' h' tk' (by omega) hi')
  exact all _ b h tk (Nat.lt_succ_self _) i
/-- between two turns of the loop that tells the pieces -/
def PInv (g : Heap) (L : Addr) (m0 : Str → Option Value) (w : World) (kt : Nat → Tok) (iss : Value) (r : Int) (tr tms : Tok) (una : Int) (tu : Tok) (p q' : Addr) (fa : Bool) (size M : Int) (l dx : Addr) (rest : List (Addr × Obj)) (b : List Pc × Int) (h : Heap) : Prop :=
  ∃ (u : Option Value) (vs : List Value) (cn : Nat) (t1 t2 : Tok) (T : List (Addr × Obj)),
    Fr g L h (fun y => if y = Str.ofString "many" then u else m0 y) ∧
    News g L h ((l, listOf vs.toArray cn) :: (dx, sndD w kt iss (.int r tr) (.int 4 tms) (.int una tu) (.int ((una + b.2) % r) t1) (.int ((una + b.2) % r) t2) p q' (.bool false) (.bool fa) (.bool false)) :: T) ∧
    vs = b.1.map (fun i => Value.ref i.a) ∧ vs.length ≤ 3 ∧ 0 ≤ b.2 ∧ b.2 ≤ size ∧ b.2 ≤ M ∧ b.2 = sumP b.1 ∧ anyP b.1 = false ∧ KHid (b.2 = 4 * vs.length ∨ b.2 = size ∨ b.2 = M) ∧
    (∀ p ∈ T, p.1 ≠ l) ∧ (∀ p ∈ T, p.1 ≠ dx) ∧ dx < l ∧ (∀ p ∈ rest, p ∈ T) ∧ (∀ i ∈ b.1, i.ent ∈ T)
theorem pieces_out {h₀ h : Heap} {L : Addr} {led rest : List (Addr × Obj)} {l dx : Addr} {cn : Nat} {o' : Obj} (N : News h₀ L h led) (its : List Pc) (hl : (l, listOf (its.map fun i => Value.ref i.a).toArray cn) ∈ led) (hd : (dx, o') ∈ led) (hr : ∀ p ∈ rest, p ∈ led) (hi : ∀ i ∈ its, i.ent ∈ led) :
    News h₀ L h (((l, listOf (its.map fun i => Value.ref i.a).toArray cn) :: its.map Pc.ent) ++ (dx, o') :: rest) := fun p hp => by
  refine N p ?_
  rcases List.mem_append.mp hp with h | h
  · rcases List.mem_cons.mp h with h | h
    · exact h ▸ hl
    · obtain ⟨i, h1, h2⟩ := List.mem_map.mp h
      exact h2 ▸ hi i h1
  · rcases List.mem_cons.mp h with h | h
    · exact h ▸ hd
    · exact hr p h
theorem fr_many {g h : Heap} {L : Addr} {m : Str → Option Value} (F : Fr g L h m) (hm : m (Str.ofString "many") = none) : Fr g L h (fun y => if y = Str.ofString "many" then none else m y) := by
  have e : (fun y => if y = Str.ofString "many" then none else m y) = m := by
    funext y
    by_cases hy : y = Str.ofString "many"
    · rw [if_pos hy, hy, hm]
    · rw [if_neg hy]
  rw [e]; exact F
theorem fr_many2 {g h : Heap} {L : Addr} {m : Str → Option Value} {u v : Option Value} (F : Fr g L h (fun y => if y = Str.ofString "many" then v else if y = Str.ofString "many" then u else m y)) : Fr g L h (fun y => if y = Str.ofString "many" then v else m y) := by
  have e : (fun y => if y = Str.ofString "many" then v else if y = Str.ofString "many" then u else m y) = fun y => if y = Str.ofString "many" then v else m y := by
    funext y
    by_cases hy : y = Str.ofString "many"
    · rw [if_pos hy, if_pos hy]
    · rw [if_neg hy, if_neg hy, if_neg hy]
  rw [e] at F; exact F
theorem pieces_R {w : World} {kt : Nat → Tok} {iss : Value} {r : Int} {tr tms : Tok} {una : Int} {tu : Tok} {p q' : Addr} {fa fs : Bool} {l dx : Addr} {cn : Nat} {k : Int} {t1 t2 : Tok} {rest : List (Addr × Obj)} (its : List Pc) (hlen : its.length ≤ 4) (hsum : k = sumP its) (h0 : 0 ≤ k) (h13 : k ≤ 13) (hany : anyP its = fs) :
    ∃ new o', ((l, listOf (its.map fun i => Value.ref i.a).toArray cn) :: its.map Pc.ent) ++ (dx, sndD w kt iss (.int r tr) (.int 4 tms) (.int una tu) (.int ((una + k) % r) t1) (.int ((una + k) % r) t2) p q' (.bool false) (.bool fa) (.bool fs)) :: rest = new ++ (dx, o') :: rest ∧ PcsR w kt iss r tr tms una tu p q' fa (.ref l) new o' :=
  ⟨_, _, rfl, l, cn, its, k, t1, t2, rfl, rfl, hlen, hsum, h0, h13, by rw [hany]⟩
theorem end_same {h₀ h : Heap} {L : Addr} {T rest : List (Addr × Obj)} {l dx : Addr} {cn : Nat} {ob : Obj} {vs : List Value} {its : List Pc} (N : News h₀ L h ((l, listOf vs.toArray cn) :: (dx, ob) :: T)) (hvs : vs = its.map fun i => Value.ref i.a) (hr : ∀ p ∈ rest, p ∈ T) (hi : ∀ i ∈ its, i.ent ∈ T) :
    News h₀ L h (((l, listOf (its.map fun i => Value.ref i.a).toArray cn) :: its.map Pc.ent) ++ (dx, ob) :: rest) := by
  subst hvs
  exact pieces_out N its (.head _) (.tail _ (.head _)) (fun p hp => .tail _ (.tail _ (hr p hp))) fun i h => .tail _ (.tail _ (hi i h))
theorem push_map {vs : List Value} {its : List Pc} {i : Pc} (hvs : vs = its.map fun i => Value.ref i.a) : vs.toArray.push (.ref i.a) = ((its ++ [i]).map fun i => Value.ref i.a).toArray := by
  subst hvs; simp
theorem end_push {h₀ h : Heap} {L : Addr} {T rest : List (Addr × Obj)} {l dx a : Addr} {cn c : Nat} {ob : Obj} {vs : List Value} {its : List Pc} {seq : Int} {ts to : Tok} {o : Array UInt8} {il hf : Bool} (N : News h₀ L h ((a, tup4 seq ts o to il hf c) :: (l, listOf (vs.toArray.push (.ref a)) (cn + 1)) :: (dx, ob) :: T)) (hvs : vs = its.map fun i => Value.ref i.a) (hr : ∀ p ∈ rest, p ∈ T) (hi : ∀ i ∈ its, i.ent ∈ T) :
    News h₀ L h (((l, listOf ((its ++ [(⟨a, seq, ts, o, to, il, hf, c⟩ : Pc)]).map fun i => Value.ref i.a).toArray (cn + 1)) :: (its ++ [(⟨a, seq, ts, o, to, il, hf, c⟩ : Pc)]).map Pc.ent) ++ (dx, ob) :: rest) := by
  rw [push_map (i := ⟨a, seq, ts, o, to, il, hf, c⟩) hvs] at N
  refine pieces_out N _ (.tail _ (.head _)) (.tail _ (.tail _ (.head _))) (fun p hp => .tail _ (.tail _ (.tail _ (hr p hp)))) fun i h => ?_
  rcases List.mem_append.mp h with h | h
  · exact .tail _ (.tail _ (.tail _ (hi i h)))
  · rw [List.mem_singleton.mp h]; exact .head _
theorem pinv_step {g h : Heap} {L : Addr} {m0 : Str → Option Value} {w : World} {kt : Nat → Tok} {iss : Value} {r : Int} {tr tms : Tok} {una : Int} {tu : Tok} {p q' : Addr} {fa : Bool} {size M k k' n : Int} {l dx a : Addr} {rest T : List (Addr × Obj)} {its : List Pc} {u v : Option Value} {vs : List Value} {cn c : Nat} {t1 t2 : Tok} {seq : Int} {ts to : Tok} {o : Array UInt8} {il : Bool}
    (F : Fr g L h (fun y => if y = Str.ofString "many" then v else if y = Str.ofString "many" then u else m0 y))
    (N : News g L h ((a, tup4 seq ts o to il false c) :: (l, listOf (vs.toArray.push (.ref a)) (cn + 1)) :: (dx, sndD w kt iss (.int r tr) (.int 4 tms) (.int una tu) (.int ((una + k') % r) t1) (.int ((una + k') % r) t2) p q' (.bool false) (.bool fa) (.bool false)) :: T))
    (hvs : vs = its.map fun i => Value.ref i.a) (hz : size ≤ 12) (hb0 : 0 ≤ k) (hsum : k = sumP its) (hany : anyP its = false) (hhid : KHid (k = 4 * vs.length ∨ k = size ∨ k = M)) (hD : KHid (n = 4 ∨ n = size - k ∨ n = M - k))
    (hn : 0 < n) (hn4 : n ≤ 4) (hns : n ≤ size - k) (hnM : n ≤ M - k) (ho : (o.size : Int) = n) (hk : k' = k + n)
    (hTl : ∀ p ∈ T, p.1 ≠ l) (hTd : ∀ p ∈ T, p.1 ≠ dx) (hdl : dx < l) (hla : l < a) (hrT : ∀ p ∈ rest, p ∈ T) (hiT : ∀ i ∈ its, i.ent ∈ T) :
    PInv g L m0 w kt iss r tr tms una tu p q' fa size M l dx rest (its ++ [(⟨a, seq, ts, o, to, il, false, c⟩ : Pc)], k') h := by
  have hhid := hhid.out
  have hD := hD.out
  have hl : ((its ++ [(⟨a, seq, ts, o, to, il, false, c⟩ : Pc)]).map fun i => Value.ref i.a).length = vs.length + 1 := by rw [hvs]; simp
  rw [push_map (i := ⟨a, seq, ts, o, to, il, false, c⟩) hvs] at N
  refine ⟨v, _, cn + 1, t1, t2, (a, tup4 seq ts o to il false c) :: T, fr_many2 F, fun p hp => N p ?_, rfl, Nat.le_trans (Nat.le_of_eq hl) (by omega), by show 0 ≤ k'; omega, by show k' ≤ size; omega, by show k' ≤ M; omega, ?_, ?_, ⟨?_⟩, ?_, ?_, hdl, fun p hp => .tail _ (hrT p hp), ?_⟩
  · rcases List.mem_cons.mp hp with h | h
    · exact h ▸ .tail _ (.head _)
    · rcases List.mem_cons.mp h with h | h
      · exact h ▸ .tail _ (.tail _ (.head _))
      · rcases List.mem_cons.mp h with h | h
        · exact h ▸ .head _
        · exact .tail _ (.tail _ (.tail _ h))
  · rw [sumP_app, ← hsum]; show k' = k + ((o.size : Int) + 0); omega
  · rw [anyP_app, hany]; rfl
  · show k' = 4 * ((((its ++ [(⟨a, seq, ts, o, to, il, false, c⟩ : Pc)]).map fun i => Value.ref i.a).length : Nat) : Int) ∨ k' = size ∨ k' = M
    rw [hl]; omega
  · intro p hp
    rcases List.mem_cons.mp hp with h | h
    · rw [h]; exact Nat.ne_of_gt hla
    · exact hTl p h
  · intro p hp
    rcases List.mem_cons.mp hp with h | h
    · rw [h]; exact Nat.ne_of_gt (Nat.lt_trans hdl hla)
    · exact hTd p h
  · intro i hi
    rcases List.mem_append.mp hi with h | h
    · exact .tail _ (hiT i h)
    · rw [List.mem_singleton.mp h]; exact .head _
def WheelC (K : Params → Frag) (q : Program) (lo : List Str) (w : World) : Prop :=
  ∀ {news : List (Addr × Obj)}, Meets K q lo w 4 747 [] news (fun v n => n = news ∧ ∃ a, v = .ref a)
/-- the limits' fields -/
abbrev limD (w : World) (kt : Nat → Tok) (ring mss sr rr ft lt mt mtr ad tw : Value) : Obj :=
  dictOf [ent w (kt 0) "ring" ring, ent w (kt 1) "mss" mss, ent w (kt 2) "send_room" sr, ent w (kt 3) "receive_room" rr, ent w (kt 4) "first_timeout" ft, ent w (kt 5) "least_timeout" lt, ent w (kt 6) "most_timeout" mt, ent w (kt 7) "most_tries" mtr, ent w (kt 8) "ack_delay" ad, ent w (kt 9) "time_wait" tw] 10
abbrev limI (w : World) (kl : Nat → Tok) (r : Int) (tr : Tok) (tt : Nat → Tok) : Obj :=
  limD w kl (.int r tr) (.int 4 (tt 1)) (.int 20 (tt 2)) (.int 16 (tt 3)) (.int 6 (tt 4)) (.int 4 (tt 5)) (.int 24 (tt 6)) (.int 3 (tt 7)) (.int 2 (tt 8)) (.int 12 (tt 9))
def ClockC (K : Params → Frag) (q : Program) (lo : List Str) (w : World) : Prop :=
  ∀ {news : List (Addr × Obj)} {l dl : Addr} {kl tt : Nat → Tok} {r : Int} {tr : Tok}, (l, instObj 768 dl) ∈ news → (dl, limI w kl r tr tt) ∈ news →
    Meets K q lo w 6 779 [.ref l] news (fun v n => n = news ∧ ∃ a, v = .ref a)
def CongC (K : Params → Frag) (q : Program) (lo : List Str) (w : World) : Prop :=
  ∀ {news : List (Addr × Obj)} {a b c : Value}, Meets K q lo w 4 179 [a, b, c] news (fun v n => n = news ∧ ∃ a, v = .ref a)
def AcksC (K : Params → Frag) (q : Program) (lo : List Str) (w : World) : Prop :=
  ∀ {news : List (Addr × Obj)} {a : Value}, Meets K q lo w 4 88 [a] news (fun v n => n = news ∧ ∃ a, v = .ref a)
/-- the sender's objects as they are made -/
def SndMade (w : World) (iss r : Int) (ti tr tms trm : Tok) (x dx p dp q' dq : Addr) (news n : List (Addr × Obj)) : Prop :=
  ∃ kt kp kq th t1 t2 t3, n = (x, instObj 680 dx) :: (dx, sndD w kt (.int iss ti) (.int r tr) (.int 4 tms) (.int iss ti) (.int iss ti) (.int iss ti) p q' (.bool true) (.bool false) (.bool false)) ::
      (p, instObj 489 dp) :: (dp, perD w kp (.int r tr) (.int 0 t1) (.int 0 t2) .none (.int 0 t3)) :: (q', instObj 447 dq) :: (dq, queD w kq (.int 20 trm) (.bytes #[] th)) :: news ∧
    (∀ p ∈ news, p.1 < dx) ∧ @LT.lt Nat _ dx x ∧ @LT.lt Nat _ x dp ∧ @LT.lt Nat _ dp p ∧ @LT.lt Nat _ p dq ∧ @LT.lt Nat _ dq q'
def SndNewC (K : Params → Frag) (q : Program) (lo : List Str) (w : World) : Prop :=
  ∀ {news : List (Addr × Obj)} {iss r : Int} {ti tr tms trm : Tok}, Meets K q lo w 6 680 [.int iss ti, .int r tr, .int 4 tms, .int 20 trm] news (fun v n => ∃ x dx p dp q' dq, v = .ref x ∧ SndMade w iss r ti tr tms trm x dx p dp q' dq news n)
theorem snd_made {w : World} {iss r : Int} {ti tr tms trm th t1 t2 t3 a0 a1 b0 b1 b2 b3 b4 c0 c1 c2 c3 c4 c5 c6 c7 c8 c9 c10 : Tok} {x dx p dp q' dq : Addr} {news : List (Addr × Obj)} {h₀ h : Heap} {L : Addr}
    (N : News h₀ L h ((q', instObj 447 dq) :: (dq, dictOf [ent w a0 "room" (.int 20 trm), ent w a1 "held" (.bytes #[] th)] 2) :: (p, instObj 489 dp) ::
      (dp, dictOf [ent w b0 "ring" (.int r tr), ent w b1 "size" (.int 0 t1), ent w b2 "most" (.int 0 t2), ent w b3 "told_seq" .none, ent w b4 "told_ack" (.int 0 t3)] 5) :: (x, instObj 680 dx) ::
      (dx, dictOf [ent w c0 "iss" (.int iss ti), ent w c1 "ring" (.int r tr), ent w c2 "mss" (.int 4 tms), ent w c3 "una" (.int iss ti), ent w c4 "next" (.int iss ti), ent w c5 "greatest" (.int iss ti), ent w c6 "peer" (.ref p), ent w c7 "queue" (.ref q'), ent w c8 "syn_pending" (.bool true), ent w c9 "fin_asked" (.bool false), ent w c10 "fin_sent" (.bool false)] 11) :: news))
    (hl : ∀ p ∈ news, p.1 < dx) (h1 : @LT.lt Nat _ dx x) (h2 : @LT.lt Nat _ x dp) (h3 : @LT.lt Nat _ dp p) (h4 : @LT.lt Nat _ p dq) (h5 : @LT.lt Nat _ dq q') :
    ∃ n, SndMade w iss r ti tr tms trm x dx p dp q' dq news n ∧ News h₀ L h n := by
  refine ⟨_, ⟨fun i => [c0, c1, c2, c3, c4, c5, c6, c7, c8, c9, c10].getD i 0, fun i => [b0, b1, b2, b3, b4].getD i 0, fun i => [a0, a1].getD i 0, th, t1, t2, t3, rfl, hl, h1, h2, h3, h4, h5⟩, fun y hy => N y ?_⟩
  simp only [List.mem_cons] at hy ⊢
  rcases hy with h | h | h | h | h | h | h
  · exact .inr (.inr (.inr (.inr (.inl h))))
  · exact .inr (.inr (.inr (.inr (.inr (.inl h)))))
  · exact .inr (.inr (.inl h))
  · exact .inr (.inr (.inr (.inl h)))
  · exact .inl h
  · exact .inr (.inl h)
  · exact .inr (.inr (.inr (.inr (.inr (.inr h)))))
/-- the block's fields -/
abbrev tcbD (w : World) (kt : Nat → Tok) (a0 a1 a2 a3 : Value) (x : Addr) (a5 a6 a7 a8 a9 a10 a11 a12 a13 : Value) : Obj :=
  dictOf [ent w (kt 0) "limits" a0, ent w (kt 1) "local" a1, ent w (kt 2) "remote" a2, ent w (kt 3) "state" a3, ent w (kt 4) "sender" (.ref x), ent w (kt 5) "receiver" a5, ent w (kt 6) "clock" a6, ent w (kt 7) "congestion" a7, ent w (kt 8) "acks" a8, ent w (kt 9) "wheel" a9,
    ent w (kt 10) "error" a10, ent w (kt 11) "probes" a11, ent w (kt 12) "unanswered" a12, ent w (kt 13) "is_nagle" a13] 14
/-- the block as it is made -/
def TcbMade (w : World) (iss r : Int) (ti tr tms trm : Tok) (t dt x dx p dp q' dq : Addr) (news n : List (Addr × Obj)) : Prop :=
  ∃ kt ks kp kq th t1 t2 t3 a0 a1 a2 a3 a5 a6 a7 a8 a9 a10 a11 a12 a13, n = (t, instObj 811 dt) :: (dt, tcbD w kt a0 a1 a2 a3 x a5 a6 a7 a8 a9 a10 a11 a12 a13) :: (x, instObj 680 dx) :: (dx, sndD w ks (.int iss ti) (.int r tr) (.int 4 tms) (.int iss ti) (.int iss ti) (.int iss ti) p q' (.bool true) (.bool false) (.bool false)) :: (p, instObj 489 dp) :: (dp, perD w kp (.int r tr) (.int 0 t1) (.int 0 t2) .none (.int 0 t3)) :: (q', instObj 447 dq) :: (dq, queD w kq (.int 20 trm) (.bytes #[] th)) :: news ∧
    (∀ p ∈ news, p.1 < dt) ∧ @LT.lt Nat _ dt t ∧ @LT.lt Nat _ t dx ∧ @LT.lt Nat _ dx x ∧ @LT.lt Nat _ x dp ∧ @LT.lt Nat _ dp p ∧ @LT.lt Nat _ p dq ∧ @LT.lt Nat _ dq q'
def TcbC (K : Params → Frag) (q : Program) (lo : List Str) (w : World) : Prop :=
  ∀ {news : List (Addr × Obj)} {l dl b1 b2 : Addr} {kl tt : Nat → Tok} {iss r : Int} {ti tr : Tok}, (l, instObj 768 dl) ∈ news → (dl, limI w kl r tr tt) ∈ news →
    Meets K q lo w 10 811 [.ref l, .ref b1, .ref b2, .int iss ti] news (fun v n => ∃ t dt x dx p dp q' dq, v = .ref t ∧ TcbMade w iss r ti tr (tt 1) (tt 2) t dt x dx p dp q' dq news n)
theorem tcb_made {w : World} {iss r : Int} {ti tr tms trm th t1 t2 t3 : Tok} {ks kp kq : Nat → Tok} {c0 c1 c2 c3 c4 c5 c6 c7 c8 c9 c10 c11 c12 c13 : Tok} {a0 a1 a2 a3 a5 a6 a7 a8 a9 a10 a11 a12 a13 : Value} {t dt x dx p dp q' dq : Addr} {news : List (Addr × Obj)} {h₀ h : Heap} {L : Addr}
    (N : News h₀ L h ((x, instObj 680 dx) :: (dx, sndD w ks (.int iss ti) (.int r tr) (.int 4 tms) (.int iss ti) (.int iss ti) (.int iss ti) p q' (.bool true) (.bool false) (.bool false)) :: (p, instObj 489 dp) :: (dp, perD w kp (.int r tr) (.int 0 t1) (.int 0 t2) .none (.int 0 t3)) :: (q', instObj 447 dq) :: (dq, queD w kq (.int 20 trm) (.bytes #[] th)) :: (t, instObj 811 dt) :: (dt, dictOf [ent w c0 "limits" a0, ent w c1 "local" a1, ent w c2 "remote" a2, ent w c3 "state" a3, ent w c4 "sender" (.ref x), ent w c5 "receiver" a5, ent w c6 "clock" a6, ent w c7 "congestion" a7, ent w c8 "acks" a8, ent w c9 "wheel" a9, ent w c10 "error" a10, ent w c11 "probes" a11, ent w c12 "unanswered" a12, ent w c13 "is_nagle" a13] 14) :: news))
    (h0 : ∀ p ∈ news, p.1 < dt) (l0 : @LT.lt Nat _ dt t) (l1 : @LT.lt Nat _ t dx) (l2 : @LT.lt Nat _ dx x) (l3 : @LT.lt Nat _ x dp) (l4 : @LT.lt Nat _ dp p) (l5 : @LT.lt Nat _ p dq) (l6 : @LT.lt Nat _ dq q') :
    ∃ n, TcbMade w iss r ti tr tms trm t dt x dx p dp q' dq news n ∧ News h₀ L h n := by
  refine ⟨_, ⟨fun i => [c0, c1, c2, c3, c4, c5, c6, c7, c8, c9, c10, c11, c12, c13].getD i 0, ks, kp, kq, th, t1, t2, t3, a0, a1, a2, a3, a5, a6, a7, a8, a9, a10, a11, a12, a13, rfl, h0, l0, l1, l2, l3, l4, l5, l6⟩, fun y hy => N y ?_⟩
  simp only [List.mem_cons] at hy ⊢
  rcases hy with h | h | h | h | h | h | h | h | h
  · exact .inr (.inr (.inr (.inr (.inr (.inr (.inl h))))))
  · exact .inr (.inr (.inr (.inr (.inr (.inr (.inr (.inl h)))))))
  · exact .inl h
  · exact .inr (.inl h)
  · exact .inr (.inr (.inl h))
  · exact .inr (.inr (.inr (.inl h)))
  · exact .inr (.inr (.inr (.inr (.inl h))))
  · exact .inr (.inr (.inr (.inr (.inr (.inl h)))))
  · exact .inr (.inr (.inr (.inr (.inr (.inr (.inr (.inr h)))))))
/-- two objects are changed -/
theorem Meets.upd2 {K : Params → Frag} {q : Program} {lo : List Str} {w : World} {dn : Nat} {f : Addr} {vs : List Value} {news : List (Addr × Obj)} {d1 d2 : Addr} {o1 o2 : Obj} {g1 : Obj → List (Addr × Obj)} {g2 : Obj → Obj → List (Addr × Obj)} {R : Value → List (Addr × Obj) → Obj → Obj → Prop}
    (U1 : UpdF d1 o1 news g1) (U2 : ∀ o, UpdF d2 o2 (g1 o) (g2 o)) (hne : d2 ≠ d1)
    (C : ∀ rest, (∀ p ∈ rest, p.1 ≠ d1) → (∀ p ∈ rest, p.1 ≠ d2) → (∀ p ∈ news, p.1 ≠ d1 → p.1 ≠ d2 → p ∈ rest) → Meets K q lo w dn f vs ((d1, o1) :: (d2, o2) :: rest) (fun v n => ∃ new o1' o2', n = new ++ (d1, o1') :: (d2, o2') :: rest ∧ R v new o1' o2')) :
    Meets K q lo w dn f vs news (fun v n => ∃ new o1' o2', n = new ++ g2 o1' o2' ∧ R v new o1' o2') := by
  obtain ⟨pre, post, e, hg, h1, h2⟩ := U1.split
  have hm2 : (d2, o2) ∈ news := by
    obtain ⟨pre2, post2, e2, _⟩ := (U2 o1).split
    have hn : g1 o1 = news := by rw [hg, e]
    rw [← hn, e2]
    exact List.mem_append.mpr (.inr (.head _))
  intro mean mg mb dp un gd cn cs a ccd cl outer A₀ base h₀ L m s Q E B F X N T hk hd hu ret
  refine C ((pre ++ post).filter fun p => decide (p.1 ≠ d2)) (fun p hp => ?_) (fun p hp => ?_) (fun p hp n1 n2 => ?_) mean mg mb dp un gd cn cs a ccd cl outer A₀ base h₀ L m s Q E B F X (fun p hp => ?_) T hk hd hu ?_
  · rcases List.mem_append.mp (List.mem_filter.mp hp).1 with h | h
    · exact h1 p h
    · exact h2 p h
  · exact of_decide_eq_true (List.mem_filter.mp hp).2
  · refine List.mem_filter.mpr ⟨?_, decide_eq_true n2⟩
    rw [e] at hp
    rcases List.mem_append.mp hp with h | h
    · exact List.mem_append.mpr (.inl h)
    · rcases List.mem_cons.mp h with h | h
      · exact absurd (by rw [h]) n1
      · exact List.mem_append.mpr (.inr h)
  · rcases List.mem_cons.mp hp with h | h
    · exact N p (by rw [e]; exact List.mem_append.mpr (.inr (h ▸ .head _)))
    · rcases List.mem_cons.mp h with h | h
      · exact N p (h ▸ hm2)
      · have hh := (List.mem_filter.mp h).1
        refine N p ?_
        rw [e]
        rcases List.mem_append.mp hh with h | h
        · exact List.mem_append.mpr (.inl h)
        · exact List.mem_append.mpr (.inr (.tail _ h))
  · rintro v n h' tk' ⟨new, o1', o2', rfl, r⟩ F' N'
    refine ret v _ h' tk' ⟨new, o1', o2', rfl, r⟩ F' fun p hp => N' p ?_
    rcases List.mem_append.mp hp with h | h
    · exact List.mem_append.mpr (.inl h)
    · refine List.mem_append.mpr (.inr ?_)
      obtain ⟨pre2, post2, e2, hg2, k1, k2⟩ := (U2 o1').split
      rw [hg2] at h
      have two : p = (d2, o2') ∨ (p.1 ≠ d2 ∧ p ∈ g1 o1') := by
        rw [e2]
        rcases List.mem_append.mp h with h | h
        · exact .inr ⟨k1 p h, List.mem_append.mpr (.inl h)⟩
        · rcases List.mem_cons.mp h with h | h
          · exact .inl h
          · exact .inr ⟨k2 p h, List.mem_append.mpr (.inr (.tail _ h))⟩
      rcases two with h | ⟨hd2, h⟩
      · exact h ▸ .tail _ (.head _)
      · rw [hg] at h
        rcases List.mem_append.mp h with h | h
        · exact .tail _ (.tail _ (List.mem_filter.mpr ⟨List.mem_append.mpr (.inl h), decide_eq_true hd2⟩))
        · rcases List.mem_cons.mp h with h | h
          · exact h ▸ .head _
          · exact .tail _ (.tail _ (List.mem_filter.mpr ⟨List.mem_append.mpr (.inr h), decide_eq_true hd2⟩))
theorem GoOnC.zero {K : Params → Frag} {q : Program} {lo : List Str} {w : World} (C : GoOnC K q lo w)
    {news : List (Addr × Obj)} {g : Obj → List (Addr × Obj)} {x dx p q' : Addr} {kt : Nat → Tok} {iss mss syn fa fs : Value} {r una : Int} {tr tu tn tg tm : Tok} (h0 : 0 ≤ una) (h1 : una < r) (h2 : 256 ≤ r)
    (U : UpdF dx (sndD w kt iss (.int r tr) mss (.int una tu) (.int una tn) (.int una tg) p q' syn fa fs) news g) (hx : (x, instObj 680 dx) ∈ news) (hne : x ≠ dx) :
    Meets K q lo w 5 592 [.ref x, .int 1 tm] news (fun v n => ∃ new o', n = new ++ g o' ∧ (v = .none ∧ new = [] ∧ ∃ t t', o' = sndD w kt iss (.int r tr) mss (.int una tu) (.int ((una + 1) % r) t) (.int ((una + 1) % r) t') p q' syn fa fs)) := by
  have e : (una + 0) % r = una := by rw [Int.add_zero]; exact Int.emod_eq_of_lt h0 h1
  have U' : UpdF dx (sndD w kt iss (.int r tr) mss (.int una tu) (.int ((una + 0) % r) tn) (.int ((una + 0) % r) tg) p q' syn fa fs) news g := by rw [e]; exact U
  refine (C (Int.le_refl 0) (show (0 : Int) < 1 by omega) (show (2 : Int) * 1 < r by omega) U' hx hne).mono (Nat.le_refl _) ?_
  rintro v n ⟨new, o', h1, h2, h3, t, t', h4⟩
  exact ⟨new, o', h1, h2, h3, t, t', by rw [h4, Int.zero_add]⟩
def StartC (K : Params → Frag) (q : Program) (lo : List Str) (w : World) : Prop :=
  ∀ {news : List (Addr × Obj)} {g : Obj → List (Addr × Obj)} {x dx p q' : Addr} {kt : Nat → Tok} {mss fa fs : Value} {r iss : Int} {tr ti tu tn tg : Tok}, 0 ≤ iss → iss < r → 256 ≤ r → (x, instObj 680 dx) ∈ news →
    UpdF dx (sndD w kt (.int iss ti) (.int r tr) mss (.int iss tu) (.int iss tn) (.int iss tg) p q' (.bool true) fa fs) news g → x ≠ dx →
    Meets K q lo w 8 599 [.ref x] news (fun v n => ∃ new o', n = new ++ g o' ∧ (new = [] ∧ ∃ t t', o' = sndD w kt (.int iss ti) (.int r tr) mss (.int iss tu) (.int ((iss + 1) % r) t) (.int ((iss + 1) % r) t') p q' (.bool true) fa fs))
def AckedC (K : Params → Frag) (q : Program) (lo : List Str) (w : World) : Prop :=
  ∀ {news : List (Addr × Obj)} {g1 : Obj → List (Addr × Obj)} {g2 : Obj → Obj → List (Addr × Obj)} {x dx p q' dq : Addr} {kt kq : Nat → Tok} {issv mss fa fs room : Value} {r iss f : Int} {tr tu tn tg tf th : Tok}, 0 ≤ iss → iss < r → 256 ≤ r → f = (iss + 1) % r →
    (x, instObj 680 dx) ∈ news → (q', instObj 447 dq) ∈ news →
    UpdF dx (sndD w kt issv (.int r tr) mss (.int iss tu) (.int ((iss + 1) % r) tn) (.int ((iss + 1) % r) tg) p q' (.bool true) fa fs) news g1 → (∀ o, UpdF dq (queD w kq room (.bytes #[] th)) (g1 o) (g2 o)) → x ≠ dx → q' ≠ dx → x ≠ dq → q' ≠ dq → dq ≠ dx →
    Meets K q lo w 8 677 [.ref x, .int f tf] news (fun v n => ∃ new o1 o2, n = new ++ g2 o1 o2 ∧ (new = [] ∧ (∃ t, o1 = sndD w kt issv (.int r tr) mss (.int f t) (.int ((iss + 1) % r) tn) (.int ((iss + 1) % r) tg) p q' (.bool false) fa fs) ∧ ∃ t, o2 = queD w kq room (.bytes #[] t)))
def Take1C (K : Params → Frag) (q : Program) (lo : List Str) (w : World) : Prop :=
  ∀ {news : List (Addr × Obj)} {g : Obj → List (Addr × Obj)} {x dx p dp q' : Addr} {kt kp : Nat → Tok} {iss mss una next great syn fa fs : Value} {r wd : Int} {tr t1 t2 t3 ts ta tw : Tok} {a : Int}, (x, instObj 680 dx) ∈ news → (p, instObj 489 dp) ∈ news →
    (dx, sndD w kt iss (.int r tr) mss una next great p q' syn fa fs) ∈ news → UpdF dp (perD w kp (.int r tr) (.int 0 t1) (.int 0 t2) .none (.int 0 t3)) news g → x ≠ dp → dx ≠ dp → p ≠ dp →
    Meets K q lo w 8 522 [.ref x, .int 5 ts, .int a ta, .int wd tw] news (fun v n => ∃ new o', n = new ++ g o' ∧ (new = [] ∧ ∃ mo tm, o' = perD w kp (.int r tr) (.int wd tw) (.int mo tm) (.int 5 ts) (.int a ta)))
def Take2C (K : Params → Frag) (q : Program) (lo : List Str) (w : World) : Prop :=
  ∀ {news : List (Addr × Obj)} {g : Obj → List (Addr × Obj)} {x dx p dp q' : Addr} {kt kp : Nat → Tok} {iss mss una next great syn fa fs : Value} {r wd sz mo : Int} {tr t1 t2 ts0 ts ta0 ta tw : Tok} {av a : Int}, 256 ≤ r → (x, instObj 680 dx) ∈ news → (p, instObj 489 dp) ∈ news →
    (dx, sndD w kt iss (.int r tr) mss una next great p q' syn fa fs) ∈ news → UpdF dp (perD w kp (.int r tr) (.int sz t1) (.int mo t2) (.int 5 ts0) (.int av ta0)) news g → x ≠ dp → dx ≠ dp → p ≠ dp →
    Meets K q lo w 8 522 [.ref x, .int 6 ts, .int a ta, .int wd tw] news (fun v n => ∃ new o', n = new ++ g o' ∧ (new = [] ∧ ∃ mo tm, o' = perD w kp (.int r tr) (.int wd tw) (.int mo tm) (.int 6 ts) (.int a ta)))
def PutC (K : Params → Frag) (q : Program) (lo : List Str) (w : World) : Prop :=
  ∀ {news : List (Addr × Obj)} {g : Obj → List (Addr × Obj)} {x dx q' dq : Addr} {kt kq : Nat → Tok} {iss ring mss una next great : Value} {p : Addr} {syn fs : Value} {b : Array UInt8} {tb th trm : Tok}, b.size ≤ 12 → (x, instObj 680 dx) ∈ news → (q', instObj 447 dq) ∈ news →
    (dx, sndD w kt iss ring mss una next great p q' syn (.bool false) fs) ∈ news → UpdF dq (queD w kq (.int 20 trm) (.bytes #[] th)) news g → x ≠ dq → dx ≠ dq → q' ≠ dq →
    Meets K q lo w 8 529 [.ref x, .bytes b tb] news (fun v n => ∃ new o', n = new ++ g o' ∧ (new = [] ∧ ∃ held t, o' = queD w kq (.int 20 trm) (.bytes held t) ∧ held.size = b.size))
def BackC (K : Params → Frag) (q : Program) (lo : List Str) (w : World) : Prop :=
  ∀ {news : List (Addr × Obj)} {g : Obj → List (Addr × Obj)} {x dx p q' : Addr} {kt : Nat → Tok} {iss mss great syn fa fs : Value} {r una k j : Int} {tr tu tn ts : Tok}, 0 ≤ j → j ≤ k → k < r → (x, instObj 680 dx) ∈ news →
    UpdF dx (sndD w kt iss (.int r tr) mss (.int una tu) (.int ((una + k) % r) tn) great p q' syn fa fs) news g → x ≠ dx →
    Meets K q lo w 6 649 [.ref x, .int ((una + j) % r) ts] news (fun v n => ∃ new o', n = new ++ g o' ∧ (new = [] ∧ o' = sndD w kt iss (.int r tr) mss (.int una tu) (.int ((una + j) % r) ts) great p q' syn fa fs))
def AllSentC (K : Params → Frag) (q : Program) (lo : List Str) (w : World) : Prop :=
  ∀ {news : List (Addr × Obj)} {t dt x dx p q' dq : Addr} {kb kt kq : Nat → Tok} {a0 a1 a2 a3 a5 a6 a7 a8 a9 a10 a11 a12 a13 iss ring mss una next great syn fa room : Value} {fs : Bool} {held : Array UInt8} {th : Tok}, held.size < 1000 →
    (t, instObj 811 dt) ∈ news → (dt, tcbD w kb a0 a1 a2 a3 x a5 a6 a7 a8 a9 a10 a11 a12 a13) ∈ news → (x, instObj 680 dx) ∈ news → (dx, sndD w kt iss ring mss una next great p q' syn fa (.bool fs)) ∈ news → (q', instObj 447 dq) ∈ news → (dq, queD w kq room (.bytes held th)) ∈ news →
    Meets K q lo w 5 28 [.ref t] news (fun v n => n = news ∧ v = .bool (fs || decide ((held.size : Int) = 0)))
def ResetC (K : Params → Frag) (q : Program) (lo : List Str) (w : World) : Prop :=
  ∀ {news : List (Addr × Obj)} {x dx p dp q' : Addr} {kt kp : Nat → Tok} {iss ring mss una syn fa fs rg most tseq tack : Value} {nx gr W : Int} {tn tg tw : Tok},
    (x, instObj 680 dx) ∈ news → (dx, sndD w kt iss ring mss una (.int nx tn) (.int gr tg) p q' syn fa fs) ∈ news → (p, instObj 489 dp) ∈ news → (dp, perD w kp rg (.int W tw) most tseq tack) ∈ news →
    Meets K q lo w 5 35 [.ref x] news (fun v n => n = news ∧ ∃ t, v = .int (if 0 < W then gr else nx) t)
/-- a law's call: true for all that it is given -/
def RightC (K : Params → Frag) (q : Program) (lo : List Str) (w : World) : Prop :=
  ∀ {news : List (Addr × Obj)} {gv wv : Addr} {r first g w0 w1 w2 rest : Int} {fa : Bool} {tr tf tg t0 t1 t2 ts : Tok} {c1 c2 : Nat}, (r = 256 ∨ r = 4294967296) → 0 ≤ first → first < r → 0 ≤ g → g ≤ 12 → 1 ≤ w0 → 1 ≤ w1 → 0 ≤ w2 → 0 ≤ rest →
    (gv, ({ cls := .type "tuple", data := .seq #[.int g tg, .bool fa] c1 } : Obj)) ∈ news → (wv, ({ cls := .type "tuple", data := .seq #[.int w0 t0, .int w1 t1, .int w2 t2] c2 } : Obj)) ∈ news →
    Meets K q lo w 20 843 [.int r tr, .int first tf, .ref gv, .ref wv, .int rest ts] news (fun v n => n = news ∧ v = .bool true)
def LimitsC (K : Params → Frag) (q : Program) (lo : List Str) (w : World) : Prop :=
  ∀ {news : List (Addr × Obj)} {r : Int} {tr t1 t2 t3 t4 t5 t6 t7 t8 t9 : Tok},
    Meets K q lo w 5 768 [.int r tr, .int 4 t1, .int 20 t2, .int 16 t3, .int 6 t4, .int 4 t5, .int 24 t6, .int 3 t7, .int 2 t8, .int 12 t9] news (fun v n => ∃ l dl kl tt, v = .ref l ∧ n = (l, instObj 768 dl) :: (dl, limI w kl r tr tt) :: news ∧ (∀ p ∈ news, p.1 < dl) ∧ @LT.lt Nat _ dl l)
theorem limits_made {w : World} {r : Int} {tr t1 t2 t3 t4 t5 t6 t7 t8 t9 c0 c1 c2 c3 c4 c5 c6 c7 c8 c9 : Tok} {l dl : Addr} {news : List (Addr × Obj)} {h₀ h : Heap} {L : Addr}
    (N : News h₀ L h ((l, instObj 768 dl) :: (dl, dictOf [ent w c0 "ring" (.int r tr), ent w c1 "mss" (.int 4 t1), ent w c2 "send_room" (.int 20 t2), ent w c3 "receive_room" (.int 16 t3), ent w c4 "first_timeout" (.int 6 t4), ent w c5 "least_timeout" (.int 4 t5), ent w c6 "most_timeout" (.int 24 t6), ent w c7 "most_tries" (.int 3 t7), ent w c8 "ack_delay" (.int 2 t8), ent w c9 "time_wait" (.int 12 t9)] 10) :: news)) :
    ∃ kl tt, News h₀ L h ((l, instObj 768 dl) :: (dl, limI w kl r tr tt) :: news) :=
  ⟨fun i => [c0, c1, c2, c3, c4, c5, c6, c7, c8, c9].getD i 0, fun i => [0, t1, t2, t3, t4, t5, t6, t7, t8, t9].getD i 0, N⟩
theorem PiecesC.at0 {K : Params → Frag} {q : Program} {lo : List Str} {w : World} (C : PiecesC K q lo w)
    {news : List (Addr × Obj)} {g : Obj → List (Addr × Obj)} {x dx p dp q' dq : Addr} {kt kp kq : Nat → Tok} {iss ring tseq tack room : Value} {fa : Bool} {r una nx W c mo : Int} {tr tu tn tg tw tc tms tmo : Tok} {held : Array UInt8} {th : Tok}
    (hnx : nx = (una + 0) % r) (h0 : 256 ≤ r) (h1 : held.size ≤ 12) (h2 : 1 ≤ W) (h3 : 1 ≤ c)
    (hx : (x, instObj 680 dx) ∈ news)
    (U : UpdF dx (sndD w kt iss (.int r tr) (.int 4 tms) (.int una tu) (.int nx tn) (.int nx tg) p q' (.bool false) (.bool fa) (.bool false)) news g)
    (m2 : (p, instObj 489 dp) ∈ news) (m3 : (dp, perD w kp ring (.int W tw) (.int mo tmo) tseq tack) ∈ news) (m4 : (q', instObj 447 dq) ∈ news) (m5 : (dq, queD w kq room (.bytes held th)) ∈ news)
    (n1 : x ≠ dx) (n2 : p ≠ dx) (n3 : dp ≠ dx) (n4 : q' ≠ dx) (n5 : dq ≠ dx) :
    Meets K q lo w 14 614 [.ref x, .int c tc, .bool false] news (fun v n => ∃ new o', n = new ++ g o' ∧ PcsR w kt iss r tr tms una tu p q' fa v new o') := by
  subst hnx
  exact C h0 h1 h2 h3 hx U m2 m3 m4 m5 n1 n2 n3 n4 n5
theorem AckedC.use {K : Params → Frag} {q : Program} {lo : List Str} {w : World} (C : AckedC K q lo w)
    {news : List (Addr × Obj)} {g1 : Obj → List (Addr × Obj)} {g2 : Obj → Obj → List (Addr × Obj)} {x dx p q' dq : Addr} {kt kq : Nat → Tok} {issv mss fa fs room : Value} {r iss f : Int} {tr tu tn tg tf th : Tok} (h0 : 0 ≤ iss) (h1 : iss < r) (h2 : 256 ≤ r) (h3 : f = (iss + 1) % r)
    (hx : (x, instObj 680 dx) ∈ news) (hq : (q', instObj 447 dq) ∈ news)
    (U1 : UpdF dx (sndD w kt issv (.int r tr) mss (.int iss tu) (.int ((iss + 1) % r) tn) (.int ((iss + 1) % r) tg) p q' (.bool true) fa fs) news g1) (U2 : ∀ o, UpdF dq (queD w kq room (.bytes #[] th)) (g1 o) (g2 o)) (n1 : x ≠ dx) (n2 : q' ≠ dx) (n3 : x ≠ dq) (n4 : q' ≠ dq) (n5 : dq ≠ dx) :
    Meets K q lo w 8 677 [.ref x, .int f tf] news (fun v n => ∃ new o1 o2, n = new ++ g2 o1 o2 ∧ (new = [] ∧ (∃ t, o1 = sndD w kt issv (.int r tr) mss (.int f t) (.int ((iss + 1) % r) tn) (.int ((iss + 1) % r) tg) p q' (.bool false) fa fs) ∧ ∃ t, o2 = queD w kq room (.bytes #[] t))) :=
  C h0 h1 h2 h3 hx hq U1 U2 n1 n2 n3 n4 n5
theorem BackC.fm {K : Params → Frag} {q : Program} {lo : List Str} {w : World} (C : BackC K q lo w)
    {news : List (Addr × Obj)} {g : Obj → List (Addr × Obj)} {x dx p q' : Addr} {kt : Nat → Tok} {iss mss great syn fa fs : Value} {r una k j : Int} {tr tu tn ts : Tok} (h0 : 0 ≤ j) (h1 : j ≤ k) (h2 : k < r) (hx : (x, instObj 680 dx) ∈ news)
    (U : UpdF dx (sndD w kt iss (.int r tr) mss (.int una tu) (.int ((una + k) % r) tn) great p q' syn fa fs) news g) (hne : x ≠ dx) :
    Meets K q lo w 6 649 [.ref x, .int ((una + j).fmod r) ts] news (fun v n => ∃ new o', n = new ++ g o' ∧ (new = [] ∧ o' = sndD w kt iss (.int r tr) mss (.int una tu) (.int ((una + j).fmod r) ts) great p q' syn fa fs)) := by
  rw [Mine.fm (show 0 < r by omega)]
  exact C h0 h1 h2 hx U hne
theorem back_bounds {k rest : Int} {its : List Pc} (_h : k = sumP its) (h0 : 0 ≤ k) (h1 : 0 ≤ rest) : 0 ≤ rest.fmod (k + 1) ∧ rest.fmod (k + 1) ≤ k := by
  rw [Mine.fm (by omega)]
  have a := Int.emod_nonneg rest (show k + 1 ≠ 0 by omega)
  have b := Int.emod_lt_of_pos rest (show 0 < k + 1 by omega)
  omega
theorem sumP_nn : ∀ (l : List Pc), 0 ≤ sumP l
  | [] => Int.le_refl 0
  | i :: r => by
    have h := sumP_nn r
    show 0 ≤ (i.o.size : Int) + b2i i.hf + sumP r
    have : 0 ≤ b2i i.hf := by cases i.hf <;> decide
    omega
theorem sumP_mem : ∀ (l : List Pc) (i : Pc), i ∈ l → (i.o.size : Int) ≤ sumP l
  | [], _, h => nomatch h
  | j :: r, i, h => by
    show (i.o.size : Int) ≤ (j.o.size : Int) + b2i j.hf + sumP r
    have h0 := sumP_nn r
    have : 0 ≤ b2i j.hf := by cases j.hf <;> decide
    rcases List.mem_cons.mp h with h | h
    · rw [h]; omega
    · have := sumP_mem r i h; omega
/-- the locals while the pieces are counted -/
abbrev LM (m00 : Str → Option Value) (k : Int) (b : Bool) (u1 u2 u3 u4 : Option Value) (t : Tok) : Str → Option Value := fun y =>
  if y = Str.ofString "has_fin" then some (.bool b) else if y = Str.ofString "many" then some (.int k t) else
  if y = Str.ofString "is_last" then u1 else if y = Str.ofString "has_push" then u2 else if y = Str.ofString "octets" then u3 else if y = Str.ofString "seq" then u4 else m00 y
theorem LM_start {m00 : Str → Option Value} {k : Int} {b : Bool} {t : Tok} : LM m00 k b (m00 (Str.ofString "is_last")) (m00 (Str.ofString "has_push")) (m00 (Str.ofString "octets")) (m00 (Str.ofString "seq")) t =
    fun y => if y = Str.ofString "has_fin" then some (.bool b) else if y = Str.ofString "many" then some (.int k t) else m00 y := by
  funext y
  show (if y = Str.ofString "has_fin" then some (.bool b) else if y = Str.ofString "many" then some (.int k t) else
    if y = Str.ofString "is_last" then _ else if y = Str.ofString "has_push" then _ else if y = Str.ofString "octets" then _ else if y = Str.ofString "seq" then _ else m00 y : Option Value) = _
  by_cases h1 : y = Str.ofString "has_fin"
  · rw [if_pos h1, if_pos h1]
  · rw [if_neg h1, if_neg h1]
    by_cases h2 : y = Str.ofString "many"
    · rw [if_pos h2, if_pos h2]
    · rw [if_neg h2, if_neg h2]
      by_cases h3 : y = Str.ofString "is_last"
      · rw [if_pos h3, h3]
      · rw [if_neg h3]
        by_cases h4 : y = Str.ofString "has_push"
        · rw [if_pos h4, h4]
        · rw [if_neg h4]
          by_cases h5 : y = Str.ofString "octets"
          · rw [if_pos h5, h5]
          · rw [if_neg h5]
            by_cases h6 : y = Str.ofString "seq"
            · rw [if_pos h6, h6]
            · rw [if_neg h6]
theorem LM_turn {m00 : Str → Option Value} {k k' : Int} {b b' : Bool} {u1 u2 u3 u4 v1 v2 v3 v4 : Option Value} {t t' : Tok} :
    (fun y => if y = Str.ofString "has_fin" then some (.bool b') else if y = Str.ofString "many" then some (.int k' t') else
      if y = Str.ofString "is_last" then v1 else if y = Str.ofString "has_push" then v2 else if y = Str.ofString "octets" then v3 else if y = Str.ofString "seq" then v4 else LM m00 k b u1 u2 u3 u4 t y) = LM m00 k' b' v1 v2 v3 v4 t' := by
  funext y
  show (if y = Str.ofString "has_fin" then some (.bool b') else if y = Str.ofString "many" then some (.int k' t') else
      if y = Str.ofString "is_last" then v1 else if y = Str.ofString "has_push" then v2 else if y = Str.ofString "octets" then v3 else if y = Str.ofString "seq" then v4 else
      (if y = Str.ofString "has_fin" then some (.bool b) else if y = Str.ofString "many" then some (.int k t) else
        if y = Str.ofString "is_last" then u1 else if y = Str.ofString "has_push" then u2 else if y = Str.ofString "octets" then u3 else if y = Str.ofString "seq" then u4 else m00 y) : Option Value) =
    (if y = Str.ofString "has_fin" then some (.bool b') else if y = Str.ofString "many" then some (.int k' t') else
      if y = Str.ofString "is_last" then v1 else if y = Str.ofString "has_push" then v2 else if y = Str.ofString "octets" then v3 else if y = Str.ofString "seq" then v4 else m00 y)
  by_cases h1 : y = Str.ofString "has_fin"
  · simp only [if_pos h1]
  · simp only [if_neg h1]
    by_cases h2 : y = Str.ofString "many"
    · simp only [if_pos h2]
    · simp only [if_neg h2]
      by_cases h3 : y = Str.ofString "is_last"
      · simp only [if_pos h3]
      · simp only [if_neg h3]
        by_cases h4 : y = Str.ofString "has_push"
        · simp only [if_pos h4]
        · simp only [if_neg h4]
          by_cases h5 : y = Str.ofString "octets"
          · simp only [if_pos h5]
          · simp only [if_neg h5]
            by_cases h6 : y = Str.ofString "seq"
            · simp only [if_pos h6]
            · simp only [if_neg h6]
section
variable {prog : Program} {w : World} {A : Around} {E : Value → Shared → Prop} {s : Shared} {env : Env} {h₀ : Heap} {target : PySem.Expr} {body : List Stmt} {Q : Flow → Shared → Prop} {m00 : Str → Option Value}
/-- the loop over the pieces, by induction -/
theorem loop_pcs {l : Addr} {cn : Nat} {its : List Pc} {news : List (Addr × Obj)} {tm : Tok} {k9 : Int} {b9 : Bool} (hk : k9 = sumP its) (hb : b9 = anyP its) (h13 : k9 ≤ 13)
    (hh : A.handled = none) (F : Fr h₀ env.locals s.heap (fun y => if y = Str.ofString "has_fin" then some (.bool false) else if y = Str.ofString "many" then some (.int 0 tm) else m00 y))
    (N : News h₀ env.locals s.heap (((l, listOf (its.map fun i => Value.ref i.a).toArray cn) :: its.map Pc.ent) ++ news))
    (turn : ∀ (a : Addr) (seq : Int) (ts : Tok) (o : Array UInt8) (to : Tok) (il hf : Bool) (c : Nat) (k : Int) (b : Bool) (u1 u2 u3 u4 : Option Value) (t : Tok) (I : Addr) (it : Obj) (N0 : List (Addr × Obj)) (h : Heap) (tk : Nat), o.size ≤ 13 → it.cls = .type "list_iterator" → (∀ p ∈ N0, p.1 < I) →
      Fr h₀ env.locals h (LM m00 k b u1 u2 u3 u4 t) → News h₀ env.locals h ((a, tup4 seq ts o to il hf c) :: (I, it) :: N0) →
      wpAny (model prog w) A (assign target env (.ref a)) (fun _ s₂ => wpAny (model prog w) A (execs body env)
        (UnrPostW h₀ env.locals { s with heap := h, toks := tk } [(I, it)] (fun m' n' => n' = N0 ∧ ∃ u1 u2 u3 u4 t, m' = LM m00 (k + (o.size + b2i hf)) (b || hf) u1 u2 u3 u4 t) Q) E s₂) E { s with heap := h, toks := tk })
    (fin : ∀ u1 u2 u3 u4 t h tk, Fr h₀ env.locals h (LM m00 k9 b9 u1 u2 u3 u4 t) → News h₀ env.locals h news → Q .next { s with heap := h, toks := tk }) :
    wpAny (model prog w) A (pyIter (.ref l)) (fun it s₂ => TurnsAt prog w A h₀ env target body Q E it s₂) E s := by
  rw [← LM_start] at F
  refine iter_listTurns hh F N (.head _) rfl rfl fun I hI => ?_
  have key : ∀ (post pre : List Pc) (k : Int) (b : Bool) (u1 u2 u3 u4 : Option Value) (t : Tok), its = pre ++ post → k + sumP post = k9 → (b || anyP post) = b9 →
      ItemsRest prog w A E h₀ env target body Q s [(I, "list_iterator")] [(l, listOf (its.map fun i => Value.ref i.a).toArray cn)] ((post.map fun i => Value.ref i.a).map .val) (LM m00 k b u1 u2 u3 u4 t)
        (((l, listOf (its.map fun i => Value.ref i.a).toArray cn) :: its.map Pc.ent) ++ news) := by
    intro post
    induction post with
    | nil =>
      intro pre k b u1 u2 u3 u4 t _ h2 h3
      have h2' : k = k9 := by have : k + 0 = k9 := h2; omega
      have h3' : b = b9 := by rw [← h3]; show b = (b || false); cases b <;> rfl
      subst h2' h3'
      exact ItemsRest.zero fun h tk F' N' => fin u1 u2 u3 u4 t h tk F' fun p hp => N' p (List.mem_append.mpr (.inr hp))
    | cons i post ih =>
      intro pre k b u1 u2 u3 u4 t h1 h2 h3
      refine ItemsRest.val fun h tk F' => AllObj.cons fun it hc => AllObj.nil fun N' => ?_
      have hmem : i ∈ its := by rw [h1]; exact List.mem_append.mpr (.inr (.head _))
      have hent : i.ent ∈ ((l, listOf (its.map fun i => Value.ref i.a).toArray cn) :: its.map Pc.ent) ++ news := List.mem_append.mpr (.inl (.tail _ (List.mem_map.mpr ⟨i, hmem, rfl⟩)))
      have ho : i.o.size ≤ 13 := by have := sumP_mem its i hmem; omega
      refine wpAny_mono (turn i.a i.seq i.ts i.o i.to i.il i.hf i.c k b u1 u2 u3 u4 t I it _ h tk ho hc hI F' fun p hp => N' p ?_) (fun _ s₂ h₂ => wpAny_mono h₂ (fun f s₃ p => ?_) fun _ _ e => e) fun _ _ e => e
      · rcases List.mem_cons.mp hp with h | h
        · rw [h]; exact .tail _ hent
        · exact h
      · have fin' : ∀ s₄, UnrEndW h₀ env.locals { s with heap := h, toks := tk } [(I, it)] (fun m' n' => n' = ((l, listOf (its.map fun i => Value.ref i.a).toArray cn) :: its.map Pc.ent) ++ news ∧ ∃ u1 u2 u3 u4 t, m' = LM m00 (k + (i.o.size + b2i i.hf)) (b || i.hf) u1 u2 u3 u4 t) s₄ →
            UnrEndW h₀ env.locals { s with heap := h, toks := tk } [(I, it)] (fun m' n' => SubL [(l, listOf (its.map fun i => Value.ref i.a).toArray cn)] n' ∧ ItemsRest prog w A E h₀ env target body Q s [(I, "list_iterator")] [(l, listOf (its.map fun i => Value.ref i.a).toArray cn)] ((post.map fun i => Value.ref i.a).map .val) m' n') s₄ := by
          rintro s₄ ⟨h', tk', m', n', e, F₁, N₁, ne, hn, v1, v2, v3, v4, t', hm⟩
          subst hn hm
          refine ⟨h', tk', _, _, e, F₁, N₁, ne, ⟨.head _, trivial⟩, ih (pre ++ [i]) _ _ v1 v2 v3 v4 t' (by rw [h1, List.append_assoc]; rfl) ?_ ?_⟩
          · rw [← h2]; show k + ((i.o.size : Int) + b2i i.hf) + sumP post = k + ((i.o.size : Int) + b2i i.hf + sumP post); omega
          · rw [← h3]; show ((b || i.hf) || anyP post) = (b || (i.hf || anyP post)); rw [Bool.or_assoc]
        cases f with
        | ret v => exact p
        | brk => exact p
        | next => exact fin' _ p
        | cont => exact fin' _ p
  exact key its [] 0 false _ _ _ _ tm rfl (by omega) (by rw [hb]; rfl)
theorem if_cut {news : List (Addr × Obj)} {gv x dx : Addr} {g : Obj → List (Addr × Obj)} {m : Str → Option Value} {st : Stmt} {kt : Nat → Tok} {iss ring mss una next great : Value} {p q' : Addr} {syn fs gval : Value} {fa : Bool} {c : Nat} {rest : List (Addr × Obj)}
    (_hgv : (gv, ({ cls := .type "tuple", data := .seq #[gval, .bool fa] c } : Obj)) ∈ rest) (_hx : (x, instObj 680 dx) ∈ news) (_U : UpdF dx (sndD w kt iss ring mss una next great p q' syn (.bool false) fs) news g)
    (F : Fr h₀ env.locals s.heap m) (N : News h₀ env.locals s.heap news)
    (h1 : wpAny (model prog w) A (exec st env) (fun f s' => f = .next ∧ ∃ h' tk', s' = { s with heap := h', toks := tk' } ∧ Fr h₀ env.locals h' m ∧ News h₀ env.locals h' (g (sndD w kt iss ring mss una next great p q' syn (.bool fa) fs))) E s)
    (h2 : ∀ h' tk', Fr h₀ env.locals h' m → News h₀ env.locals h' (g (sndD w kt iss ring mss una next great p q' syn (.bool fa) fs)) → Q .next { s with heap := h', toks := tk' }) :
    wpAny (model prog w) A (exec st env) Q E s := by
  refine wpAny_mono h1 (fun f s' h => ?_) fun _ _ e => e
  obtain ⟨hf, h', tk', e, F', N'⟩ := h
  subst hf e
  exact h2 h' tk' F' N'
end
theorem LM_eq {m00 : Str → Option Value} {k k' : Int} {b b' : Bool} {u1 u2 u3 u4 : Option Value} {t : Tok} (hk : k' = k) (hb : b' = b) : LM m00 k' b' u1 u2 u3 u4 t = LM m00 k b u1 u2 u3 u4 t := by subst hk hb; rfl
theorem abs1 {b c : Bool} (h : ((b || c) != b) = true) (hb : b = true) : False := by subst hb; cases c <;> cases h
theorem abs2 {b : Bool} {n : Nat} {g : Int} (h : ((b || decide ((n : Int) = 0)) != (g == 0)) = true) (hb : b = false) (z : n = g.toNat) (g0 : 0 ≤ g) : False := by
  subst hb z
  rw [Int.toNat_of_nonneg g0, Bool.false_or] at h
  have e : (g == 0) = decide (g = 0) := rfl
  rw [e, bne_self_eq_false] at h
  cases h
theorem veq1 {w2 r a b : Int} (hr : 256 ≤ r) (h : 0 < w2) : ((if 0 < w2 then a % r else b) == a.fmod r) = true := by rw [if_pos h, Mine.fm (show 0 < r by omega)]; exact beq_self_eq_true _
theorem veq2 {w2 a b : Int} (h : ¬ 0 < w2) : ((if 0 < w2 then a else b) == b) = true := by rw [if_neg h]; exact beq_self_eq_true _
theorem ne_mh : Str.ofString "has_fin" ≠ Str.ofString "many" := by decide +kernel
theorem LM_turn2 {m00 : Str → Option Value} {k k' : Int} {b b' : Bool} {u1 u2 u3 u4 v1 v2 v3 v4 : Option Value} {t t' : Tok} :
    (fun y => if y = Str.ofString "many" then some (.int k' t') else if y = Str.ofString "has_fin" then some (.bool b') else
      if y = Str.ofString "is_last" then v1 else if y = Str.ofString "has_push" then v2 else if y = Str.ofString "octets" then v3 else if y = Str.ofString "seq" then v4 else LM m00 k b u1 u2 u3 u4 t y) = LM m00 k' b' v1 v2 v3 v4 t' := by
  refine Eq.trans ?_ (LM_turn (k := k) (b := b) (u1 := u1) (u2 := u2) (u3 := u3) (u4 := u4) (t := t))
  funext y
  by_cases h1 : y = Str.ofString "has_fin"
  · rw [if_pos h1, if_pos h1, if_neg (by rw [h1]; exact ne_mh)]
  · rw [if_neg h1, if_neg h1]
/-- the law's source of numbers -/
abbrev srcO (a b : Int) (ta tb : Tok) (c : Nat) : Obj := listOf #[.int a ta, .int b tb] c
def TakeC (K : Params → Frag) (q : Program) (lo : List Str) (w : World) : Prop :=
  ∀ {news : List (Addr × Obj)} {g : Obj → List (Addr × Obj)} {sv : Addr} {a b top : Int} {ta tb tt : Tok} {c : Nat}, 0 ≤ a → 0 ≤ b → b < 2147483647 → 1 ≤ top → top ≤ 100 → UpdF sv (srcO a b ta tb c) news g →
    Meets K q lo w 6 829 [.ref sv, .int top tt] news (fun v n => ∃ new o', n = new ++ g o' ∧ (new = [] ∧ ∃ d t a' b' ta' tb' c', v = .int d t ∧ 0 ≤ d ∧ d < top ∧ o' = srcO a' b' ta' tb' c' ∧ 0 ≤ a' ∧ 0 ≤ b' ∧ b' < 2147483647))
def One2C (K : Params → Frag) (q : Program) (lo : List Str) (w : World) : Prop :=
  ∀ {news : List (Addr × Obj)} {g : Obj → List (Addr × Obj)} {sv tv : Addr} {a b : Int} {ta tb t1 t2 : Tok} {c c' : Nat}, 0 ≤ a → 0 ≤ b → b < 2147483647 → UpdF sv (srcO a b ta tb c) news g →
    (tv, listOf #[.int 256 t1, .int 4294967296 t2] c') ∈ news → tv ≠ sv →
    Meets K q lo w 10 836 [.ref sv, .ref tv] news (fun v n => ∃ new o', n = new ++ g o' ∧ (new = [] ∧ ∃ d t a' b' ta' tb' c', v = .int d t ∧ (d = 256 ∨ d = 4294967296) ∧ o' = srcO a' b' ta' tb' c' ∧ 0 ≤ a' ∧ 0 ≤ b' ∧ b' < 2147483647))
def One4C (K : Params → Frag) (q : Program) (lo : List Str) (w : World) : Prop :=
  ∀ {news : List (Addr × Obj)} {g : Obj → List (Addr × Obj)} {sv tv : Addr} {a b : Int} {ta tb t1 t2 t3 t4 : Tok} {c c' : Nat}, 0 ≤ a → 0 ≤ b → b < 2147483647 → UpdF sv (srcO a b ta tb c) news g →
    (tv, listOf #[.int 0 t1, .int 0 t2, .int 1 t3, .int 9 t4] c') ∈ news → tv ≠ sv →
    Meets K q lo w 10 836 [.ref sv, .ref tv] news (fun v n => ∃ new o', n = new ++ g o' ∧ (new = [] ∧ ∃ d t a' b' ta' tb' c', v = .int d t ∧ 0 ≤ d ∧ o' = srcO a' b' ta' tb' c' ∧ 0 ≤ a' ∧ 0 ≤ b' ∧ b' < 2147483647))
theorem sq_ok {x y z : Int} (e : x = y.fmod 2147483647) : IntMulOk x z := by
  subst e
  rw [Mine.fm (by omega)]
  have h1 := Int.emod_nonneg y (show (2147483647 : Int) ≠ 0 by omega)
  have h2 := Int.emod_lt_of_pos y (show (0 : Int) < 2147483647 by omega)
  exact IntMulOk.of_left (PySem.intBits_le_64 (by omega) (by omega))
theorem f_lo {a m : Int} (h : 1 ≤ m) : 0 ≤ a.fmod m := by rw [Mine.fm (by omega)]; exact Int.emod_nonneg _ (by omega)
theorem f_hi {a m : Int} (h : 1 ≤ m) : a.fmod m < m := by rw [Mine.fm (by omega)]; exact Int.emod_lt_of_pos _ (by omega)
theorem d_lo {a m : Int} (ha : 0 ≤ a) (h : 1 ≤ m) : 0 ≤ a.fdiv m := by rw [Int.fdiv_eq_ediv_of_nonneg _ (by omega)]; exact Int.ediv_nonneg ha (by omega)
/-- what the law's pool gives back -/
structure PoolPost (h₀ : Heap) (L : Addr) (m : Str → Option Value) (s : Shared) (v : Value) (s' : Shared) : Prop where
  out : ∃ l a b ta tb c h' tk', v = .ref l ∧ s' = { s with heap := h', toks := tk' } ∧ Fr h₀ L h' m ∧ News h₀ L h' [(l, srcO a b ta tb c)] ∧ 0 ≤ a ∧ 0 ≤ b ∧ b < 2147483647
theorem pool_cut {prog : Program} {w : World} {A : Around} {E : Value → Shared → Prop} {s : Shared} {h₀ : Heap} {L : Addr} {m : Str → Option Value} {f : Value} {vs : List Value} {Q : Value → Shared → Prop}
    (_F : Fr h₀ L s.heap m) (h1 : wpAny (model prog w) A (call f vs) (PoolPost h₀ L m s) E s)
    (h2 : ∀ l a b ta tb c h' tk', 0 ≤ a → 0 ≤ b → b < 2147483647 → Fr h₀ L h' m → News h₀ L h' [(l, srcO a b ta tb c)] → Q (.ref l) { s with heap := h', toks := tk' }) :
    wpAny (model prog w) A (call f vs) Q E s := by
  refine wpAny_mono h1 (fun v s' h => ?_) fun _ _ e => e
  obtain ⟨l, a, b, ta, tb, c, h', tk', hv, hs, F', N', a0, b0, b1⟩ := h.out
  subst hv hs
  exact h2 l a b ta tb c h' tk' a0 b0 b1 F' N'
theorem pool_a {x : Int} {b : Bool} : 0 ≤ (if -1 - x > x then -1 - x else x) * (if b = true then 1 else 0) := by
  cases b
  · simp
  · rw [if_pos rfl, Int.mul_one]; split <;> omega
theorem pool_end {h₀ h' : Heap} {L l : Addr} {m : Str → Option Value} {s : Shared} {a y : Int} {ta tb : Tok} {c tk : Nat} {rest : List (Addr × Obj)} (F : Fr h₀ L h' m) (N : News h₀ L h' ((l, srcO a (y.fmod 2147483647) ta tb c) :: rest)) (ha : 0 ≤ a) :
    PoolPost h₀ L m s (.ref l) { s with heap := h', toks := tk } :=
  ⟨⟨l, a, _, ta, tb, c, h', tk, rfl, rfl, F, fun p hp => N p (by rw [List.mem_singleton.mp hp]; exact .head _), ha, f_lo (by omega), f_hi (by omega)⟩⟩
/-- the law's locals between two turns -/
abbrev LW (m00 : Str → Option Value) (u1 u2 u3 u4 u5 : Option Value) : Str → Option Value := fun y =>
  if y = Str.ofString "windows" then u1 else if y = Str.ofString "first" then u2 else if y = Str.ofString "given" then u3 else if y = Str.ofString "ring" then u4 else if y = Str.ofString "turn" then u5 else m00 y
theorem LW_start {m00 : Str → Option Value} : LW m00 (m00 (Str.ofString "windows")) (m00 (Str.ofString "first")) (m00 (Str.ofString "given")) (m00 (Str.ofString "ring")) (m00 (Str.ofString "turn")) = m00 := by
  funext y
  show (if y = Str.ofString "windows" then _ else if y = Str.ofString "first" then _ else if y = Str.ofString "given" then _ else if y = Str.ofString "ring" then _ else if y = Str.ofString "turn" then _ else m00 y : Option Value) = m00 y
  by_cases h1 : y = Str.ofString "windows"
  · rw [if_pos h1, h1]
  · rw [if_neg h1]
    by_cases h2 : y = Str.ofString "first"
    · rw [if_pos h2, h2]
    · rw [if_neg h2]
      by_cases h3 : y = Str.ofString "given"
      · rw [if_pos h3, h3]
      · rw [if_neg h3]
        by_cases h4 : y = Str.ofString "ring"
        · rw [if_pos h4, h4]
        · rw [if_neg h4]
          by_cases h5 : y = Str.ofString "turn"
          · rw [if_pos h5, h5]
          · rw [if_neg h5]
theorem LW_turn {m00 : Str → Option Value} {u1 u2 u3 u4 u5 v1 v2 v3 v4 v5 : Option Value} :
    (fun y => if y = Str.ofString "windows" then v1 else if y = Str.ofString "first" then v2 else if y = Str.ofString "given" then v3 else if y = Str.ofString "ring" then v4 else if y = Str.ofString "turn" then v5 else LW m00 u1 u2 u3 u4 u5 y) = LW m00 v1 v2 v3 v4 v5 := by
  funext y
  show (if y = Str.ofString "windows" then v1 else if y = Str.ofString "first" then v2 else if y = Str.ofString "given" then v3 else if y = Str.ofString "ring" then v4 else if y = Str.ofString "turn" then v5 else
      (if y = Str.ofString "windows" then u1 else if y = Str.ofString "first" then u2 else if y = Str.ofString "given" then u3 else if y = Str.ofString "ring" then u4 else if y = Str.ofString "turn" then u5 else m00 y) : Option Value) =
    (if y = Str.ofString "windows" then v1 else if y = Str.ofString "first" then v2 else if y = Str.ofString "given" then v3 else if y = Str.ofString "ring" then v4 else if y = Str.ofString "turn" then v5 else m00 y)
  by_cases h1 : y = Str.ofString "windows"
  · simp only [if_pos h1]
  · simp only [if_neg h1]
    by_cases h2 : y = Str.ofString "first"
    · simp only [if_pos h2]
    · simp only [if_neg h2]
      by_cases h3 : y = Str.ofString "given"
      · simp only [if_pos h3]
      · simp only [if_neg h3]
        by_cases h4 : y = Str.ofString "ring"
        · simp only [if_pos h4]
        · simp only [if_neg h4]
          by_cases h5 : y = Str.ofString "turn"
          · simp only [if_pos h5]
          · simp only [if_neg h5]
/-- what is so between two turns of the law -/
structure LawInv (m00 : Str → Option Value) (l : Addr) (m : Str → Option Value) (news : List (Addr × Obj)) : Prop where
  out : ∃ u1 u2 u3 u4 u5 a b ta tb c, m = LW m00 u1 u2 u3 u4 u5 ∧ news = [(l, srcO a b ta tb c)] ∧ 0 ≤ a ∧ 0 ≤ b ∧ b < 2147483647
section
variable {prog : Program} {w : World} {A : Around} {E : Value → Shared → Prop} {s : Shared} {env : Env} {h₀ : Heap} {x : Str} {body : List Stmt} {Q : Flow → Shared → Prop}
theorem range_ind {I : Addr} {a : Int} {n : Nat} {Inv : (Str → Option Value) → List (Addr × Obj) → Prop}
    (turn : ∀ i t h tk m news k, Inv m news → Fr h₀ env.locals h (fun y => if y = x then some (.int k t) else m y) → News h₀ env.locals h ((I, itR (a + ((i + 1 : Nat) : Int)) ((n : Int) - ((i + 1 : Nat) : Int))) :: news) →
      wpAny (model prog w) A (execs body env) (UnrPost h₀ env.locals { s with heap := h, toks := tk } I (itR (a + ((i + 1 : Nat) : Int)) ((n : Int) - ((i + 1 : Nat) : Int))) Inv Q) E { s with heap := h, toks := tk })
    (fin : ∀ m news h tk, Inv m news → Fr h₀ env.locals h m → News h₀ env.locals h news → Q .next { s with heap := h, toks := tk }) :
    ∀ (k i : Nat) (m : Str → Option Value) (news : List (Addr × Obj)), Inv m news → RangeRest prog w A E h₀ env x body Q s I a n k i m news := by
  intro k
  induction k with
  | zero => exact fun i m news hi => RangeRest.zero fun h tk F N => fin m news h tk hi F N
  | succ k ih =>
    intro i m news hi
    refine RangeRest.succ fun t h tk F N => wpAny_mono (turn i t h tk m news _ hi F N) (fun f s₃ p => ?_) fun _ _ e => e
    have up : ∀ s₄, UnrEnd h₀ env.locals { s with heap := h, toks := tk } I (itR (a + ((i + 1 : Nat) : Int)) ((n : Int) - ((i + 1 : Nat) : Int))) Inv s₄ →
        UnrEnd h₀ env.locals { s with heap := h, toks := tk } I (itR (a + ((i + 1 : Nat) : Int)) ((n : Int) - ((i + 1 : Nat) : Int))) (RangeRest prog w A E h₀ env x body Q s I a n k (i + 1)) s₄ := by
      rintro s₄ ⟨h', tk', m', n', e, F₁, N₁, ne, hr⟩
      exact ⟨h', tk', m', n', e, F₁, N₁, ne, ih (i + 1) m' n' hr⟩
    cases f with
    | ret v => exact p
    | brk => exact p
    | next => exact up _ p
    | cont => exact up _ p
theorem law_loop {r l : Addr} {t₀ u₀ v₀ : Tok} {m00 : Str → Option Value} {a b : Int} {ta tb : Tok} {c : Nat} (hh : A.handled = none) (hr : IsRange s.heap r 0 3 1 t₀ u₀ v₀) (F : Fr h₀ env.locals s.heap m00) (N : News h₀ env.locals s.heap [(l, srcO a b ta tb c)]) (ha : 0 ≤ a) (hb0 : 0 ≤ b) (hb1 : b < 2147483647)
    (turn : ∀ (it : Obj) (I : Addr) (k : Int) (t : Tok) (h : Heap) (tk : Nat) (u1 u2 u3 u4 u5 : Option Value) (a b : Int) (ta tb : Tok) (c : Nat), it.cls = .type "range_iterator" → @LT.lt Nat _ l I → 0 ≤ a → 0 ≤ b → b < 2147483647 →
      Fr h₀ env.locals h (fun y => if y = x then some (.int k t) else LW m00 u1 u2 u3 u4 u5 y) → News h₀ env.locals h [(I, it), (l, srcO a b ta tb c)] →
      wpAny (model prog w) A (execs body env) (UnrPost h₀ env.locals { s with heap := h, toks := tk } I it (LawInv m00 l) Q) E { s with heap := h, toks := tk })
    (fin : ∀ h tk m news, Fr h₀ env.locals h m → News h₀ env.locals h news → Q .next { s with heap := h, toks := tk }) :
    wpAny (model prog w) A (pyIter (.ref r)) (fun it s₂ => LoopAtV prog w A h₀ env x body Q E it s₂) E s := by
  refine iter_rangeUnr (n := 3) hh hr (by decide) (by decide) F N fun I hI => ?_
  have hl := hI _ (.head _)
  refine range_ind (Inv := LawInv m00 l) ?_ (fun m news h tk _ F N => fin h tk m news F N) 3 0 m00 _ ⟨⟨_, _, _, _, _, a, b, ta, tb, c, LW_start.symm, rfl, ha, hb0, hb1⟩⟩
  intro i t h tk m news k hi F' N'
  obtain ⟨u1, u2, u3, u4, u5, a, b, ta, tb, c, hm, hn, a0, b0, b1⟩ := hi.out
  subst hm hn
  exact turn _ I k t h tk u1 u2 u3 u4 u5 a b ta tb c rfl hl a0 b0 b1 F' N'
theorem law_end {m00 m' : Str → Option Value} {h h' : Heap} {I l : Addr} {it : Obj} {tk tk' : Nat} {rest : List (Addr × Obj)} {a b : Int} {ta tb : Tok} {c : Nat} {u1 u2 u3 u4 u5 : Option Value} (F : Fr h₀ env.locals h' m') (N : News h₀ env.locals h' rest)
    (h1 : (I, it) ∈ rest) (h2 : (l, srcO a b ta tb c) ∈ rest) (hl : @LT.lt Nat _ l I) (hm : m' = LW m00 u1 u2 u3 u4 u5) (ha : 0 ≤ a) (hb0 : 0 ≤ b) (hb1 : b < 2147483647) :
    UnrEnd h₀ env.locals { s with heap := h, toks := tk } I it (LawInv m00 l) { s with heap := h', toks := tk' } :=
  ⟨h', tk', m', [(l, srcO a b ta tb c)], rfl, F, fun p hp => by
    rcases List.mem_cons.mp hp with e | e
    · rw [e]; exact N _ h1
    · rw [List.mem_singleton.mp e]; exact N _ h2, fun p hp => by rw [List.mem_singleton.mp hp]; exact Nat.ne_of_lt hl, ⟨⟨u1, u2, u3, u4, u5, a, b, ta, tb, c, hm, rfl, ha, hb0, hb1⟩⟩⟩
end
theorem let_cut {α : Type} {prog : Program} {w : World} {A : Around} {t : Sem α} {Q : α → Shared → Prop} {E : Value → Shared → Prop} {s : Shared} (h : let qk := Q; let ek := E; wpAny (model prog w) A t qk ek s) : wpAny (model prog w) A t Q E s := h
local macro_rules | `(tactic| k_enter) => `(tactic| (refine' code_def ?k1 ?k2 ?k3 ?k4 ?k5 ?kA ?kF ?kK ?k6 ?k7 ?k8 ?k9 ?kB ?_ ?c2 ?c3 ?c4 ?c5; (case kA => exact rfl); (case kF => exact rfl); (case kK => first | exact rfl | assumption); (case k1 => k_asm); (case k2 => k_asm); (case k3 => k_asm); (case k4 => k_asm); (case k5 => k_asm); (case k6 => k_is); (case k7 => k_is); (case k8 => ktr_room); (case k9 => first | exact BindsTo.of_eq rfl | exact binds_K (by k_in) rfl (by k_is) rfl rfl rfl); (case c5 => decide); (case kB => exact locs rfl); (case c2 => exact rfl); (case c3 => exact rfl); (case c4 => exact rfl); k_whole; intro g' L' h' FG' F' N' B' X' T'; (try dsimp only); (try k_lift B'); (try k_fold)))
local macro_rules | `(tactic| ktr_units) => `(tactic| ((try simp only [units_under_make, units_in1, units_deeper, Around.mark_units, units_caller]); (try dsimp only [ktrTop]); omega))
local macro_rules | `(tactic| ktr_room) => `(tactic| ((try simp only [depth_under_make, depth_under_kw, depth_in1, depth_deeper, depth_caller]); (try dsimp only [ktrTop]); omega))
local macro_rules | `(tactic| k_room) => `(tactic| ktr_room)
local macro_rules | `(tactic| k_mem) => `(tactic| assumption)
local macro_rules | `(tactic| k_all) => `(tactic| assumption)
local macro_rules | `(tactic| ktn_open) => `(tactic| first
  | (refine' (show FlightC _ _ _ _ from by assumption) ?q1 ?q2 ?q3 ?q4; (case q3 | q4 => k_mem); (case q1 | q2 => omega))
  | (refine' (show UsableC _ _ _ _ from by assumption) ?q1 ?q2 ?qm ?qk ?q3 ?q4 ?q5 ?q6; (case q3 | q4 | q5 | q6 => k_mem); (case qm => assumption); (case q1 | q2 | qk => omega))
  | (refine' DataC.le (by assumption) ?q1 ?q2 ?q0 ?qk ?q3 ?q4 ?q5 ?q6; (case q3 | q4 | q5 | q6 => k_mem); (case q1 | q2 | q0 | qk => omega))
  | (refine' (show DataC _ _ _ _ from by assumption) ?q1 ?q2 ?q0 ?q3 ?q4 ?q5 ?q6; (case q3 | q4 | q5 | q6 => k_mem); (case q1 | q2 | q0 => omega))
  | (refine' UnsentC.le (by assumption) ?q1 ?q2 ?q0 ?qk ?q3 ?q4 ?q5 ?q6; (case q3 | q4 | q5 | q6 => k_mem); (case q1 | q2 | q0 | qk => omega))
  | (refine' UnsentC.ge (by assumption) ?q1 ?q2 ?q0 ?qk ?q3 ?q4 ?q5 ?q6; (case q3 | q4 | q5 | q6 => k_mem); (case q1 | q2 | q0 | qk => omega))
  | (refine' (show UnsentC _ _ _ _ from by assumption) ?q1 ?q2 ?q0 ?q3 ?q4 ?q5 ?q6; (case q3 | q4 | q5 | q6 => k_mem); (case q1 | q2 | q0 => omega))
  | (refine' (show PartC _ _ _ _ from by assumption) ?q1 ?q2 ?q3 ?q4 ?q5 ?q6; (case q5 | q6 => k_mem); (case q1 | q2 | q3 | q4 => omega))
  | (refine' (show GoOnC _ _ _ _ from by assumption) ?q1 ?q2 ?q3 ?q4 ?q5 ?q6; (case q5 => k_mem); (case q4 => k_updF); (case q1 | q2 | q3 => omega); (case q6 => first | assumption | k_ne))
  | (refine' FinDueC.le (by assumption) ?q1 ?q2 ?q0 ?q7 ?qk ?q3 ?q4 ?q5 ?q6; (case q3 | q4 | q5 | q6 => k_mem); (case q1 | q2 | q0 | qk => omega); (case q7 => first | (intro hq; cases hq; done) | (intro _; omega)))
  | (refine' FinDueC.gt (by assumption) ?q1 ?q2 ?q0 ?q7 ?qk ?q3 ?q4 ?q5 ?q6; (case q3 | q4 | q5 | q6 => k_mem); (case q1 | q2 | q0 | qk => omega); (case q7 => first | (intro hq; cases hq; done) | (intro _; omega)))
  | (refine' (show MayGoC _ _ _ _ from by assumption) ?q1 ?q2 ?q0 ?q3 ?q4 ?q5 ?q6 ?q7 ?q8; (case q3 | q4 | q5 | q6 | q7 | q8 => k_mem); (case q1 | q2 | q0 => omega))
  | (refine' (show PieceC _ _ _ _ from by assumption) ?q1 ?q2 ?q3 ?q4 ?q5 ?q6 ?qm ?qk ?m1 ?u ?m2 ?m3 ?m4 ?m5 ?n1 ?n2 ?n3 ?n4 ?n5; (case m1 => k_mem); (case u => k_updF); (case m2 | m3 | m4 | m5 => k_mem); (case qm => assumption); (case q1 | q2 | q3 | q4 | q5 | q6 | qk => omega); (case n1 | n2 | n3 | n4 | n5 => first | assumption | k_ne))
  | (refine' GoOnC.zero (by assumption) ?q1 ?q2 ?q3 ?q4 ?q5 ?q6; (case q5 => k_mem); (case q4 => k_updF); (case q1 | q2 | q3 => omega); (case q6 => first | assumption | k_ne))
  | (refine' PiecesC.at0 (by assumption) ?q0 ?q1 ?q2 ?q3 ?q4 ?m1 ?u ?m2 ?m3 ?m4 ?m5 ?n1 ?n2 ?n3 ?n4 ?n5; (case m1 => k_mem); (case u => k_updF); (case m2 | m3 | m4 | m5 => k_mem); (case q0 => first | assumption | omega); (case q1 | q2 | q3 | q4 => omega); (case n1 | n2 | n3 | n4 | n5 => first | assumption | k_ne))
  | (refine' (show TakeC _ _ _ _ from by assumption) ?q1 ?q2 ?q3 ?q4 ?q5 ?u; (case u => k_updF); (case q1 | q2 | q3 | q4 | q5 => omega))
  | (refine' (show One2C _ _ _ _ from by assumption) ?q1 ?q2 ?q3 ?u ?m1 ?n1; (case u => k_updF); (case m1 => k_mem); (case q1 | q2 | q3 => omega); (case n1 => first | assumption | k_ne))
  | (refine' (show One4C _ _ _ _ from by assumption) ?q1 ?q2 ?q3 ?u ?m1 ?n1; (case u => k_updF); (case m1 => k_mem); (case q1 | q2 | q3 => omega); (case n1 => first | assumption | k_ne))
  | (refine' (show RightC _ _ _ _ from by assumption) ?q1 ?q2 ?q3 ?q4 ?q5 ?q6 ?q7 ?q8 ?q9 ?m1 ?m2; (case m1 | m2 => k_mem); (case q1 => first | assumption | omega); (case q2 => first | assumption | omega | exact f_lo (by omega)); (case q3 => first | assumption | omega | exact f_hi (by omega)); (case q4 | q5 | q6 | q7 | q8 | q9 => omega))
  | (refine' (show LimitsC _ _ _ _ from by assumption))
  | (refine' (show TcbC _ _ _ _ from by assumption) ?q1 ?q2; (case q1 | q2 => k_mem))
  | (refine' (show StartC _ _ _ _ from by assumption) ?q1 ?q2 ?q3 ?m1 ?u ?n1; (case m1 => k_mem); (case u => k_updF); (case q1 | q2 => first | assumption | omega); (case q3 => omega); (case n1 => first | assumption | k_ne))
  | (refine' AckedC.use (by assumption) ?q1 ?q2 ?q3 ?q4 ?m1 ?m2 ?u ?v ?n1 ?n2 ?n3 ?n4 ?n5; (case m1 => k_mem); (case u => k_updF); (case m2 => k_mem); (case v => (intro o9; k_updF)); (case q1 | q2 => first | assumption | omega); (case q3 => omega); (case q4 => assumption); (case n1 | n2 | n3 | n4 | n5 => first | assumption | k_ne))
  | (refine' (show Take1C _ _ _ _ from by assumption) ?m1 ?m2 ?m3 ?u ?n1 ?n2 ?n3; (case m1 | m3 | m2 => k_mem); (case u => k_updF); (case n1 | n2 | n3 => first | assumption | k_ne))
  | (refine' (show Take2C _ _ _ _ from by assumption) ?q1 ?m1 ?m2 ?m3 ?u ?n1 ?n2 ?n3; (case m1 | m3 | m2 => k_mem); (case u => k_updF); (case q1 => omega); (case n1 | n2 | n3 => first | assumption | k_ne))
  | (refine' (show PutC _ _ _ _ from by assumption) ?q1 ?m1 ?m2 ?m3 ?u ?n1 ?n2 ?n3; (case m1 | m3 | m2 => k_mem); (case u => k_updF); (case q1 => first | assumption | (simp only [Array.size_replicate]; omega)); (case n1 | n2 | n3 => first | assumption | k_ne))
  | (refine' BackC.fm (by assumption) ?q1 ?q2 ?q3 ?m1 ?u ?n1; (case m1 => k_mem); (case u => k_updF); (case q1 | q2 | q3 => omega); (case n1 => first | assumption | k_ne))
  | (refine' (show AllSentC _ _ _ _ from by assumption) ?q1 ?m1 ?m2 ?m3 ?m4 ?m5 ?m6; (case m1 | m2 | m3 | m4 | m5 | m6 => k_mem); (case q1 => omega))
  | (refine' (show ResetC _ _ _ _ from by assumption) ?m1 ?m2 ?m3 ?m4; (case m1 | m2 | m3 | m4 => k_mem))
  | (refine' (show WheelC _ _ _ _ from by assumption))
  | (refine' (show CongC _ _ _ _ from by assumption))
  | (refine' (show AcksC _ _ _ _ from by assumption))
  | (refine' (show ClockC _ _ _ _ from by assumption) ?q1 ?q2; (case q1 | q2 => k_mem))
  | (refine' (show SndNewC _ _ _ _ from by assumption)))
local macro_rules | `(tactic| ktr_rel) => `(tactic| (k_dflt (refine' Meets.use ?C ?B ?F ?X ?N ?T ?hk ?hd ?hu ?_; (case B | F | X | N | T => k_asm); (case hk => first | exact rfl | assumption); (case C => ktn_open); (case hd => ktr_room); (case hu => ktr_units))))
local macro_rules | `(tactic| walk_at "subscriptTail") => `(tactic| (k_here; (with_reducible show wpAny _ _ (subscriptTail _ (Expr.Slice _ _ none _) (Value.bytes _ _) (Value.ref _)) _ _ _); (with_reducible rename Fr _ _ _ _ => F'); (with_reducible rename News _ _ _ _ => N'); (refine KBc.slice_K (s := ⟨_, _, _, _, _⟩) F' N' rfl (by constructor) (by constructor) (by assumption) ?_); intro _ _ _ _ _ _; (try k_sweep)))
local macro_rules | `(tactic| walk_at "call ref") => `(tactic| k_extra "call ref mine")
theorem vint {x y : Int} {t : Tok} (h : x = y) : Value.int x t = Value.int y t := h ▸ rfl
theorem vbool {x y : Bool} (h : x = y) : Value.bool x = Value.bool y := h ▸ rfl
theorem pick_size {b : Array UInt8} {a m : Int} (h0 : 0 ≤ a) (hm : 0 ≤ m) (h : a + m ≤ b.size) : ((KBy.picked b (some a) (some (a + m))).size : Int) = m := by
  rw [KBc.picked_eq, List.size_toArray, List.length_take, List.length_drop, Array.length_toList]
  obtain ⟨x, rfl⟩ := Int.eq_ofNat_of_zero_le h0
  obtain ⟨y, rfl⟩ := Int.eq_ofNat_of_zero_le hm
  simp only [Option.elim]
  rw [show ((x : Int) + (y : Int)) = ((x + y : Nat) : Int) from rfl, clipAt_nat, clipAt_nat]
  omega
theorem min3_N {prog : Program} {w : World} {A : Around} {E : Value → Shared → Prop} {s : Shared} {h₀ : Heap} {L : Addr} {m : Str → Option Value} {news : List (Addr × Obj)} {a b c : Int} {t u x : Tok} {Q : Value → Shared → Prop} (hh : A.handled = none) (F : Fr h₀ L s.heap m) (N : News h₀ L s.heap news)
    (h : ∀ h' tk tok (n : Int), n ≤ a → n ≤ b → n ≤ c → (0 ≤ a → 0 ≤ b → 0 ≤ c → 0 ≤ n) → KHid (n = a ∨ n = b ∨ n = c) → Fr h₀ L h' m → News h₀ L h' news → Q (.int n tok) { s with heap := h', toks := tk }) :
    wpAny (model prog w) A (call (.builtin "min") [.int a t, .int b u, .int c x]) Q E s :=
  PySem.min_three_ints hh fun h' tk hk => by
    have key := fun tok n ha hb hc h0 hd => h h' tk tok n ha hb hc h0 hd (F.grownK hk) (N.grown hk)
    by_cases h1 : b < a <;> by_cases h2 : c < b <;> by_cases h3 : c < a <;> simp only [h1, h2, h3, if_true, if_false] <;>
      exact key _ _ (by omega) (by omega) (by omega) (fun _ _ _ => by omega) ⟨by omega⟩
local macro_rules | `(tactic| walk_at "call builtin:min") => `(tactic| (k_here; (with_reducible show wpAny _ _ (call (Value.builtin _) [Value.int _ _, Value.int _ _, Value.int _ _]) _ _ _); (with_unfolding_all refine' min3_N ?hh ?F ?N ?_); (case hh => with_unfolding_all rfl); (case F => k_asm); (case N => k_asm); intro h' tk' t9 n9 l91 l92 l93 l94 d9 F' N'; (have l95 := l94 (by omega) (by omega) (by omega)); clear l94; (try dsimp only); (try k_sweep)))
theorem whlIf_split {p : Prop} [Decidable p] {T F : Prop} (h1 : p → T) (h2 : ¬ p → F) : WhlIf (decide p) T F := by
  by_cases h : p
  · exact WhlIf.yes (decide_eq_true h) (h1 h)
  · exact WhlIf.no (decide_eq_false h) (h2 h)
local macro_rules | `(tactic| walk_at "exec While Compare") => `(tactic| (k_here; k_dflt (refine whl_start 0 ?_); refine Hold.out ?_))
local macro_rules | `(tactic| walk_at "exec While Compare cons nil") => `(tactic| (k_here; k_dflt (refine whl_start 0 ?_); refine Hold.out ?_))
local macro_rules | `(tactic| walk_at "WhlIf") => `(tactic| ((refine whlIf_split (fun h9 => ?_) (fun h9 => ?_)) <;> (first | (exfalso; omega) | skip)))
local macro_rules | `(tactic| walk_at "WhlRest") => `(tactic| first | ((rename KGo => z9); refine Hold.out ?_) | ((k_dflt (refine' whl_turn (k := 0) ?hE ?_; (case hE => first | passes_own | with_unfolding_all passes_own))); (try k_sweep)))
local macro_rules | `(tactic| walk_at "call builtin:list.append") => `(tactic| (k_here; k_dflt (refine' append_K ?k1 ?k2 ?k3 ?_ ?z; (case k1 => k_asm); (case k2 => k_asm); (case k3 => k_upd); (case z => size_fits); k_whole); intro h' F' N'; (try k_sweep)))
section
variable {prog : Program} {w : World} {A : Around} {h₀ : Heap} {L : Addr} {m : Str → Option Value} {env : Env} {elt : PySem.Expr} {x : Str} {scope : Scope} {cl : List (Str × Addr)} {s : Shared} {S : List (Addr × Obj) → Prop} {P : Nat → Value → Prop} {Fin : List Value → List (Addr × Obj) → Prop} {news : List (Addr × Obj)}
theorem wc_rest {n : Nat} (hP : ∀ i v, P i v → ∃ k t, v = .int k t)
    (turn : ∀ k t I oI C oC D m₂ ys h tk (E' : Value → Shared → Prop), LCg.NsObj oC m₂ → m₂ x = some (.int k t) → Fr h₀ L h m → News h₀ L h ((I, oI) :: (C, oC) :: (D, LCg.lst ys) :: news) → LCg.Off3 I C D news → ((@Ne Nat I C) ∧ (@Ne Nat I D) ∧ (@Ne Nat C D)) →
      wpAny (model prog w) A (eval elt (compEnvC scope cl C env)) (LCg.CompEnd h₀ L m { s with heap := h, toks := tk } I oI C oC D (LCg.lst ys) S (fun _ news' => news' = news)) E' { s with heap := h, toks := tk })
    (fin : ∀ ys, Fin ys news) : LCg.CompRest prog w A h₀ L m env elt x scope cl s S P Fin n 0 [] news := by
  have key : ∀ (j i : Nat) (ys : List Value), LCg.CompRest prog w A h₀ L m env elt x scope cl s S P Fin j i ys news := by
    intro j
    induction j with
    | zero => exact fun i ys => LCg.CompRest.zero (fin ys)
    | succ j ih =>
      intro i ys
      refine LCg.CompRest.succ ?_
      intro v I oI C oC D m₂ h tk E' hv hC hx F N off ne
      obtain ⟨k, t, hv'⟩ := hP i v hv
      rw [hv'] at hx
      refine wpAny_mono (turn k t I oI C oC D m₂ ys h tk E' hC hx F N off ne) (fun y s₂ hq => ?_) fun _ _ e => e
      obtain ⟨h', tk', nw, e, F', N', off', hS, hn⟩ := hq
      subst hn
      exact ⟨h', tk', nw, e, F', N', off', hS, ih (i + 1) _⟩
  exact key n 0 []
theorem wc_range {n : Nat} {a : Int}
    (turn : ∀ k t I oI C oC D m₂ ys h tk (E' : Value → Shared → Prop), LCg.NsObj oC m₂ → m₂ x = some (.int k t) → Fr h₀ L h m → News h₀ L h ((I, oI) :: (C, oC) :: (D, LCg.lst ys) :: news) → LCg.Off3 I C D news → ((@Ne Nat I C) ∧ (@Ne Nat I D) ∧ (@Ne Nat C D)) →
      wpAny (model prog w) A (eval elt (compEnvC scope cl C env)) (LCg.CompEnd h₀ L m { s with heap := h, toks := tk } I oI C oC D (LCg.lst ys) S (fun _ news' => news' = news)) E' { s with heap := h, toks := tk })
    (fin : ∀ ys, Fin ys news) : LCg.CompRest prog w A h₀ L m env elt x scope cl s S (fun i v => ∃ t, v = .int (a + (i : Int)) t) Fin n 0 [] news :=
  wc_rest (fun i v ⟨t, e⟩ => ⟨_, t, e⟩) turn fin
theorem wc_end {I C D : Addr} {s₁ : Shared} {oI oC oD : Obj} {y : Value} {h' : Heap} {tk : Nat} {all : List (Addr × Obj)} (F : Fr h₀ L h' m) (N : News h₀ L h' all) (sub : ∀ p ∈ (I, oI) :: (C, oC) :: (D, oD) :: news, p ∈ all) (off : LCg.Off3 I C D news) (hS : S news) :
    LCg.CompEnd h₀ L m s₁ I oI C oC D oD S (fun _ n => n = news) y { s₁ with heap := h', toks := tk } := LCg.CompEnd.intro F N news sub off hS rfl
end
local macro_rules | `(tactic| walk_at "CompSrc") => `(tactic| (k_here; k_dflt (refine LCg.CompSrc.range (by rfl) (by k_asm) (by k_asm) (by assumption) (by first | exact small_one (by kcf_bnd) (by kcf_bnd) (by kcf_bnd) (by kcf_bnd) | decide) (by first | exact rangeSize_nat _ _ | rfl) (by first | exact Nat.le_of_ble_eq_true rfl | size_fits) ?_; intro g'; (refine' wc_range (fun k' t' I' oI' C' oC' D' m' ys' h' tk' E' hC' hx' F' N' off' ne' => ?_) (fun ys9 => ?_)); (all_goals (try k_fold)))))
local macro_rules | `(tactic| walk_at "CompEnd") => `(tactic| ((with_unfolding_all refine' wc_end ?F ?N ?sub ?off ?S); (case F => assumption); (case N => assumption); (case sub => kcf_all); (case off => first | assumption | (simp only [LCg.Off3, and_true] at *; assumption)); (case S => first | lcg_src | assumption)))
theorem picked_nil {lo hi : Option Int} : KBy.picked #[] lo hi = #[] := Array.eq_empty_of_size_eq_zero (Nat.le_zero.mp (KBc.size_picked_le #[] lo hi))
theorem picked_all {b : Array UInt8} : (KBy.picked b none (some (b.size : Int))).size = b.size := by
  rw [KBc.picked_eq, List.size_toArray, List.length_take, List.length_drop, Array.length_toList]
  simp only [Option.elim]
  rw [clipAt_nat]
  omega
section
variable {prog : Program} {w : World} {A : Around} {E : Value → Shared → Prop} {s : Shared}
theorem by_bytes : typeLookup (.type "bytes") "__bytes__" = pure (some (.builtin "bytes.__bytes__")) := by rw [typeLookup_type, builtinLookup_eq_fast]; kernel_rfl
theorem int_no_bytes : typeLookup (.type "int") "__bytes__" = pure none := by rw [typeLookup_type, builtinLookup_eq_fast]; kernel_rfl
theorem bb_new {b : Array UInt8} {t : Tok} {Q : Value → Shared → Prop} (hQ : ∀ k, Q (.bytes b t) { s with toks := k }) :
    codeAny (model prog w) A (.call (.builtin "bytes.__new__") ⟨[.type "bytes", .bytes b t], []⟩) (wants Q E) s := by
  refine codeAny_of_tree ?_
  show wpAny _ A.in1 (do checkBuiltinCall "bytes.__new__" ⟨[.type "bytes", .bytes b t], []⟩; again (.builtin "bytes.__new__" ⟨[.type "bytes", .bytes b t], []⟩)) _ _ s
  refine wpAny_bind (wpAny_of_eq (F.bm_newCall _) (wpAny_pure ⟨plainId_quiet F.bm_plain _, codeAny_builtin F.bm_entry ?_⟩))
  rw [Around.under_plainId F.bm_plain _]
  have hT : s.TypeIs (.bytes b t) "bytes" := PySem.W.typeIs_bytes _ _ _
  unfold Builtin.«bytes.__new__»
  refine wpAny_bind (wpAny_of_eq (a := true) rfl ?_)
  refine bm_if_false rfl ?_
  refine wpAny_bind (wpAny_of_eq F.bm_sub ?_)
  refine bm_if_false rfl ?_
  refine wpAny_bind (wpAny_of_eq (F.bm_bind _) ?_)
  refine wpAny_bind (wpAny_of_eq (a := ()) rfl ?_)
  refine wpAny_bind (wpAny_of_eq (a := ()) rfl ?_)
  refine bm_if_false rfl ?_
  refine wpAny_bind (wpAny_specialOf hT by_bytes ?_)
  refine wpAny_bind (wpAny_rule ?_)
  refine wpAny_bind (wpAny_typeOf hT ?_)
  refine bm_if_true (by decide) ?_
  show wpAny _ _ (if (Value.type "bytes" == Value.type "bytes") = true then _ else _) _ _ _
  refine bm_if_true (by decide) ?_
  first
    | exact wpAny_pure (hQ _)
    | exact wpAny_bind (wpAny_pure (wpAny_pure (hQ _)))
theorem bi_new {n : Int} {t : Tok} {Q : Value → Shared → Prop} (h0 : 0 ≤ n) (h1 : n ≤ 1000) (hQ : ∀ t' k, Q (.bytes (Array.replicate n.toNat 0) t') { s with toks := k }) :
    codeAny (model prog w) A (.call (.builtin "bytes.__new__") ⟨[.type "bytes", .int n t], []⟩) (wants Q E) s := by
  refine codeAny_of_tree ?_
  show wpAny _ A.in1 (do checkBuiltinCall "bytes.__new__" ⟨[.type "bytes", .int n t], []⟩; again (.builtin "bytes.__new__" ⟨[.type "bytes", .int n t], []⟩)) _ _ s
  refine wpAny_bind (wpAny_of_eq (F.bm_newCall _) (wpAny_pure ⟨plainId_quiet F.bm_plain _, codeAny_builtin F.bm_entry ?_⟩))
  rw [Around.under_plainId F.bm_plain _]
  have hT : s.TypeIs (.int n t) "int" := by rfl
  unfold Builtin.«bytes.__new__»
  refine wpAny_bind (wpAny_of_eq (a := true) rfl ?_)
  refine bm_if_false rfl ?_
  refine wpAny_bind (wpAny_of_eq F.bm_sub ?_)
  refine bm_if_false rfl ?_
  refine wpAny_bind (wpAny_of_eq (F.bm_bind _) ?_)
  refine wpAny_bind (wpAny_of_eq (a := ()) rfl ?_)
  refine wpAny_bind (wpAny_of_eq (a := ()) rfl ?_)
  refine bm_if_false rfl ?_
  refine wpAny_bind (wpAny_specialOf hT int_no_bytes ?_)
  refine wpAny_bind (wpAny_of_eq (a := false) rfl ?_)
  refine bm_if_false rfl ?_
  refine wpAny_bind (wpAny_specialOf hT int_index ?_)
  refine bm_if_false rfl ?_
  refine wpAny_bind (wpAny_attempt (wpAny_of_eq (rfl : asIndex (.int n t) = pure n) ?_))
  dsimp only
  have f1 : (!Builtin.Bytes.fitsIndex n) = false := by
    simp only [Builtin.Bytes.fitsIndex, Bool.not_eq_false', Bool.and_eq_true, decide_eq_true_eq]; omega
  refine bm_if_false f1 ?_
  rw [if_neg (show ¬ n < 0 by omega), if_neg (show ¬ n > 2 ^ 63 - 34 by omega)]
  have hz : n.toNat ≤ sizeLine := by rw [sizeLine_eq]; omega
  refine bm_if_false (show Builtin.Bytes.tooLong n.toNat = false from decide_eq_false (by omega)) ?_
  refine wpAny_bind (wpAny_rule ?_)
  refine wpAny_bind (wpAny_mkBytes ?_ (by rw [Array.size_replicate]; exact hz))
  show wpAny _ _ (if (Value.type "bytes" == Value.type "bytes") = true then _ else _) _ _ _
  refine bm_if_true (by decide) ?_
  first
    | exact wpAny_pure (hQ _ _)
    | exact wpAny_bind (wpAny_pure (wpAny_pure (hQ _ _)))
theorem call_bytes_bytes {b : Array UInt8} {t : Tok} {Q : Value → Shared → Prop} (hQ : ∀ k, Q (.bytes b t) { s with toks := k }) : wpAny (model prog w) A (call (.type "bytes") [.bytes b t]) Q E s := by
  refine callType_codes (Q₁ := fun obj s₁ => s₁.TypeIs obj "bytes" ∧ Q obj s₁) F.bm_called (F.bm_typeCall _) F.entry_object_init
    (bb_new fun k => ⟨PySem.W.typeIs_bytes _ _ _, hQ k⟩) fun obj s₁ h₁ => ?_
  exact ⟨h₁.1, F.args_object_init_2 obj _, object_init_meets F.bm_called.init.lookup F.bm_called.made (by decide) prog w A.in1 _ s₁ ⟨h₁.1, rfl, h₁.2⟩⟩
theorem call_bytes_int {n : Int} {t : Tok} {Q : Value → Shared → Prop} (h0 : 0 ≤ n) (h1 : n ≤ 1000) (hQ : ∀ t' k, Q (.bytes (Array.replicate n.toNat 0) t') { s with toks := k }) : wpAny (model prog w) A (call (.type "bytes") [.int n t]) Q E s := by
  refine callType_codes (Q₁ := fun obj s₁ => s₁.TypeIs obj "bytes" ∧ Q obj s₁) F.bm_called (F.bm_typeCall _) F.entry_object_init
    (bi_new h0 h1 fun t' k => ⟨PySem.W.typeIs_bytes _ _ _, hQ t' k⟩) fun obj s₁ h₁ => ?_
  exact ⟨h₁.1, F.args_object_init_2 obj _, object_init_meets F.bm_called.init.lookup F.bm_called.made (by decide) prog w A.in1 _ s₁ ⟨h₁.1, rfl, h₁.2⟩⟩
end
local macro_rules | `(tactic| walk_at "call type:bytes") => `(tactic| (k_here; (with_reducible show wpAny _ _ (call (Value.type "bytes") [Value.bytes _ _]) _ _ _); k_dflt (refine call_bytes_bytes ?_); intro k9; (try dsimp only)))
local macro_rules | `(tactic| walk_at "call type:bytes") => `(tactic| (k_here; (with_reducible show wpAny _ _ (call (Value.type "bytes") [Value.int _ _]) _ _ _); k_dflt (refine' call_bytes_int ?h0 ?h1 ?_; (case h0 => omega); (case h1 => omega)); intro t9 k9; (try dsimp only)))
local macro_rules | `(tactic| walk_at "exec For Tuple Call cons nil") => `(tactic| (k_here; (rename Fr _ _ _ _ => lF'); (with_unfolding_all refine' For_turns lF' ?_; k_whole)))
local macro_rules | `(tactic| walk_at "pyIter ref") => `(tactic| (k_here; (with_reducible show wpAny _ _ (pyIter (Value.ref _)) (fun it s₂ => TurnsAt _ _ _ _ _ _ _ _ _ it s₂) _ _); refine Hold.out ?_))
local macro_rules | `(tactic| walk_at "exec If") => `(tactic| (k_here; (rename KGo => z9); (with_reducible show wpAny _ _ (exec (Stmt.If (PySem.Expr.Subscript _ _ _) _ _ _) _) _ _ _); refine Hold.out ?_))
local macro_rules | `(tactic| mul_fits) => `(tactic| ((with_reducible show IntMulOk (List.getD _ _ _) (List.getD _ _ _)); exact sq_ok rfl))
section
variable {prog : Program} {w : World} {A : Around} {E : Value → Shared → Prop} {s : Shared} {h₀ : Heap} {L : Addr} {news : List (Addr × Obj)}
theorem item_at {value slice : PySem.Expr} {tv : Addr} {vs : List Value} {c : Nat} {k : Int} {u : Tok} {v : Value} {Q : Value → Shared → Prop} (N : News h₀ L s.heap news) (hm : (tv, listOf vs.toArray c) ∈ news)
    (h0 : 0 ≤ k) (hhi : k < 100) (hx : vs[k.toNat]? = some v) (h : Q v s)
    (hs : subscripted slice false (.ref tv) (.int k u) = operate [.ref tv, .int k u] (getItem (.ref tv) (.int k u))) :
    wpAny (model prog w) A (subscriptTail value slice (.ref tv) (.int k u)) Q E s :=
  have hl : s.heap.IsList tv vs.toArray := ⟨_, (N _ hm).1, rfl, c, rfl⟩
  tail_any hl.typeIs slot_list_getitem.lookup (wpAny_getItem_list hl h0 (by omega) (by simpa using hx) h) hs
theorem item_2 {value slice : PySem.Expr} {tv : Addr} {v0 v1 : Value} {c : Nat} {k : Int} {u : Tok} {Q : Value → Shared → Prop} (N : News h₀ L s.heap news) (hm : (tv, listOf #[v0, v1] c) ∈ news)
    (h0 : 0 ≤ k) (hhi : k < 2) (hs : subscripted slice false (.ref tv) (.int k u) = operate [.ref tv, .int k u] (getItem (.ref tv) (.int k u))) (q0 : Q v0 s) (q1 : Q v1 s) :
    wpAny (model prog w) A (subscriptTail value slice (.ref tv) (.int k u)) Q E s := by
  rcases (show k = 0 ∨ k = 1 by omega) with e | e <;> subst e
  · exact item_at (vs := [v0, v1]) N hm (by omega) (by omega) rfl q0 hs
  · exact item_at (vs := [v0, v1]) N hm (by omega) (by omega) rfl q1 hs
theorem item_4 {value slice : PySem.Expr} {tv : Addr} {v0 v1 v2 v3 : Value} {c : Nat} {k : Int} {u : Tok} {Q : Value → Shared → Prop} (N : News h₀ L s.heap news) (hm : (tv, listOf #[v0, v1, v2, v3] c) ∈ news)
    (h0 : 0 ≤ k) (hhi : k < 4) (hs : subscripted slice false (.ref tv) (.int k u) = operate [.ref tv, .int k u] (getItem (.ref tv) (.int k u))) (q0 : Q v0 s) (q1 : Q v1 s) (q2 : Q v2 s) (q3 : Q v3 s) :
    wpAny (model prog w) A (subscriptTail value slice (.ref tv) (.int k u)) Q E s := by
  rcases (show k = 0 ∨ k = 1 ∨ k = 2 ∨ k = 3 by omega) with e | e | e | e <;> subst e
  · exact item_at (vs := [v0, v1, v2, v3]) N hm (by omega) (by omega) rfl q0 hs
  · exact item_at (vs := [v0, v1, v2, v3]) N hm (by omega) (by omega) rfl q1 hs
  · exact item_at (vs := [v0, v1, v2, v3]) N hm (by omega) (by omega) rfl q2 hs
  · exact item_at (vs := [v0, v1, v2, v3]) N hm (by omega) (by omega) rfl q3 hs
end
local macro_rules | `(tactic| walk_at "subscriptTail") => `(tactic| (k_here; (with_reducible show wpAny _ _ (subscriptTail _ (PySem.Expr.Call _ _ _ _) (Value.ref _) (Value.int _ _)) _ _ _); k_dflt (first
  | (refine' item_2 ?N ?m ?h0 ?h1 ?hs ?_ ?_; (case N => k_asm); (case m => k_mem); (case h0 => omega); (case h1 => omega); (case hs => with_unfolding_all rfl))
  | (refine' item_4 ?N ?m ?h0 ?h1 ?hs ?_ ?_ ?_ ?_; (case N => k_asm); (case m => k_mem); (case h0 => omega); (case h1 => omega); (case hs => with_unfolding_all rfl)))))
local macro_rules | `(tactic| walk_at "call ref") => `(tactic| (k_here; (rename KGo => z9); k_dflt (show wpAny _ _ (call (Value.ref 822) _) _ _ _); refine Hold.out ?_))
local macro_rules | `(tactic| walk_at "pyIter ref") => `(tactic| (k_here; (with_reducible show wpAny _ _ (pyIter (Value.ref _)) (fun it s₂ => LoopAtV _ _ _ _ _ _ _ _ _ it s₂) _ _); (rename KGo => z9); refine Hold.out ?_))
local macro_rules | `(tactic| walk_at "UnrEnd") => `(tactic| (refine Hold.out ?_))
set_option Elab.async true
set_option maxRecDepth 100000 in
set_option maxHeartbeats 0 in
theorem hd : PySem.Challenge.rw_xw0339_01.Holds := by
  k_with "call ref mine" => (k_here; k_dflt (first | show wpAny _ _ (call (Value.ref 543) _) _ _ _ | show wpAny _ _ (call (Value.ref 550) _) _ _ _ | show wpAny _ _ (call (Value.ref 557) _) _ _ _ | show wpAny _ _ (call (Value.ref 564) _) _ _ _); ktr_rel; intro v9 n9 h9 tk9 e9 F9 N9; obtain ⟨e91, t9, e92⟩ := e9; replace e91 := Eq.symm e91; subst e91; subst e92; (try dsimp only); (try k_sweep); walk_say "MEETS")
  k_with "call ref mine" => (k_here; k_dflt (show wpAny _ _ (call (Value.ref 437) _) _ _ _); ktr_rel; intro v9 n9 h9 tk9 e9 F9 N9; obtain ⟨e91, o9, t9, e92, e93⟩ := e9; replace e91 := Eq.symm e91; subst e91; subst e92; (try dsimp only); (try k_sweep); walk_say "PART")
  k_with "call ref mine" => (k_here; k_dflt (show wpAny _ _ (call (Value.ref 592) _) _ _ _); ktr_rel; intro v9 n9 h9 tk9 e9 F9 N9; obtain ⟨w9, o9, e91, e92, e93, t9, u9, e94⟩ := e9; subst e91; subst e92; subst e93; subst e94; (try dsimp only at N9); (try simp only [List.nil_append, List.cons_append] at N9); (try dsimp only); (try k_sweep); walk_say "GOON")
  k_with "call ref mine" => (k_here; k_dflt (show wpAny _ _ (call (Value.ref 571) _) _ _ _); ktr_rel; intro v9 n9 h9 tk9 e9 F9 N9; obtain ⟨e91, e92⟩ := e9; replace e91 := Eq.symm e91; subst e91; subst e92; (try dsimp only); (try k_sweep); walk_say "FINDUE")
  k_with "call ref mine" => (k_here; k_dflt (show wpAny _ _ (call (Value.ref 606) _) _ _ _); ktr_rel; intro v9 n9 h9 tk9 e9 F9 N9; obtain ⟨e91, b9, e92⟩ := e9; replace e91 := Eq.symm e91; subst e91; subst e92; (try dsimp only); (try k_sweep); cases b9; walk_say "MAYGO")
  k_with "call ref mine" => (k_here; k_dflt (show wpAny _ _ (call (Value.ref 621) _) _ _ _); ktr_rel; intro v9 n9 h9 tk9 e9 F9 N9; obtain ⟨w9, o9, e91, a9, seq9, ts9, oc9, to9, il9, hf9, cn9, k9, t19, t29, e92, e93, e94, e95, e96, e97, e98⟩ := e9; subst e91; subst e92; subst e93; subst e98; replace e94 := allLt_of e94; simp only [AllLt, and_true] at e94; (rename KHid _ => hD9); (cases hf9); (rotate_left); (obtain ⟨e961, e962, e963⟩ := e96 rfl; clear e96 hD9; simp only [b2i, if_true] at e97; (try simp only [List.nil_append, List.cons_append] at N9); (try dsimp only); (try k_sweep); skip); (rotate_left); (clear e96; simp only [b2i, Bool.false_eq_true, if_false, Int.add_zero] at e97; (try simp only [List.nil_append, List.cons_append] at N9); (try dsimp only); (try k_sweep); (have hG9 := kGo)); walk_say "PIECE")
  k_with "call ref mine" => (k_here; k_dflt (first | show wpAny _ _ (call (Value.ref 747) _) _ _ _ | show wpAny _ _ (call (Value.ref 779) _) _ _ _ | show wpAny _ _ (call (Value.ref 179) _) _ _ _ | show wpAny _ _ (call (Value.ref 88) _) _ _ _); ktr_rel; intro v9 n9 h9 tk9 e9 F9 N9; obtain ⟨e91, a9, e92⟩ := e9; replace e91 := Eq.symm e91; subst e91; subst e92; (try dsimp only); (try k_sweep); walk_say "MADE")
  k_with "call ref mine" => (k_here; k_dflt (show wpAny _ _ (call (Value.ref 680) _) _ _ _); ktr_rel; intro v9 n9 h9 tk9 e9 F9 N9; k_dflt (obtain ⟨x9, dx9, p9, dp9, q9, dq9, e92, kt9, kp9, kq9, th9, t19, t29, t39, e91, l91, l92, l93, l94, l95, l96⟩ := e9); subst e91; subst e92; replace l91 := allLt_of l91; (try simp only [AllLt, and_true] at l91); (try dsimp only); (try k_sweep); walk_say "SENDER")
  k_with "call ref mine" => (k_here; k_dflt (show wpAny _ _ (call (Value.ref 811) _) _ _ _); ktr_rel; intro v9 n9 h9 tk9 e9 F9 N9; k_dflt (obtain ⟨t9, dt9, x9, dx9, p9, dp9, q9, dq9, e92, kt9, ks9, kp9, kq9, th9, t19, t29, t39, a09, a19, a29, a39, a59, a69, a79, a89, a99, a109, a119, a129, a139, e91, l90, l91, l92, l93, l94, l95, l96, l97⟩ := e9); subst e91; subst e92; (have l98 := fun p hp => Nat.lt_trans (l90 p hp) (Nat.lt_trans l91 l92)); (have l99 := fun p hp => Nat.lt_trans (l98 p hp) (Nat.lt_trans l93 l94)); (have l9a := fun p hp => Nat.lt_trans (l99 p hp) (Nat.lt_trans l95 l96)); replace l90 := allLt_of l90; replace l98 := allLt_of l98; replace l99 := allLt_of l99; replace l9a := allLt_of l9a; (try simp only [AllLt, and_true] at l90); (try simp only [AllLt, and_true] at l98); (try simp only [AllLt, and_true] at l99); (try simp only [AllLt, and_true] at l9a); (try dsimp only); (try k_sweep); walk_say "TCB")
  k_with "call ref mine" => (k_here; k_dflt (show wpAny _ _ (call (Value.ref 599) _) _ _ _); ktr_rel; intro v9 n9 h9 tk9 e9 F9 N9; obtain ⟨w9, o9, e91, e92, t9, u9, e93⟩ := e9; subst e91; subst e92; subst e93; (try dsimp only at N9); (try simp only [List.nil_append, List.cons_append] at N9); (try dsimp only); (try k_sweep); walk_say "START")
  k_with "call ref mine" => (k_here; k_dflt (show wpAny _ _ (call (Value.ref 677) _) _ _ _); ktr_rel; intro v9 n9 h9 tk9 e9 F9 N9; obtain ⟨w9, o91, o92, e91, e92, ⟨t9, e93⟩, u9, e94⟩ := e9; subst e91; subst e92; subst e93; subst e94; (try dsimp only at N9); (try simp only [List.nil_append, List.cons_append] at N9); (try dsimp only); (try k_sweep); walk_say "ACKED")
  k_with "call ref mine" => (k_here; k_dflt (show wpAny _ _ (call (Value.ref 522) _) _ _ _); ktr_rel; intro v9 n9 h9 tk9 e9 F9 N9; obtain ⟨w9, o9, e91, e92, mo9, t9, e93⟩ := e9; subst e91; subst e92; subst e93; (try dsimp only at N9); (try simp only [List.nil_append, List.cons_append] at N9); (try dsimp only); (try k_sweep); walk_say "TAKE")
  k_with "call ref mine" => (k_here; k_dflt (show wpAny _ _ (call (Value.ref 529) _) _ _ _); ktr_rel; intro v9 n9 h9 tk9 e9 F9 N9; obtain ⟨w9, o9, e91, e92, held9, t9, e93, z9⟩ := e9; subst e91; subst e92; subst e93; (try simp only [Array.size_replicate] at z9); (try dsimp only at N9); (try simp only [List.nil_append, List.cons_append] at N9); (try dsimp only); (try k_sweep); walk_say "PUT")
  k_with "call ref mine" => (k_here; k_dflt (show wpAny _ _ (call (Value.ref 649) _) _ _ _); ktr_rel; intro v9 n9 h9 tk9 e9 F9 N9; obtain ⟨w9, o9, e91, e92, e93⟩ := e9; subst e91; subst e92; subst e93; (try dsimp only at N9); (try simp only [List.nil_append, List.cons_append] at N9); (try dsimp only); (try k_sweep); walk_say "BACK")
  k_with "call ref mine" => (k_here; k_dflt (show wpAny _ _ (call (Value.ref 28) _) _ _ _); ktr_rel; intro v9 n9 h9 tk9 e9 F9 N9; obtain ⟨e91, e92⟩ := e9; replace e91 := Eq.symm e91; subst e91; subst e92; (try dsimp only); (try k_sweep); walk_say "ALLSENT")
  k_with "call ref mine" => (k_here; k_dflt (show wpAny _ _ (call (Value.ref 35) _) _ _ _); ktr_rel; intro v9 n9 h9 tk9 e9 F9 N9; obtain ⟨e91, t9, e92⟩ := e9; replace e91 := Eq.symm e91; subst e91; subst e92; (try dsimp only); (try k_sweep); walk_say "RESET")
  k_with "call ref mine" => (k_here; k_dflt (show wpAny _ _ (call (Value.ref 768) _) _ _ _); ktr_rel; intro v9 n9 h9 tk9 e9 F9 N9; obtain ⟨l9, dl9, kl9, tt9, e91, e92, l91, l92⟩ := e9; subst e91; subst e92; replace l91 := allLt_of l91; (try simp only [AllLt, and_true] at l91); (try dsimp only); (try k_sweep); walk_say "LIMITS")
  k_with "call ref mine" => (k_here; k_dflt (show wpAny _ _ (call (Value.ref 614) _) _ _ _); ktr_rel; intro v9 n9 h9 tk9 e9 F9 N9; k_dflt (obtain ⟨w9, o9, e91, l9, cn9, its9, k9, t19, t29, e92, e93, e94, e95, e96, e97, e98⟩ := e9); subst e91; subst e92; subst e93; subst e98; (try dsimp only at N9); (try dsimp only); (obtain ⟨b9, hb9⟩ : ∃ b, b = anyP its9 := ⟨_, rfl⟩); rw [← hb9] at N9; walk_say "PIECES")
  k_with "call ref mine" => (k_here; k_dflt (first | show wpAny _ _ (call (Value.ref 829) _) _ _ _ | show wpAny _ _ (call (Value.ref 836) _) _ _ _); ktr_rel; intro v9 n9 h9 tk9 e9 F9 N9; k_dflt (first | (obtain ⟨w9, o9, e91, e92, d9, t9, a9, b9, ta9, tb9, c9, e93, l91, l92, e94, l93, l94, l95⟩ := e9; subst e91; subst e92; subst e93; subst e94) | (obtain ⟨w9, o9, e91, e92, d9, t9, a9, b9, ta9, tb9, c9, e93, l91, e94, l93, l94, l95⟩ := e9; subst e91; subst e92; subst e93; subst e94)); (try dsimp only at N9); (try simp only [List.nil_append, List.cons_append] at N9); (try dsimp only); (try k_sweep); walk_say "TAKEN")
  k_with "call ref mine" => (k_here; k_dflt (show wpAny _ _ (call (Value.ref 843) _) _ _ _); ktr_rel; intro v9 n9 h9 tk9 e9 F9 N9; obtain ⟨e91, e92⟩ := e9; replace e91 := Eq.symm e91; subst e91; subst e92; (try dsimp only); (try k_sweep); walk_say "RIGHT")
  w_on
  o_law
  k_head
  (case hw => w_witness2)
  have flight_c : ∀ w, FlightC Mine.hd.heap_1_39 Mine.hd.view_1_40 (looseW Mine.hd.view_1_40 [Str.ofString "Sender", Str.ofString "Tcb"]) w := by
    intro w
    intro news x dx p q' kt iss mss great syn fa fs r una k tr tu tn h0 hr h1 h2
    unfold Meets
    k_fill
    intros
    rename_i hret
    refine wpAny_call ?_
    k_dflt cell_enter
    k_steps
    all_goals (refine hret _ _ _ _ ⟨rfl, _, vint (wayF h0 hr)⟩ (by assumption) (by assumption))
  have usable_c : ∀ w, UsableC Mine.hd.heap_1_39 Mine.hd.view_1_40 (looseW Mine.hd.view_1_40 [Str.ofString "Sender", Str.ofString "Tcb"]) w := by
    intro w
    have h_flight_c := @flight_c w
    clear flight_c
    intro news x dx p dp q' kt kp iss mss great syn fa fs ring most tseq tack r una k W c M tr tu tn tw tc h0 hr hM hkM h1 h2 h3 h4
    unfold Meets
    k_fill
    intros
    rename_i hret
    refine wpAny_call ?_
    k_dflt cell_enter
    k_steps
    all_goals (refine hret _ _ _ _ ?_ (by assumption) (by assumption); exact ⟨rfl, _, vint (by (try simp only [Bool.false_eq_true, if_false]); omega)⟩)
  have data_c : ∀ w, DataC Mine.hd.heap_1_39 Mine.hd.view_1_40 (looseW Mine.hd.view_1_40 [Str.ofString "Sender", Str.ofString "Tcb"]) w := by
    intro w
    have h_flight_c := @flight_c w
    clear usable_c flight_c
    intro news x dx p q' dq kt kq iss mss great fa fs room r una k tr tu tn held th h0 hr hz h1 h2 h3 h4
    unfold Meets
    k_fill
    intros
    rename_i hret
    refine wpAny_call ?_
    k_dflt cell_enter
    k_steps
    all_goals (refine hret _ _ _ _ ?_ (by assumption) (by assumption); exact ⟨rfl, _, vint (by (try simp only [Bool.false_eq_true, if_false]); omega)⟩)
  have unsent_c : ∀ w, UnsentC Mine.hd.heap_1_39 Mine.hd.view_1_40 (looseW Mine.hd.view_1_40 [Str.ofString "Sender", Str.ofString "Tcb"]) w := by
    intro w
    have h_data_c := @data_c w
    clear data_c usable_c flight_c
    intro news x dx p q' dq kt kq iss mss great fa fs room r una k tr tu tn held th h0 hr hz h1 h2 h3 h4
    unfold Meets
    k_fill
    intros
    rename_i hret
    refine wpAny_call ?_
    k_dflt cell_enter
    k_steps
    all_goals (refine hret _ _ _ _ ?_ (by assumption) (by assumption); exact ⟨rfl, _, vint (by omega)⟩)
  have findue_c : ∀ w, FinDueC Mine.hd.heap_1_39 Mine.hd.view_1_40 (looseW Mine.hd.view_1_40 [Str.ofString "Sender", Str.ofString "Tcb"]) w := by
    intro w
    have h_flight_c := @flight_c w
    clear unsent_c data_c usable_c flight_c
    intro news x dx p q' dq kt kq iss mss room fa fs r una k great tr tu tn tg held th h0 hr hz hfs h1 h2 h3 h4
    unfold Meets
    k_fill
    intros
    rename_i hret
    refine wpAny_call ?_
    k_dflt cell_enter
    cases fa <;> cases fs
    all_goals (try have hz0 := hfs rfl)
    all_goals k_steps
    all_goals (refine hret _ _ _ _ ?_ (by assumption) (by assumption); exact ⟨rfl, vbool (by (try simp only [Bool.false_eq_true, if_false, Int.add_zero]); first | rfl | (simp; omega) | simp)⟩)
  have maygo_c : ∀ w, MayGoC Mine.hd.heap_1_39 Mine.hd.view_1_40 (looseW Mine.hd.view_1_40 [Str.ofString "Sender", Str.ofString "Tcb"]) w := by
    intro w
    have h_flight_c := @flight_c w
    have h_unsent_c := @unsent_c w
    clear findue_c unsent_c data_c usable_c flight_c
    intro news x dx p dp q' dq kt kp kq iss great fa fs room ring size tseq tack r una k ms many mo tr tu tn tms tmo tm held th h0 hr hz h1 h2 h3 h4 h5 h6
    unfold Meets
    k_fill
    intros
    rename_i hret
    refine wpAny_call ?_
    k_dflt cell_enter
    k_steps
    all_goals (refine hret _ _ _ _ ?_ (by assumption) (by assumption); exact ⟨rfl, _, rfl⟩)
  have goon_c : ∀ w, GoOnC Mine.hd.heap_1_39 Mine.hd.view_1_40 (looseW Mine.hd.view_1_40 [Str.ofString "Sender", Str.ofString "Tcb"]) w := by
    intro w
    clear maygo_c findue_c unsent_c data_c usable_c flight_c
    intro news g x dx p q' kt iss mss syn fa fs r una k m tr tu tn tg tm h0 hm hr U h1 hne
    refine Meets.upd U fun rest hrest hs => ?_
    have e2 : ((una + k) % r + m).fmod r = (una + (k + m)) % r := by rw [fm (by omega), step]
    have e1 : (((una + k) % r + m).fmod r - (una + k) % r).fmod r = m := by rw [e2, fm (by omega), way2 (by omega) (by omega)]
    have h1' : (x, instObj 680 dx) ∈ rest := hs _ h1 hne
    unfold Meets
    k_fill
    intros
    rename_i hret
    refine wpAny_call ?_
    k_dflt cell_enter
    k_steps
    · rename News _ _ _ _ => zN
      rw [e2] at zN
      refine hret _ _ _ _ ⟨[], _, rfl, rfl, rfl, _, _, rfl⟩ (by assumption) zN
  have part_c : ∀ w, PartC Mine.hd.heap_1_39 Mine.hd.view_1_40 (looseW Mine.hd.view_1_40 [Str.ofString "Sender", Str.ofString "Tcb"]) w := by
    intro w
    clear goon_c maygo_c findue_c unsent_c data_c usable_c flight_c
    intro news q' dq kq room held at' many th ta tm h0 hm hle hz h1 h2
    have hsz : (KBw.bInts held).length ≤ 16777216 := by rw [KBw.ints_length]; omega
    unfold Meets
    k_fill
    intros
    rename_i hret
    refine wpAny_call ?_
    k_dflt cell_enter
    k_steps
    all_goals (refine hret _ _ _ _ ?_ (by assumption) (by assumption); exact ⟨rfl, _, _, rfl, pick_size h0 hm hle⟩)
  have piece_c : ∀ w, PieceC Mine.hd.heap_1_39 Mine.hd.view_1_40 (looseW Mine.hd.view_1_40 [Str.ofString "Sender", Str.ofString "Tcb"]) w := by
    intro w
    have h_usable_c := @usable_c w
    have h_data_c := @data_c w
    have h_unsent_c := @unsent_c w
    have h_goon_c := @goon_c w
    have h_part_c := @part_c w
    clear part_c goon_c maygo_c findue_c unsent_c data_c usable_c flight_c
    intro news g x dx p dp q' dq kt kp kq iss mss ring most tseq tack room fa r una k W c M many tr tu tn tg tw tc tm held th h0 hk hr hz hm hm2 hM hkM h1 U h2 h3 h4 h5 n1 n2 n3 n4 n5
    refine Meets.upd U fun rest hrest hs => ?_
    have h1' := hs _ h1 n1
    have h2' := hs _ h2 n2
    have h3' := hs _ h3 n3
    have h4' := hs _ h4 n4
    have h5' := hs _ h5 n5
    have kMark := kstMark
    unfold Meets
    k_fill
    intros
    rename_i hret
    refine wpAny_call ?_
    k_dflt cell_enter
    k_steps
    all_goals
      rename _ ∧ AllLt _ _ => zL
      refine hret _ _ _ _ ⟨[(_, _)], _, rfl, _, _, _, _, _, _, _, _, _, _, _, rfl, rfl, ?_, by assumption, ?_, ?_, rfl⟩ (by assumption) (by assumption)
      · intro p hp
        by_cases hpd : p.1 = dx
        · rw [hpd]; exact zL.1
        · exact kst_ltOf zL.2 p (hs p hp hpd)
      · intro hh
        first
          | exact ⟨by assumption, by omega, of_decide_eq_true hh⟩
          | (exfalso; rename fa = false => zF; rw [zF] at hh; cases hh)
          | (exfalso; rw [beq_iff_eq] at hh; contradiction)
      · rw [Int.add_assoc]
  have pieces_c : ∀ w, PiecesC Mine.hd.heap_1_39 Mine.hd.view_1_40 (looseW Mine.hd.view_1_40 [Str.ofString "Sender", Str.ofString "Tcb"]) w := by
    intro w
    have h_usable_c := @usable_c w
    have h_unsent_c := @unsent_c w
    have h_findue_c := @findue_c w
    have h_maygo_c := @maygo_c w
    have h_goon_c := @goon_c w
    have h_piece_c := @piece_c w
    clear piece_c part_c goon_c maygo_c findue_c unsent_c data_c usable_c flight_c
    intro news g x dx p dp q' dq kt kp kq iss ring tseq tack room fa r una W c mo tr tu tn tg tw tc tms tmo held th hr hz hW hc h1 U h2 h3 h4 h5 n1 n2 n3 n4 n5
    refine Meets.upd U fun rest hrest hs => ?_
    have h1' := hs _ h1 n1
    have h2' := hs _ h2 n2
    have h3' := hs _ h3 n3
    have h4' := hs _ h4 n4
    have h5' := hs _ h5 n5
    have kMark := kstMark
    obtain ⟨M, hM⟩ : ∃ M, M = min W c := ⟨_, rfl⟩
    have hM1 : 1 ≤ M := by omega
    unfold Meets
    k_fill
    intros
    rename_i hret
    refine wpAny_call ?_
    k_dflt (refine' code_def ?k1 ?k2 ?k3 ?k4 ?k5 ?kA ?kF ?kK ?k6 ?k7 ?k8 ?k9 ?kB ?_ ?c2 ?c3 ?c4 ?c5; (case kA => exact rfl); (case kF => exact rfl); (case kK => assumption); (case k1 => k_asm); (case k2 => k_asm); (case k3 => k_asm); (case k4 => k_asm); (case k5 => k_asm); (case k6 => k_is); (case k7 => k_is); (case k8 => ktr_room); (case k9 => first | exact BindsTo.of_eq rfl | exact binds_K (by k_in) rfl (by k_is) rfl rfl rfl); (case c5 => decide); (case kB => exact locs rfl); (case c2 => exact rfl); (case c3 => exact rfl); (case c4 => exact rfl); k_whole; intro g' L' h' FG' F' N' B' X' T'; (try dsimp only); (try k_lift B'); (try k_fold))
    k_steps
    refine ⟨?_⟩
    rename Fr _ _ _ _ => zF
    rename News _ _ _ _ => zN
    rename _ < _ ∧ AllLt _ _ => zL
    refine while_ind (β := List Pc × Int) (PInv g' L' _ w kt iss r tr tms una tu p q' fa held.size M _ dx rest) (fun b => (held.size - b.2).toNat) ?hE ?turn ([], 0) _ _ ⟨none, [], _, _, _, rest, fr_many zF rfl, zN, rfl, Nat.zero_le _, Int.le_refl _, Int.natCast_nonneg _, by omega, rfl, rfl, ⟨.inl rfl⟩, fun p hp => Nat.ne_of_lt (kst_ltOf zL.2 p hp), hrest, zL.1, fun _ h => h, fun _ h => nomatch h⟩
    case hE => first | passes_own | with_unfolding_all passes_own
    case turn =>
      clear zF zN zL
      intro b h tk hI IH
      obtain ⟨u, vs, cn, t1, t2, T, zF, zN, hvs, hlen, hb0, hb1, hb2, hsum, hany, hhid, hTl, hTd, hdl, hrT, hiT⟩ := hI
      replace hdl := ltN hdl
      have h1T := hrT _ h1'
      have h2T := hrT _ h2'
      have h3T := hrT _ h3'
      have h4T := hrT _ h4'
      have h5T := hrT _ h5'
      clear h1' h2' h3' h4' h5'
      k_steps
      all_goals first
        | (refine hret _ _ _ _ (pieces_R b.1 ?_ hsum hb0 ?_ hany) (by assumption) (end_same (by assumption) hvs hrT hiT)
           · have hll := congrArg List.length hvs
             rw [List.length_map] at hll
             omega
           · omega)
        | (refine hret _ _ _ _ (pieces_R (b.1 ++ [_]) ?_ ?_ ?_ ?_ ?_) (by assumption) (end_push (by assumption) hvs hrT hiT)
           · have hll := congrArg List.length hvs
             rw [List.length_map] at hll
             rw [List.length_append, List.length_singleton]
             omega
           · rw [sumP_app, ← hsum]
             simp only [b2i, if_true]
             first | omega | (simp; done)
           · omega
           · omega
           · rw [anyP_app, hany]; rfl)
        | (refine ⟨?_⟩
           refine IH _ _ _ ?_ (pinv_step (by assumption) (by assumption) hvs (by omega) hb0 hsum hany hhid (by assumption) (by omega) (by omega) (by omega) (by omega) (by assumption) (by assumption) hTl hTd hdl (by rename _ ∧ _ ∧ AllLt _ _ => zz; exact zz.1) hrT hiT)
           show (held.size - _ : Int).toNat < (held.size - b.2).toNat
           omega)
  have wheel_c : ∀ w, WheelC Mine.hd.heap_1_39 Mine.hd.view_1_40 (looseW Mine.hd.view_1_40 [Str.ofString "Sender", Str.ofString "Tcb"]) w := by
    intro w
    clear pieces_c piece_c part_c goon_c maygo_c findue_c unsent_c data_c usable_c flight_c
    intro news
    have kMark := kstMark
    unfold Meets
    k_fill
    intros
    rename_i hret
    k_steps
    all_goals (refine hret _ _ _ _ ⟨rfl, _, rfl⟩ (by assumption) (kst_newsOf (by assumption) (by kcf_all)))
  have clock_c : ∀ w, ClockC Mine.hd.heap_1_39 Mine.hd.view_1_40 (looseW Mine.hd.view_1_40 [Str.ofString "Sender", Str.ofString "Tcb"]) w := by
    intro w
    clear wheel_c pieces_c piece_c part_c goon_c maygo_c findue_c unsent_c data_c usable_c flight_c
    intro news l dl kl tt r tr h1 h2
    have kMark := kstMark
    unfold Meets
    k_fill
    intros
    rename_i hret
    k_steps
    all_goals (refine hret _ _ _ _ ⟨rfl, _, rfl⟩ (by assumption) (kst_newsOf (by assumption) (by kcf_all)))
  have cong_c : ∀ w, CongC Mine.hd.heap_1_39 Mine.hd.view_1_40 (looseW Mine.hd.view_1_40 [Str.ofString "Sender", Str.ofString "Tcb"]) w := by
    intro w
    clear clock_c wheel_c pieces_c piece_c part_c goon_c maygo_c findue_c unsent_c data_c usable_c flight_c
    intro news a b c
    have kMark := kstMark
    unfold Meets
    k_fill
    intros
    rename_i hret
    k_steps
    all_goals (refine hret _ _ _ _ ⟨rfl, _, rfl⟩ (by assumption) (kst_newsOf (by assumption) (by kcf_all)))
  have acks_c : ∀ w, AcksC Mine.hd.heap_1_39 Mine.hd.view_1_40 (looseW Mine.hd.view_1_40 [Str.ofString "Sender", Str.ofString "Tcb"]) w := by
    intro w
    clear cong_c clock_c wheel_c pieces_c piece_c part_c goon_c maygo_c findue_c unsent_c data_c usable_c flight_c
    intro news a
    have kMark := kstMark
    unfold Meets
    k_fill
    intros
    rename_i hret
    k_steps
    all_goals (refine hret _ _ _ _ ⟨rfl, _, rfl⟩ (by assumption) (kst_newsOf (by assumption) (by kcf_all)))
  have sndnew_c : ∀ w, SndNewC Mine.hd.heap_1_39 Mine.hd.view_1_40 (looseW Mine.hd.view_1_40 [Str.ofString "Sender", Str.ofString "Tcb"]) w := by
    intro w
    clear acks_c cong_c clock_c wheel_c pieces_c piece_c part_c goon_c maygo_c findue_c unsent_c data_c usable_c flight_c
    intro news iss r ti tr tms trm
    have kMark := kstMark
    unfold Meets
    k_fill
    intros
    rename_i hret
    k_steps
    obtain ⟨n9, hm9, hN9⟩ := snd_made (by assumption) (by assumption) (by omega) (by omega) (by omega) (by omega) (by omega)
    exact hret _ _ _ _ ⟨_, _, _, _, _, _, rfl, hm9⟩ (by assumption) hN9
  have tcb_c : ∀ w, TcbC Mine.hd.heap_1_39 Mine.hd.view_1_40 (looseW Mine.hd.view_1_40 [Str.ofString "Sender", Str.ofString "Tcb"]) w := by
    intro w
    have h_wheel_c := @wheel_c w
    have h_clock_c := @clock_c w
    have h_cong_c := @cong_c w
    have h_acks_c := @acks_c w
    have h_sndnew_c := @sndnew_c w
    clear sndnew_c acks_c cong_c clock_c wheel_c pieces_c piece_c part_c goon_c maygo_c findue_c unsent_c data_c usable_c flight_c
    intro news l dl b1 b2 kl tt iss r ti tr h1 h2
    have kMark := kstMark
    unfold Meets
    k_fill
    intros
    rename_i hret
    k_steps
    rename _ < _ ∧ _ < _ ∧ AllLt _ _ => zL
    obtain ⟨n9, hm9, hN9⟩ := tcb_made (by assumption) (by assumption) (by omega) zL.1 (by omega) (by omega) (by omega) (by omega) (by omega)
    exact hret _ _ _ _ ⟨_, _, _, _, _, _, _, _, rfl, hm9⟩ (by assumption) hN9
  have limits_c : ∀ w, LimitsC Mine.hd.heap_1_39 Mine.hd.view_1_40 (looseW Mine.hd.view_1_40 [Str.ofString "Sender", Str.ofString "Tcb"]) w := by
    intro w
    clear tcb_c sndnew_c acks_c cong_c clock_c wheel_c pieces_c piece_c part_c goon_c maygo_c findue_c unsent_c data_c usable_c flight_c
    intro news r tr t1 t2 t3 t4 t5 t6 t7 t8 t9
    have kMark := kstMark
    unfold Meets
    k_fill
    intros
    rename_i hret
    k_steps
    obtain ⟨kl, tt, hN⟩ := limits_made (by assumption)
    exact hret _ _ _ _ ⟨_, _, kl, tt, rfl, rfl, by assumption, by assumption⟩ (by assumption) hN
  have start_c : ∀ w, StartC Mine.hd.heap_1_39 Mine.hd.view_1_40 (looseW Mine.hd.view_1_40 [Str.ofString "Sender", Str.ofString "Tcb"]) w := by
    intro w
    have h_goon_c := @goon_c w
    clear limits_c tcb_c sndnew_c acks_c cong_c clock_c wheel_c pieces_c piece_c part_c goon_c maygo_c findue_c unsent_c data_c usable_c flight_c
    intro news g x dx p q' kt mss fa fs r iss tr ti tu tn tg h0 h1 hr hx U hne
    refine Meets.upd U fun rest hrest hs => ?_
    have hx' := hs _ hx hne
    have kMark := kstMark
    unfold Meets
    k_fill
    intros
    rename_i hret
    k_steps
    all_goals first
      | (exfalso; omega)
      | (refine hret _ _ _ _ ⟨[], _, rfl, rfl, _, _, rfl⟩ (by assumption) (by assumption))
  have acked_c : ∀ w, AckedC Mine.hd.heap_1_39 Mine.hd.view_1_40 (looseW Mine.hd.view_1_40 [Str.ofString "Sender", Str.ofString "Tcb"]) w := by
    intro w
    have h_flight_c := @flight_c w
    clear start_c limits_c tcb_c sndnew_c acks_c cong_c clock_c wheel_c pieces_c piece_c part_c goon_c maygo_c findue_c unsent_c data_c usable_c flight_c
    intro news g1 g2 x dx p q' dq kt kq issv mss fa fs room r iss f tr tu tn tg tf th h0 h1 hr hf hx hq U1 U2 n1 n2 n3 n4 n5
    refine Meets.upd2 U1 U2 n5 fun rest hr1 hr2 hs => ?_
    have hx' := hs _ hx n1 n3
    have hq' := hs _ hq n2 n4
    have kMark := kstMark
    replace n5 := neN n5
    have e1 : (f - iss).fmod r = 1 := by rw [hf]; exact wayF (by omega) (by omega)
    have e2 : ((iss + 1) % r - iss).fmod r = 1 := wayF (by omega) (by omega)
    have hsz : (KBw.bInts (#[] : Array UInt8)).length ≤ 16777216 := by rw [KBw.ints_length]; decide
    unfold Meets
    k_fill
    intros
    rename_i hret
    k_steps
    all_goals first
      | (exfalso; omega)
      | (rename News _ _ _ _ => zN
         rw [picked_nil] at zN
         refine hret _ _ _ _ ⟨[], _, _, rfl, rfl, ⟨_, rfl⟩, _, rfl⟩ (by assumption) (kst_newsOf zN (by kcf_all)))
  have take1_c : ∀ w, Take1C Mine.hd.heap_1_39 Mine.hd.view_1_40 (looseW Mine.hd.view_1_40 [Str.ofString "Sender", Str.ofString "Tcb"]) w := by
    intro w
    clear acked_c start_c limits_c tcb_c sndnew_c acks_c cong_c clock_c wheel_c pieces_c piece_c part_c goon_c maygo_c findue_c unsent_c data_c usable_c flight_c
    intro news g x dx p dp q' kt kp iss mss una next great syn fa fs r wd tr t1 t2 t3 ts ta tw a hx hp hs U n1 n2 n3
    refine Meets.upd U fun rest hrest hs' => ?_
    have hx' := hs' _ hx n1
    have hs'' := hs' _ hs n2
    have hp' := hs' _ hp n3
    have kMark := kstMark
    unfold Meets
    k_fill
    intros
    rename_i hret
    k_steps
    all_goals (refine hret _ _ _ _ ⟨[], _, rfl, rfl, _, _, rfl⟩ (by assumption) (by assumption))
  have take2_c : ∀ w, Take2C Mine.hd.heap_1_39 Mine.hd.view_1_40 (looseW Mine.hd.view_1_40 [Str.ofString "Sender", Str.ofString "Tcb"]) w := by
    intro w
    clear take1_c acked_c start_c limits_c tcb_c sndnew_c acks_c cong_c clock_c wheel_c pieces_c piece_c part_c goon_c maygo_c findue_c unsent_c data_c usable_c flight_c
    intro news g x dx p dp q' kt kp iss mss una next great syn fa fs r wd sz mo tr t1 t2 ts0 ts ta0 ta tw av a hr hx hp hs U n1 n2 n3
    refine Meets.upd U fun rest hrest hs' => ?_
    have hx' := hs' _ hx n1
    have hs'' := hs' _ hs n2
    have hp' := hs' _ hp n3
    have kMark := kstMark
    have e1 : ((6 : Int) - 5).fmod r = 1 := by rw [fm (by omega)]; exact Int.emod_eq_of_lt (by omega) (by omega)
    have e2 : (1 : Int).fmod r = 1 := by rw [fm (by omega)]; exact Int.emod_eq_of_lt (by omega) (by omega)
    have e3 : 1 < Int.fdiv r 2 := by rw [Int.fdiv_eq_ediv_of_nonneg _ (by omega)]; omega
    unfold Meets
    k_fill
    intros
    rename_i hret
    k_steps
    all_goals first
      | (exfalso; omega)
      | (refine hret _ _ _ _ ⟨[], _, rfl, rfl, _, _, rfl⟩ (by assumption) (by assumption))
  have put_c : ∀ w, PutC Mine.hd.heap_1_39 Mine.hd.view_1_40 (looseW Mine.hd.view_1_40 [Str.ofString "Sender", Str.ofString "Tcb"]) w := by
    intro w
    clear take2_c take1_c acked_c start_c limits_c tcb_c sndnew_c acks_c cong_c clock_c wheel_c pieces_c piece_c part_c goon_c maygo_c findue_c unsent_c data_c usable_c flight_c
    intro news g x dx q' dq kt kq iss ring mss una next great p syn fs b tb th trm hb hx hq hs U n1 n2 n3
    refine Meets.upd U fun rest hrest hs' => ?_
    have hx' := hs' _ hx n1
    have hs'' := hs' _ hs n2
    have hq' := hs' _ hq n3
    have kMark := kstMark
    have hsz : (KBw.bInts b).length ≤ 16777216 := by rw [KBw.ints_length]; omega
    unfold Meets
    k_fill
    intros
    rename_i hret
    k_steps
    all_goals
      refine hret _ _ _ _ ⟨[], _, rfl, rfl, _, _, rfl, ?_⟩ (by assumption) (by assumption)
      have hz0 : ((#[] : Array UInt8).size : Int) = 0 := rfl
      rw [if_neg (by omega), Array.size_append, picked_all]
      exact Nat.zero_add _
  have back_c : ∀ w, BackC Mine.hd.heap_1_39 Mine.hd.view_1_40 (looseW Mine.hd.view_1_40 [Str.ofString "Sender", Str.ofString "Tcb"]) w := by
    intro w
    have h_flight_c := @flight_c w
    clear put_c take2_c take1_c acked_c start_c limits_c tcb_c sndnew_c acks_c cong_c clock_c wheel_c pieces_c piece_c part_c goon_c maygo_c findue_c unsent_c data_c usable_c flight_c
    intro news g x dx p q' kt iss mss great syn fa fs r una k j tr tu tn ts h0 hj hk hx U hne
    refine Meets.upd U fun rest hrest hs => ?_
    have hx' := hs _ hx hne
    have kMark := kstMark
    have e1 : ((una + j) % r - una).fmod r = j := wayF h0 (by omega)
    unfold Meets
    k_fill
    intros
    rename_i hret
    k_steps
    all_goals first
      | (exfalso; omega)
      | (refine hret _ _ _ _ ⟨[], _, rfl, rfl, rfl⟩ (by assumption) (by assumption))
  have allsent_c : ∀ w, AllSentC Mine.hd.heap_1_39 Mine.hd.view_1_40 (looseW Mine.hd.view_1_40 [Str.ofString "Sender", Str.ofString "Tcb"]) w := by
    intro w
    clear back_c put_c take2_c take1_c acked_c start_c limits_c tcb_c sndnew_c acks_c cong_c clock_c wheel_c pieces_c piece_c part_c goon_c maygo_c findue_c unsent_c data_c usable_c flight_c
    intro news t dt x dx p q' dq kb kt kq a0 a1 a2 a3 a5 a6 a7 a8 a9 a10 a11 a12 a13 iss ring mss una next great syn fa room fs held th hz h1 h2 h3 h4 h5 h6
    have kMark := kstMark
    unfold Meets
    k_fill
    intros
    rename_i hret
    cases fs
    all_goals k_steps
    all_goals (refine hret _ _ _ _ ⟨rfl, ?_⟩ (by assumption) (by assumption); first | exact vbool rfl | rfl)
  have reset_c : ∀ w, ResetC Mine.hd.heap_1_39 Mine.hd.view_1_40 (looseW Mine.hd.view_1_40 [Str.ofString "Sender", Str.ofString "Tcb"]) w := by
    intro w
    clear allsent_c back_c put_c take2_c take1_c acked_c start_c limits_c tcb_c sndnew_c acks_c cong_c clock_c wheel_c pieces_c piece_c part_c goon_c maygo_c findue_c unsent_c data_c usable_c flight_c
    intro news x dx p dp q' kt kp iss ring mss una syn fa fs rg most tseq tack nx gr W tn tg tw h1 h2 h3 h4
    have kMark := kstMark
    unfold Meets
    k_fill
    intros
    rename_i hret
    k_steps
    all_goals (refine hret _ _ _ _ ?_ (by assumption) (by assumption); first | exact ⟨rfl, _, vint (if_pos (by assumption)).symm⟩ | exact ⟨rfl, _, vint (if_neg (by assumption)).symm⟩)
  have right_c : ∀ w, RightC Mine.hd.heap_1_39 Mine.hd.view_1_40 (looseW Mine.hd.view_1_40 [Str.ofString "Sender", Str.ofString "Tcb"]) w := by
    intro w
    have h_limits_c := @limits_c w
    have h_tcb_c := @tcb_c w
    have h_start_c := @start_c w
    have h_acked_c := @acked_c w
    have h_take1_c := @take1_c w
    have h_take2_c := @take2_c w
    have h_put_c := @put_c w
    have h_pieces_c := @pieces_c w
    have h_back_c := @back_c w
    have h_allsent_c := @allsent_c w
    have h_reset_c := @reset_c w
    clear reset_c allsent_c back_c put_c take2_c take1_c acked_c start_c limits_c tcb_c sndnew_c acks_c cong_c clock_c wheel_c pieces_c piece_c part_c goon_c maygo_c findue_c unsent_c data_c usable_c flight_c
    intro news gv wv r first g w0 w1 w2 rest fa tr tf tg t0 t1 t2 ts c1 c2 hr hf0 hf1 hg0 hg1 hw0 hw1 hw2 hrest hgv hwv
    have kMark := kstMark
    have hr256 : 256 ≤ r := by omega
    have hi0 : 0 ≤ (first - 1).fmod r := by rw [fm (by omega)]; exact Int.emod_nonneg _ (by omega)
    have hi1 : (first - 1).fmod r < r := by rw [fm (by omega)]; exact Int.emod_lt_of_pos _ (by omega)
    have hfi : first = ((first - 1).fmod r + 1) % r := by
      rw [fm (by omega), Int.emod_add_emod, show first - 1 + 1 = first from by omega]
      exact (Int.emod_eq_of_lt hf0 hf1).symm
    have hfz : ((first - 1).fmod r + 1) % r = (first + 0) % r := by
      rw [← hfi, Int.add_zero]; exact (Int.emod_eq_of_lt hf0 hf1).symm
    have kg := kGo
    unfold Meets
    k_fill
    intros
    rename_i hret
    k_steps
    refine ⟨?_⟩
    rename Fr _ _ _ _ => zF
    rename News _ _ _ _ => zN
    refine' if_cut hgv ?hx ?U zF zN ?h1 ?h2
    case hx => k_mem
    case U => k_updF
    case h1 =>
      rename KGo => kg
      clear kg
      cases fa
      all_goals k_steps
      all_goals assumption
    case h2 =>
      rename KGo => kg
      clear kg zF zN
      intro h8 tk8 zF zN
      (try dsimp only at zN)
      k_steps
      refine ⟨?_⟩
      rename Fr _ _ _ _ => zF
      rename News _ _ _ _ => zN
      rename _ = sumP _ => zS
      rename _ = anyP _ => zB
      refine' loop_pcs zS zB (by assumption) ?hh zF zN ?turn ?fin
      case hh => exact rfl
      case turn =>
        clear zF zN
        intro a seq ts o to il hf c k b u1 u2 u3 u4 t I it N0 h tk ho hc hI zF zN
        cases hf <;> cases b
        all_goals k_steps
        all_goals
          rename Fr _ _ _ _ => zF9
          refine ⟨_, _, _, N0, rfl, zF9, kst_newsOf (by assumption) ?sub, fun p hp q hq => ?ne, rfl, _, _, _, _, _, LM_turn2.trans (LM_eq (Int.add_assoc _ _ _) rfl)⟩
          case sub =>
            intro p hp
            rcases List.mem_cons.mp hp with h | h
            · rw [h]; exact .tail _ (.tail _ (.head _))
            · exact .tail _ (.tail _ (.tail _ h))
          case ne => rw [List.mem_singleton.mp hq]; exact Nat.ne_of_lt (hI p hp)
      case fin =>
        clear zF zN
        intro u1 u2 u3 u4 t h tk zF zN
        have hbb := back_bounds zS (by assumption) hrest
        dsimp only [LM] at zF
        k_steps
        all_goals first
          | (exfalso; exact abs1 (by assumption) (by assumption))
          | (exfalso; exact abs2 (by assumption) (by assumption) (by assumption) hg0)
          | exact hret _ _ _ _ ⟨rfl, vbool (veq1 hr256 (by assumption))⟩ (by assumption) (kst_newsOf (by assumption) (by kcf_all))
          | exact hret _ _ _ _ ⟨rfl, vbool (veq2 (by assumption))⟩ (by assumption) (kst_newsOf (by assumption) (by kcf_all))
  have ltake_c : ∀ w, TakeC Mine.hd.heap_1_39 Mine.hd.view_1_40 (looseW Mine.hd.view_1_40 [Str.ofString "Sender", Str.ofString "Tcb"]) w := by
    intro w
    clear right_c reset_c allsent_c back_c put_c take2_c take1_c acked_c start_c limits_c tcb_c sndnew_c acks_c cong_c clock_c wheel_c pieces_c piece_c part_c goon_c maygo_c findue_c unsent_c data_c usable_c flight_c
    intro news g sv a b top ta tb tt c ha hb0 hb1 ht0 ht1 U
    refine Meets.upd U fun rest hrest hs => ?_
    have kMark := kstMark
    unfold Meets
    k_fill
    intros
    rename_i hret
    k_steps
    all_goals first
      | (refine hret _ _ _ _ ⟨[], _, rfl, rfl, _, _, a.fdiv top, b, _, _, _, rfl, f_lo ht0, f_hi ht0, rfl, d_lo ha ht0, hb0, hb1⟩ (by assumption) (by assumption); done)
      | (refine hret _ _ _ _ ⟨[], _, rfl, rfl, _, _, a, (b * 39373 + 7).fmod 2147483647, _, _, _, rfl, f_lo ht0, f_hi ht0, rfl, ha, f_lo (by omega), f_hi (by omega)⟩ (by assumption) (by assumption); done)
  have one2_c : ∀ w, One2C Mine.hd.heap_1_39 Mine.hd.view_1_40 (looseW Mine.hd.view_1_40 [Str.ofString "Sender", Str.ofString "Tcb"]) w := by
    intro w
    have h_ltake_c := @ltake_c w
    clear ltake_c right_c reset_c allsent_c back_c put_c take2_c take1_c acked_c start_c limits_c tcb_c sndnew_c acks_c cong_c clock_c wheel_c pieces_c piece_c part_c goon_c maygo_c findue_c unsent_c data_c usable_c flight_c
    intro news g sv tv a b ta tb t1 t2 c c' ha hb0 hb1 U ht hne
    refine Meets.upd U fun rest hrest hs => ?_
    have ht' := hs _ ht hne
    have kMark := kstMark
    unfold Meets
    k_fill
    intros
    rename_i hret
    k_steps
    all_goals (refine hret _ _ _ _ ⟨[], _, rfl, rfl, _, _, _, _, _, _, _, rfl, ?_, rfl, ?_, ?_, ?_⟩ (by assumption) (by assumption) <;> first | assumption | exact .inl rfl | exact .inr rfl)
  have one4_c : ∀ w, One4C Mine.hd.heap_1_39 Mine.hd.view_1_40 (looseW Mine.hd.view_1_40 [Str.ofString "Sender", Str.ofString "Tcb"]) w := by
    intro w
    have h_ltake_c := @ltake_c w
    clear one2_c ltake_c right_c reset_c allsent_c back_c put_c take2_c take1_c acked_c start_c limits_c tcb_c sndnew_c acks_c cong_c clock_c wheel_c pieces_c piece_c part_c goon_c maygo_c findue_c unsent_c data_c usable_c flight_c
    intro news g sv tv a b ta tb t1 t2 t3 t4 c c' ha hb0 hb1 U ht hne
    refine Meets.upd U fun rest hrest hs => ?_
    have ht' := hs _ ht hne
    have kMark := kstMark
    unfold Meets
    k_fill
    intros
    rename_i hret
    k_steps
    all_goals (refine hret _ _ _ _ ⟨[], _, rfl, rfl, _, _, _, _, _, _, _, rfl, ?_, rfl, ?_, ?_, ?_⟩ (by assumption) (by assumption) <;> first | assumption | omega)
  (law_purse 8000000 => k_go0)
  (all_goals try k_fold)
  rename World => ww
  have h_right_c := @right_c ww
  have h_ltake_c := @ltake_c ww
  have h_one2_c := @one2_c ww
  have h_one4_c := @one4_c ww
  clear one4_c one2_c ltake_c right_c reset_c allsent_c back_c put_c take2_c take1_c acked_c start_c limits_c tcb_c sndnew_c acks_c cong_c clock_c wheel_c pieces_c piece_c part_c goon_c maygo_c findue_c unsent_c data_c usable_c flight_c
  refine let_cut ?_
  intro qk ek
  have kg := kGo
  k_steps
  refine ⟨?_⟩
  rename KGo => kg
  clear kg
  rename Fr _ _ _ _ => zF
  refine pool_cut zF ?h1 ?h2
  case h1 =>
    k_steps
    all_goals exact pool_end (by assumption) (by assumption) pool_a
  case h2 =>
    clear zF
    intro l a b ta tb c h8 tk8 ha hb0 hb1 zF zN
    have kg := kGo
    k_steps
    refine ⟨?_⟩
    rename KGo => kg
    clear kg
    rename Fr _ _ _ _ => zF
    rename News _ _ _ _ => zN
    rename IsRange _ _ _ _ _ _ _ _ => zR
    refine law_loop (by exact rfl) zR zF zN ha hb0 hb1 ?turn ?fin
    case turn =>
      clear zF zN zR ha hb0 hb1
      intro it I k t h tk u1 u2 u3 u4 u5 a b ta tb c hc hl ha hb0 hb1 zF zN
      k_steps
      refine ⟨?_⟩
      rename Fr _ _ _ _ => zF9
      rename News _ _ _ _ => zN9
      exact law_end zF9 zN9 (by k_mem) (by k_mem) hl LW_turn (by assumption) (by assumption) (by assumption)
    case fin =>
      clear zF zN zR
      intro h tk m news zF zN
      k_steps
end Mine
theorem PySem.Challenge.cw_xw0339_01_holds : PySem.Challenge.rw_xw0339_01.Holds := by
  exact Mine.hd
