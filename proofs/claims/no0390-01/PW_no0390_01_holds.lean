import PyProof.Rows.All
import Wide.All
import OpenK.AllK
import Wide.FinOn
import Lean
import PySem.Challenge.RW_no0390_01
open PySem PySem.W PyProof.Rows
namespace Mine
noncomputable def H.tw10011697448872341172 : Unit := ()
noncomputable def H.tw10039778136054392570 : Unit := ()
noncomputable def H.tw10045353202810153727 : Unit := ()
noncomputable def H.tw10053641070551127993 : Unit := ()
noncomputable def H.tw10056925525345426003 : Unit := ()
noncomputable def H.tw10083919104664922378 : Unit := ()
noncomputable def H.tw1010672228234607918 : Unit := ()
noncomputable def H.tw10112062698822495650 : Unit := ()
noncomputable def H.tw10136722888081207637 : Unit := ()
noncomputable def H.tw10142327317528403986 : Unit := ()
noncomputable def H.tw10146062855184942790 : Unit := ()
noncomputable def H.tw10158168070105751275 : Unit := ()
noncomputable def H.tw10161769132759979354 : Unit := ()
noncomputable def H.tw10165441804502894625 : Unit := ()
noncomputable def H.tw10165926886462966596 : Unit := ()
noncomputable def H.tw10191660476155422518 : Unit := ()
noncomputable def H.tw10253211994728950725 : Unit := ()
noncomputable def H.tw10288458712790907775 : Unit := ()
noncomputable def H.tw10289661049280979782 : Unit := ()
noncomputable def H.tw103038896218972839 : Unit := ()
noncomputable def H.tw10317835072762075556 : Unit := ()
noncomputable def H.tw10317894909246939136 : Unit := ()
noncomputable def H.tw10331002506675799557 : Unit := ()
noncomputable def H.tw10337375050069838218 : Unit := ()
noncomputable def H.tw10347432517918592036 : Unit := ()
noncomputable def H.tw10353130959121961278 : Unit := ()
noncomputable def H.tw10378042082341399139 : Unit := ()
noncomputable def H.tw10383657658237363364 : Unit := ()
noncomputable def H.tw10433418822453627333 : Unit := ()
noncomputable def H.tw10433420766168878888 : Unit := ()
noncomputable def H.tw1044719707267717976 : Unit := ()
noncomputable def H.tw10456377219406784090 : Unit := ()
noncomputable def H.tw10464914592729614453 : Unit := ()
noncomputable def H.tw10473893246670868547 : Unit := ()
noncomputable def H.tw10498212947670895370 : Unit := ()
noncomputable def H.tw10499684962312345457 : Unit := ()
noncomputable def H.tw10505057356082933608 : Unit := ()
noncomputable def H.tw10505925358952604232 : Unit := ()
noncomputable def H.tw10521411371528976086 : Unit := ()
noncomputable def H.tw10552993257819376404 : Unit := ()
noncomputable def H.tw10557844051894842979 : Unit := ()
noncomputable def H.tw10568375464257687101 : Unit := ()
noncomputable def H.tw10583944260609655781 : Unit := ()
noncomputable def H.tw10593686279815693949 : Unit := ()
noncomputable def H.tw10605768353640239881 : Unit := ()
noncomputable def H.tw10771871231002976017 : Unit := ()
noncomputable def H.tw10829653759670357736 : Unit := ()
noncomputable def H.tw10842632361069615744 : Unit := ()
noncomputable def H.tw10868214425873386394 : Unit := ()
noncomputable def H.tw10891688572067469653 : Unit := ()
noncomputable def H.tw10936753953841866583 : Unit := ()
noncomputable def H.tw10961067964976983585 : Unit := ()
noncomputable def H.tw10991385089800479136 : Unit := ()
noncomputable def H.tw11002691593576670301 : Unit := ()
noncomputable def H.tw11046031865314419780 : Unit := ()
noncomputable def H.tw11068077354479721946 : Unit := ()
noncomputable def H.tw11139946758624575093 : Unit := ()
noncomputable def H.tw11185340474740679771 : Unit := ()
noncomputable def H.tw11215991759538685576 : Unit := ()
noncomputable def H.tw11235986020147221766 : Unit := ()
noncomputable def H.tw11237401790861271877 : Unit := ()
noncomputable def H.tw11243451713825522469 : Unit := ()
noncomputable def H.tw11254208942729509644 : Unit := ()
noncomputable def H.tw1125663363630083201 : Unit := ()
noncomputable def H.tw11332937112173084303 : Unit := ()
noncomputable def H.tw11339984666154026371 : Unit := ()
noncomputable def H.tw11373841179610592360 : Unit := ()
noncomputable def H.tw11403784233239337400 : Unit := ()
noncomputable def H.tw11410745549212210772 : Unit := ()
noncomputable def H.tw11411002761323350446 : Unit := ()
noncomputable def H.tw1147380092779849364 : Unit := ()
noncomputable def H.tw11512962924320887843 : Unit := ()
noncomputable def H.tw11584795419264130111 : Unit := ()
noncomputable def H.tw11649991292226145981 : Unit := ()
noncomputable def H.tw11671416906130890903 : Unit := ()
noncomputable def H.tw11692120662328056588 : Unit := ()
noncomputable def H.tw11763466858715072613 : Unit := ()
noncomputable def H.tw11784518817005642227 : Unit := ()
noncomputable def H.tw11824125588300423276 : Unit := ()
noncomputable def H.tw11842362262347503409 : Unit := ()
noncomputable def H.tw11858990488602863699 : Unit := ()
noncomputable def H.tw11863369025280001527 : Unit := ()
noncomputable def H.tw11935001992772664820 : Unit := ()
noncomputable def H.tw1195330451643182664 : Unit := ()
noncomputable def H.tw11962433418772343610 : Unit := ()
noncomputable def H.tw11998087643289685656 : Unit := ()
noncomputable def H.tw12014871164604073497 : Unit := ()
noncomputable def H.tw12025033167496640984 : Unit := ()
noncomputable def H.tw12032047020890926514 : Unit := ()
noncomputable def H.tw12032224031094105200 : Unit := ()
noncomputable def H.tw12080116791672986956 : Unit := ()
noncomputable def H.tw12096196833128705053 : Unit := ()
noncomputable def H.tw1209784189921779162 : Unit := ()
noncomputable def H.tw12167399174478087860 : Unit := ()
noncomputable def H.tw12292570432214431083 : Unit := ()
noncomputable def H.tw12331692826829573977 : Unit := ()
noncomputable def H.tw12403274523613786213 : Unit := ()
noncomputable def H.tw12418921284453051306 : Unit := ()
noncomputable def H.tw12423412627145141157 : Unit := ()
noncomputable def H.tw12445182831551841475 : Unit := ()
noncomputable def H.tw12456664732356261440 : Unit := ()
noncomputable def H.tw12469430850863387858 : Unit := ()
noncomputable def H.tw12477770621212523083 : Unit := ()
noncomputable def H.tw12487540016000224857 : Unit := ()
noncomputable def H.tw12503046316573190767 : Unit := ()
noncomputable def H.tw12549668609684254261 : Unit := ()
noncomputable def H.tw1255039295301081897 : Unit := ()
noncomputable def H.tw12559160993610645827 : Unit := ()
noncomputable def H.tw12560230666485839156 : Unit := ()
noncomputable def H.tw12572907657854798094 : Unit := ()
noncomputable def H.tw12666050437053566947 : Unit := ()
noncomputable def H.tw12676063582860880878 : Unit := ()
noncomputable def H.tw12705745093544418107 : Unit := ()
noncomputable def H.tw12741382574571277990 : Unit := ()
noncomputable def H.tw12752007764874594531 : Unit := ()
noncomputable def H.tw12777104648367732104 : Unit := ()
noncomputable def H.tw12798316474538994664 : Unit := ()
noncomputable def H.tw12804468913041439426 : Unit := ()
noncomputable def H.tw1282340383992960574 : Unit := ()
noncomputable def H.tw12854644056610823229 : Unit := ()
noncomputable def H.tw12857785978674901852 : Unit := ()
noncomputable def H.tw12903053536861204166 : Unit := ()
noncomputable def H.tw12929267612510461274 : Unit := ()
noncomputable def H.tw12936479875041924792 : Unit := ()
noncomputable def H.tw12983225209615668061 : Unit := ()
noncomputable def H.tw12991879903646088262 : Unit := ()
noncomputable def H.tw13006606263058282638 : Unit := ()
noncomputable def H.tw13009741452663339084 : Unit := ()
noncomputable def H.tw13014468754667639785 : Unit := ()
noncomputable def H.tw13038979950517999026 : Unit := ()
noncomputable def H.tw13040699183365155975 : Unit := ()
noncomputable def H.tw1309449549867825066 : Unit := ()
noncomputable def H.tw13116560144931339405 : Unit := ()
noncomputable def H.tw13123357857270848779 : Unit := ()
noncomputable def H.tw1312388623286383561 : Unit := ()
noncomputable def H.tw13148186638387290051 : Unit := ()
noncomputable def H.tw13153629232658024411 : Unit := ()
noncomputable def H.tw13215826150394049471 : Unit := ()
noncomputable def H.tw13262421905918813 : Unit := ()
noncomputable def H.tw13321588691953712231 : Unit := ()
noncomputable def H.tw13322204268497343787 : Unit := ()
noncomputable def H.tw13421635140146031086 : Unit := ()
noncomputable def H.tw13478334776048112900 : Unit := ()
noncomputable def H.tw13484323219234821098 : Unit := ()
noncomputable def H.tw13500774916131086668 : Unit := ()
noncomputable def H.tw13516708423887366760 : Unit := ()
noncomputable def H.tw13524749180137557171 : Unit := ()
noncomputable def H.tw13559393306076654284 : Unit := ()
noncomputable def H.tw13646611985338627749 : Unit := ()
noncomputable def H.tw13685144902862851652 : Unit := ()
noncomputable def H.tw1371217891455573215 : Unit := ()
noncomputable def H.tw13796977024667885062 : Unit := ()
noncomputable def H.tw13830698748063720354 : Unit := ()
noncomputable def H.tw13872338297208856048 : Unit := ()
noncomputable def H.tw13876546069275509703 : Unit := ()
noncomputable def H.tw13885638831897458621 : Unit := ()
noncomputable def H.tw13896487427037654692 : Unit := ()
noncomputable def H.tw14024064448655485993 : Unit := ()
noncomputable def H.tw14044796237789797729 : Unit := ()
noncomputable def H.tw14062103469754045910 : Unit := ()
noncomputable def H.tw14069842293251989526 : Unit := ()
noncomputable def H.tw141451695405024497 : Unit := ()
noncomputable def H.tw14162757413736561795 : Unit := ()
noncomputable def H.tw14205082483333130148 : Unit := ()
noncomputable def H.tw14235733257638317685 : Unit := ()
noncomputable def H.tw14293496375318040623 : Unit := ()
noncomputable def H.tw14317375716159554429 : Unit := ()
noncomputable def H.tw14350923617752083235 : Unit := ()
noncomputable def H.tw14369245545096476833 : Unit := ()
noncomputable def H.tw1437564928482113347 : Unit := ()
noncomputable def H.tw1441535623841745340 : Unit := ()
noncomputable def H.tw14431456429596861243 : Unit := ()
noncomputable def H.tw14444888220235053902 : Unit := ()
noncomputable def H.tw14490895471998546178 : Unit := ()
noncomputable def H.tw14502646820212624461 : Unit := ()
noncomputable def H.tw14511670835433592545 : Unit := ()
noncomputable def H.tw1453047308570930117 : Unit := ()
noncomputable def H.tw14551180969434236174 : Unit := ()
noncomputable def H.tw14555653455692887488 : Unit := ()
noncomputable def H.tw14587018606256937633 : Unit := ()
noncomputable def H.tw14590814796682823485 : Unit := ()
noncomputable def H.tw14627351648944011879 : Unit := ()
noncomputable def H.tw14628948333096341155 : Unit := ()
noncomputable def H.tw14647254637768594584 : Unit := ()
noncomputable def H.tw14672954348944716088 : Unit := ()
noncomputable def H.tw14687651268101355075 : Unit := ()
noncomputable def H.tw1468993742232654761 : Unit := ()
noncomputable def H.tw1471197508324736667 : Unit := ()
noncomputable def H.tw14750630645017075674 : Unit := ()
noncomputable def H.tw14786189410258943184 : Unit := ()
noncomputable def H.tw14804111282792175500 : Unit := ()
noncomputable def H.tw14824157285444743520 : Unit := ()
noncomputable def H.tw14837724646361835555 : Unit := ()
noncomputable def H.tw14841400552967206664 : Unit := ()
noncomputable def H.tw14841606702917353135 : Unit := ()
noncomputable def H.tw14873851256075476465 : Unit := ()
noncomputable def H.tw14897848243153146855 : Unit := ()
noncomputable def H.tw14912801474816643762 : Unit := ()
noncomputable def H.tw14933178191718294723 : Unit := ()
noncomputable def H.tw14982778040733483935 : Unit := ()
noncomputable def H.tw15004035521590462751 : Unit := ()
noncomputable def H.tw15047218131081860597 : Unit := ()
noncomputable def H.tw15119535811141961557 : Unit := ()
noncomputable def H.tw15138835219923170196 : Unit := ()
noncomputable def H.tw15156882521142549718 : Unit := ()
noncomputable def H.tw15179578997364275193 : Unit := ()
noncomputable def H.tw15268730065564025163 : Unit := ()
noncomputable def H.tw15381830176957410618 : Unit := ()
noncomputable def H.tw15398798658674744732 : Unit := ()
noncomputable def H.tw15441684637657937915 : Unit := ()
noncomputable def H.tw15445963793698295741 : Unit := ()
noncomputable def H.tw15450114856204108862 : Unit := ()
noncomputable def H.tw15463805730836159788 : Unit := ()
noncomputable def H.tw15515950906414588510 : Unit := ()
noncomputable def H.tw15599964037211269107 : Unit := ()
noncomputable def H.tw15604902203956814150 : Unit := ()
noncomputable def H.tw15633771138188351624 : Unit := ()
noncomputable def H.tw15636352244822979241 : Unit := ()
noncomputable def H.tw15654519999029676536 : Unit := ()
noncomputable def H.tw15656444959810358630 : Unit := ()
noncomputable def H.tw15670640548594177440 : Unit := ()
noncomputable def H.tw15729433388101613823 : Unit := ()
noncomputable def H.tw15748769722806114276 : Unit := ()
noncomputable def H.tw15754899711400055714 : Unit := ()
noncomputable def H.tw15763100990894144185 : Unit := ()
noncomputable def H.tw15774239174389407927 : Unit := ()
noncomputable def H.tw15826426022912115178 : Unit := ()
noncomputable def H.tw1583644047591208908 : Unit := ()
noncomputable def H.tw15892328783710771601 : Unit := ()
noncomputable def H.tw15902469582307581954 : Unit := ()
noncomputable def H.tw15913514238045886434 : Unit := ()
noncomputable def H.tw15950138499272230751 : Unit := ()
noncomputable def H.tw15950276250376550078 : Unit := ()
noncomputable def H.tw15990129174537453414 : Unit := ()
noncomputable def H.tw16014775853788994562 : Unit := ()
noncomputable def H.tw16039167186987787845 : Unit := ()
noncomputable def H.tw16055540851828322339 : Unit := ()
noncomputable def H.tw16138289139712703897 : Unit := ()
noncomputable def H.tw16164180222473712222 : Unit := ()
noncomputable def H.tw16197639587930077540 : Unit := ()
noncomputable def H.tw16226830512359993915 : Unit := ()
noncomputable def H.tw16230074849434162810 : Unit := ()
noncomputable def H.tw16268566294466814274 : Unit := ()
noncomputable def H.tw16289112017488318910 : Unit := ()
noncomputable def H.tw16297173622823970590 : Unit := ()
noncomputable def H.tw1629993715510106542 : Unit := ()
noncomputable def H.tw16318369610491756007 : Unit := ()
noncomputable def H.tw16318554873512779487 : Unit := ()
noncomputable def H.tw16347398200309287446 : Unit := ()
noncomputable def H.tw16357523523654980561 : Unit := ()
noncomputable def H.tw16379948591547330721 : Unit := ()
noncomputable def H.tw16428379575790886458 : Unit := ()
noncomputable def H.tw16449164088208263239 : Unit := ()
noncomputable def H.tw16469551053838039727 : Unit := ()
noncomputable def H.tw16487189842714718245 : Unit := ()
noncomputable def H.tw16488693983156766930 : Unit := ()
noncomputable def H.tw16531946774007667630 : Unit := ()
noncomputable def H.tw16542430911228340895 : Unit := ()
noncomputable def H.tw16551145046240461273 : Unit := ()
noncomputable def H.tw16563852218377358332 : Unit := ()
noncomputable def H.tw16572784237627940772 : Unit := ()
noncomputable def H.tw16603348652870631500 : Unit := ()
noncomputable def H.tw16604455668217486199 : Unit := ()
noncomputable def H.tw16651815805775336637 : Unit := ()
noncomputable def H.tw16698676061649953635 : Unit := ()
noncomputable def H.tw16748794997336878626 : Unit := ()
noncomputable def H.tw16791860630021827106 : Unit := ()
noncomputable def H.tw16807792124486352377 : Unit := ()
noncomputable def H.tw16844487436067382576 : Unit := ()
noncomputable def H.tw16917466045297104977 : Unit := ()
noncomputable def H.tw16930910031666383760 : Unit := ()
noncomputable def H.tw16933839994727884065 : Unit := ()
noncomputable def H.tw16935526664894114389 : Unit := ()
noncomputable def H.tw16973202287522386812 : Unit := ()
noncomputable def H.tw16979142610941943714 : Unit := ()
noncomputable def H.tw1699609885871461542 : Unit := ()
noncomputable def H.tw17031708446677615218 : Unit := ()
noncomputable def H.tw170568033223613141 : Unit := ()
noncomputable def H.tw17075095485778234029 : Unit := ()
noncomputable def H.tw17106768090552336587 : Unit := ()
noncomputable def H.tw17128105515195730871 : Unit := ()
noncomputable def H.tw1722221662575505156 : Unit := ()
noncomputable def H.tw17239064958033275854 : Unit := ()
noncomputable def H.tw17266127754266842694 : Unit := ()
noncomputable def H.tw17310778130462120004 : Unit := ()
noncomputable def H.tw17327700611806476895 : Unit := ()
noncomputable def H.tw17342969941799568196 : Unit := ()
noncomputable def H.tw17381326815587250300 : Unit := ()
noncomputable def H.tw17388644231443912837 : Unit := ()
noncomputable def H.tw17400183966019725304 : Unit := ()
noncomputable def H.tw17426936888162619342 : Unit := ()
noncomputable def H.tw17449189488377034403 : Unit := ()
noncomputable def H.tw1747000681342055824 : Unit := ()
noncomputable def H.tw17503195994551319372 : Unit := ()
noncomputable def H.tw1753393468952721467 : Unit := ()
noncomputable def H.tw17586334158047999735 : Unit := ()
noncomputable def H.tw17616092918118819745 : Unit := ()
noncomputable def H.tw1761686727074447768 : Unit := ()
noncomputable def H.tw17621033822434744577 : Unit := ()
noncomputable def H.tw17628710772562915667 : Unit := ()
noncomputable def H.tw17698728793212023811 : Unit := ()
noncomputable def H.tw17709418258827904553 : Unit := ()
noncomputable def H.tw17736946642981287874 : Unit := ()
noncomputable def H.tw17748633533626174464 : Unit := ()
noncomputable def H.tw17797804159786915998 : Unit := ()
noncomputable def H.tw17838206335228458822 : Unit := ()
noncomputable def H.tw17842959354340810157 : Unit := ()
noncomputable def H.tw17849142303086569576 : Unit := ()
noncomputable def H.tw17849804478100452716 : Unit := ()
noncomputable def H.tw17872896438178997199 : Unit := ()
noncomputable def H.tw17872928590900920170 : Unit := ()
noncomputable def H.tw17924074851753762541 : Unit := ()
noncomputable def H.tw17943707864080700060 : Unit := ()
noncomputable def H.tw17967850822490136902 : Unit := ()
noncomputable def H.tw17970219870256595691 : Unit := ()
noncomputable def H.tw17998066219623842096 : Unit := ()
noncomputable def H.tw18007257946788785379 : Unit := ()
noncomputable def H.tw18011079420775199704 : Unit := ()
noncomputable def H.tw18035093123405895391 : Unit := ()
noncomputable def H.tw18077855000343353673 : Unit := ()
noncomputable def H.tw18093424612744181844 : Unit := ()
noncomputable def H.tw1811224709876349266 : Unit := ()
noncomputable def H.tw18176822575681345603 : Unit := ()
noncomputable def H.tw18199318348049238864 : Unit := ()
noncomputable def H.tw18225079323812610105 : Unit := ()
noncomputable def H.tw18254124763435071929 : Unit := ()
noncomputable def H.tw18395251869747837078 : Unit := ()
noncomputable def H.tw18410643554883953029 : Unit := ()
noncomputable def H.tw1896134100576112430 : Unit := ()
noncomputable def H.tw1914578920587391221 : Unit := ()
noncomputable def H.tw1952097290911413129 : Unit := ()
noncomputable def H.tw1954334577106519182 : Unit := ()
noncomputable def H.tw1963946768716240721 : Unit := ()
noncomputable def H.tw1997792396774469946 : Unit := ()
noncomputable def H.tw2029669089610237889 : Unit := ()
noncomputable def H.tw2075434375853375456 : Unit := ()
noncomputable def H.tw2090410530054141399 : Unit := ()
noncomputable def H.tw2130936438566924380 : Unit := ()
noncomputable def H.tw2146945935593238184 : Unit := ()
noncomputable def H.tw2148745590067710325 : Unit := ()
noncomputable def H.tw2256571216060290269 : Unit := ()
noncomputable def H.tw2269766128938095430 : Unit := ()
noncomputable def H.tw2298029541905964996 : Unit := ()
noncomputable def H.tw2348742690460524630 : Unit := ()
noncomputable def H.tw2364471236995046750 : Unit := ()
noncomputable def H.tw2375980337503024566 : Unit := ()
noncomputable def H.tw2419826079496683906 : Unit := ()
noncomputable def H.tw2461558842626713344 : Unit := ()
noncomputable def H.tw2464261989031668328 : Unit := ()
noncomputable def H.tw2479100908634729458 : Unit := ()
noncomputable def H.tw2492225235665092914 : Unit := ()
noncomputable def H.tw2501247766768507919 : Unit := ()
noncomputable def H.tw2529807355242389723 : Unit := ()
noncomputable def H.tw2569154572074906827 : Unit := ()
noncomputable def H.tw2579559588569817834 : Unit := ()
noncomputable def H.tw2623636821469035120 : Unit := ()
noncomputable def H.tw2653052056709872830 : Unit := ()
noncomputable def H.tw2666753820242546359 : Unit := ()
noncomputable def H.tw2680985969642321465 : Unit := ()
noncomputable def H.tw2693307192448038763 : Unit := ()
noncomputable def H.tw2741385267603489011 : Unit := ()
noncomputable def H.tw2753818062108255465 : Unit := ()
noncomputable def H.tw2757784665631428392 : Unit := ()
noncomputable def H.tw2773863654799489864 : Unit := ()
noncomputable def H.tw2782706076685049980 : Unit := ()
noncomputable def H.tw2913497909890348429 : Unit := ()
noncomputable def H.tw2947017594365128409 : Unit := ()
noncomputable def H.tw2954230958588947347 : Unit := ()
noncomputable def H.tw2983696727606797378 : Unit := ()
noncomputable def H.tw3009340075039607498 : Unit := ()
noncomputable def H.tw3012224226279008382 : Unit := ()
noncomputable def H.tw3016138168384031794 : Unit := ()
noncomputable def H.tw3020015322493388034 : Unit := ()
noncomputable def H.tw3030592217786233806 : Unit := ()
noncomputable def H.tw3091619336605370982 : Unit := ()
noncomputable def H.tw3200802872274300024 : Unit := ()
noncomputable def H.tw3221018196447846320 : Unit := ()
noncomputable def H.tw3234018346418417427 : Unit := ()
noncomputable def H.tw3291725484364578741 : Unit := ()
noncomputable def H.tw3322199043023178392 : Unit := ()
noncomputable def H.tw3351614546084657848 : Unit := ()
noncomputable def H.tw3352935876568638153 : Unit := ()
noncomputable def H.tw3383810076396082930 : Unit := ()
noncomputable def H.tw3386197558761608145 : Unit := ()
noncomputable def H.tw340278523549749211 : Unit := ()
noncomputable def H.tw3424219889895461331 : Unit := ()
noncomputable def H.tw3449051907613455476 : Unit := ()
noncomputable def H.tw3449211909537526854 : Unit := ()
noncomputable def H.tw3492455223832283603 : Unit := ()
noncomputable def H.tw3590828829609167636 : Unit := ()
noncomputable def H.tw3627729386520862197 : Unit := ()
noncomputable def H.tw3652972965141453093 : Unit := ()
noncomputable def H.tw3716225119300984921 : Unit := ()
noncomputable def H.tw3748150547124985428 : Unit := ()
noncomputable def H.tw3785099633497801907 : Unit := ()
noncomputable def H.tw378760129302496199 : Unit := ()
noncomputable def H.tw3787762912787637367 : Unit := ()
noncomputable def H.tw3788904848352435617 : Unit := ()
noncomputable def H.tw3789786332638994410 : Unit := ()
noncomputable def H.tw3829336991476546835 : Unit := ()
noncomputable def H.tw3833415211040211896 : Unit := ()
noncomputable def H.tw3835311436590829439 : Unit := ()
noncomputable def H.tw3848180559209015532 : Unit := ()
noncomputable def H.tw3853391671191788675 : Unit := ()
noncomputable def H.tw3911904694797411208 : Unit := ()
noncomputable def H.tw394467784398786436 : Unit := ()
noncomputable def H.tw3946671584541754532 : Unit := ()
noncomputable def H.tw3960789356745058872 : Unit := ()
noncomputable def H.tw4019109892183174626 : Unit := ()
noncomputable def H.tw4023311936296743675 : Unit := ()
noncomputable def H.tw4035671559407354976 : Unit := ()
noncomputable def H.tw4040825102844437476 : Unit := ()
noncomputable def H.tw4065332450056608949 : Unit := ()
noncomputable def H.tw4072802292104018564 : Unit := ()
noncomputable def H.tw4081604313976120676 : Unit := ()
noncomputable def H.tw408488842226599581 : Unit := ()
noncomputable def H.tw4098275387689128151 : Unit := ()
noncomputable def H.tw4103751583375502052 : Unit := ()
noncomputable def H.tw412488095155587633 : Unit := ()
noncomputable def H.tw4137594255308144908 : Unit := ()
noncomputable def H.tw419089358367586214 : Unit := ()
noncomputable def H.tw4219808216503777585 : Unit := ()
noncomputable def H.tw4220201612635232335 : Unit := ()
noncomputable def H.tw4248784247497974469 : Unit := ()
noncomputable def H.tw425067446883742179 : Unit := ()
noncomputable def H.tw4281171597476179335 : Unit := ()
noncomputable def H.tw4313673727588614265 : Unit := ()
noncomputable def H.tw4317748411362106366 : Unit := ()
noncomputable def H.tw4319558360936764439 : Unit := ()
noncomputable def H.tw4346772973196665636 : Unit := ()
noncomputable def H.tw437340602607285425 : Unit := ()
noncomputable def H.tw4430403573208000051 : Unit := ()
noncomputable def H.tw4466588991480410424 : Unit := ()
noncomputable def H.tw4467009569752404977 : Unit := ()
noncomputable def H.tw449243315789395803 : Unit := ()
noncomputable def H.tw4556832319354610501 : Unit := ()
noncomputable def H.tw4630294584243078082 : Unit := ()
noncomputable def H.tw4641007179142555699 : Unit := ()
noncomputable def H.tw4647934937190770904 : Unit := ()
noncomputable def H.tw4678701436962909900 : Unit := ()
noncomputable def H.tw4693100168390043692 : Unit := ()
noncomputable def H.tw47077199654416384 : Unit := ()
noncomputable def H.tw4711755996087073655 : Unit := ()
noncomputable def H.tw4727215983051094238 : Unit := ()
noncomputable def H.tw4809561876661938628 : Unit := ()
noncomputable def H.tw4860532684070294863 : Unit := ()
noncomputable def H.tw4866171032479339518 : Unit := ()
noncomputable def H.tw4889166905056235896 : Unit := ()
noncomputable def H.tw4895218852344870395 : Unit := ()
noncomputable def H.tw4910094563516048764 : Unit := ()
noncomputable def H.tw4932860356214620256 : Unit := ()
noncomputable def H.tw4942623439593063596 : Unit := ()
noncomputable def H.tw497565311703065047 : Unit := ()
noncomputable def H.tw4983311531917201207 : Unit := ()
noncomputable def H.tw4997494548060779510 : Unit := ()
noncomputable def H.tw4998672837810682683 : Unit := ()
noncomputable def H.tw5003976844831925132 : Unit := ()
noncomputable def H.tw5038963716316947488 : Unit := ()
noncomputable def H.tw5063231119755365836 : Unit := ()
noncomputable def H.tw5102833487330629161 : Unit := ()
noncomputable def H.tw5149920216653807761 : Unit := ()
noncomputable def H.tw5181113447038536074 : Unit := ()
noncomputable def H.tw5203464220854073178 : Unit := ()
noncomputable def H.tw5218874633422953879 : Unit := ()
noncomputable def H.tw5230924224259562779 : Unit := ()
noncomputable def H.tw5269162552089410205 : Unit := ()
noncomputable def H.tw527301676746135081 : Unit := ()
noncomputable def H.tw5396848702138390494 : Unit := ()
noncomputable def H.tw5459547527644314929 : Unit := ()
noncomputable def H.tw5463825072009423362 : Unit := ()
noncomputable def H.tw5533708275938529266 : Unit := ()
noncomputable def H.tw5539081987583995248 : Unit := ()
noncomputable def H.tw5575232931610616729 : Unit := ()
noncomputable def H.tw5625076428923207718 : Unit := ()
noncomputable def H.tw5649092909181174261 : Unit := ()
noncomputable def H.tw5716757216958652117 : Unit := ()
noncomputable def H.tw5727027990654606646 : Unit := ()
noncomputable def H.tw5736240582399470080 : Unit := ()
noncomputable def H.tw5833312364210477273 : Unit := ()
noncomputable def H.tw5841367226963892531 : Unit := ()
noncomputable def H.tw5903131442064192913 : Unit := ()
noncomputable def H.tw5988263066836145232 : Unit := ()
noncomputable def H.tw6016155921788439393 : Unit := ()
noncomputable def H.tw6043353136980374321 : Unit := ()
noncomputable def H.tw6052787943852617551 : Unit := ()
noncomputable def H.tw6093444601538497431 : Unit := ()
noncomputable def H.tw6100098836678164245 : Unit := ()
noncomputable def H.tw6205121538340896302 : Unit := ()
noncomputable def H.tw6272961262030978715 : Unit := ()
noncomputable def H.tw6296059672701188700 : Unit := ()
noncomputable def H.tw6388715230571863280 : Unit := ()
noncomputable def H.tw6389163932292823656 : Unit := ()
noncomputable def H.tw6443099073961436829 : Unit := ()
noncomputable def H.tw644580781526545197 : Unit := ()
noncomputable def H.tw6446927727327593537 : Unit := ()
noncomputable def H.tw6465848597494582346 : Unit := ()
noncomputable def H.tw6469682129878442241 : Unit := ()
noncomputable def H.tw64892592120978209 : Unit := ()
noncomputable def H.tw6548139043618293667 : Unit := ()
noncomputable def H.tw666596368668009750 : Unit := ()
noncomputable def H.tw6675120738276586070 : Unit := ()
noncomputable def H.tw6693900108705436663 : Unit := ()
noncomputable def H.tw6721272458879793601 : Unit := ()
noncomputable def H.tw6732334376828577538 : Unit := ()
noncomputable def H.tw675963062208498483 : Unit := ()
noncomputable def H.tw6800449708851095406 : Unit := ()
noncomputable def H.tw6833340178611133122 : Unit := ()
noncomputable def H.tw6840517394822802830 : Unit := ()
noncomputable def H.tw6874393923940228710 : Unit := ()
noncomputable def H.tw6874476218358034175 : Unit := ()
noncomputable def H.tw6907178718153825349 : Unit := ()
noncomputable def H.tw6933465609864134471 : Unit := ()
noncomputable def H.tw6996900457321734053 : Unit := ()
noncomputable def H.tw7013894596763063348 : Unit := ()
noncomputable def H.tw7029936047214596799 : Unit := ()
noncomputable def H.tw7055513830055794960 : Unit := ()
noncomputable def H.tw7080309947851530203 : Unit := ()
noncomputable def H.tw721533048308416469 : Unit := ()
noncomputable def H.tw7219204304444968719 : Unit := ()
noncomputable def H.tw7235279654433542527 : Unit := ()
noncomputable def H.tw7257031146487211329 : Unit := ()
noncomputable def H.tw7272291031769149813 : Unit := ()
noncomputable def H.tw7290505893039796308 : Unit := ()
noncomputable def H.tw7381987239995238738 : Unit := ()
noncomputable def H.tw7455738332631245710 : Unit := ()
noncomputable def H.tw7472297018541179442 : Unit := ()
noncomputable def H.tw7501378185386732444 : Unit := ()
noncomputable def H.tw7545318495297357705 : Unit := ()
noncomputable def H.tw758970731430197649 : Unit := ()
noncomputable def H.tw7628550289082284180 : Unit := ()
noncomputable def H.tw7674529572004464364 : Unit := ()
noncomputable def H.tw7706761810576911472 : Unit := ()
noncomputable def H.tw7738652089436251481 : Unit := ()
noncomputable def H.tw7747287356729356127 : Unit := ()
noncomputable def H.tw7760827471576848256 : Unit := ()
noncomputable def H.tw7764621067727988080 : Unit := ()
noncomputable def H.tw7793084056693973084 : Unit := ()
noncomputable def H.tw7823383422148581035 : Unit := ()
noncomputable def H.tw7858828792612028765 : Unit := ()
noncomputable def H.tw7859495810453021731 : Unit := ()
noncomputable def H.tw7866089265331394923 : Unit := ()
noncomputable def H.tw787510513097020902 : Unit := ()
noncomputable def H.tw7918600103555356835 : Unit := ()
noncomputable def H.tw794000185737339396 : Unit := ()
noncomputable def H.tw7940074458616338470 : Unit := ()
noncomputable def H.tw7952443344441261346 : Unit := ()
noncomputable def H.tw7972904052590363150 : Unit := ()
noncomputable def H.tw7982307989188885368 : Unit := ()
noncomputable def H.tw8010173572636985951 : Unit := ()
noncomputable def H.tw8015527512746288585 : Unit := ()
noncomputable def H.tw8045434834112647341 : Unit := ()
noncomputable def H.tw8050234438056193940 : Unit := ()
noncomputable def H.tw8061338710446062455 : Unit := ()
noncomputable def H.tw8143377690602963286 : Unit := ()
noncomputable def H.tw8157503020130828457 : Unit := ()
noncomputable def H.tw818960312536112650 : Unit := ()
noncomputable def H.tw8191000545609147090 : Unit := ()
noncomputable def H.tw8216911455395744865 : Unit := ()
noncomputable def H.tw8234929517532938534 : Unit := ()
noncomputable def H.tw825205156837483634 : Unit := ()
noncomputable def H.tw8271743829178829793 : Unit := ()
noncomputable def H.tw8381744501860289623 : Unit := ()
noncomputable def H.tw8419724755777831873 : Unit := ()
noncomputable def H.tw8426359795541334097 : Unit := ()
noncomputable def H.tw8470188144168574777 : Unit := ()
noncomputable def H.tw84964994500843195 : Unit := ()
noncomputable def H.tw8551180802265584361 : Unit := ()
noncomputable def H.tw8694226246655616232 : Unit := ()
noncomputable def H.tw8698974378060655878 : Unit := ()
noncomputable def H.tw8723591170561198064 : Unit := ()
noncomputable def H.tw873354187661252406 : Unit := ()
noncomputable def H.tw8741699542087570310 : Unit := ()
noncomputable def H.tw8783112073648089679 : Unit := ()
noncomputable def H.tw8786761160371009879 : Unit := ()
noncomputable def H.tw8799143957368273344 : Unit := ()
noncomputable def H.tw8801097332824615898 : Unit := ()
noncomputable def H.tw8809047418430197408 : Unit := ()
noncomputable def H.tw8812740737251790950 : Unit := ()
noncomputable def H.tw8840576080285599106 : Unit := ()
noncomputable def H.tw8858507936306357703 : Unit := ()
noncomputable def H.tw886611358018284050 : Unit := ()
noncomputable def H.tw8878033205871496509 : Unit := ()
noncomputable def H.tw8904959503005615512 : Unit := ()
noncomputable def H.tw8980839672756139435 : Unit := ()
noncomputable def H.tw8988742980719223178 : Unit := ()
noncomputable def H.tw8992323754931925956 : Unit := ()
noncomputable def H.tw9021780688425669982 : Unit := ()
noncomputable def H.tw9048373194760335880 : Unit := ()
noncomputable def H.tw9086350146104653158 : Unit := ()
noncomputable def H.tw9113960271644358329 : Unit := ()
noncomputable def H.tw9183414462554725435 : Unit := ()
noncomputable def H.tw9209902391270809563 : Unit := ()
noncomputable def H.tw9210969009372495126 : Unit := ()
noncomputable def H.tw9212265793182216852 : Unit := ()
noncomputable def H.tw9258393494868382635 : Unit := ()
noncomputable def H.tw9265154338197555522 : Unit := ()
noncomputable def H.tw9308798266686099167 : Unit := ()
noncomputable def H.tw9322563696164315823 : Unit := ()
noncomputable def H.tw9327252665840168603 : Unit := ()
noncomputable def H.tw9332444518880915840 : Unit := ()
noncomputable def H.tw9361651565888428771 : Unit := ()
noncomputable def H.tw9393999881113154764 : Unit := ()
noncomputable def H.tw9400642152488910956 : Unit := ()
noncomputable def H.tw9434473019877584549 : Unit := ()
noncomputable def H.tw9443503329071064963 : Unit := ()
noncomputable def H.tw9449607290671472233 : Unit := ()
noncomputable def H.tw9471667614677429029 : Unit := ()
noncomputable def H.tw9476964038663322736 : Unit := ()
noncomputable def H.tw9515029343106114794 : Unit := ()
noncomputable def H.tw9528210708110719138 : Unit := ()
noncomputable def H.tw9530981099306360709 : Unit := ()
noncomputable def H.tw9552303914308831181 : Unit := ()
noncomputable def H.tw9582028821500442293 : Unit := ()
noncomputable def H.tw9637061673198308093 : Unit := ()
noncomputable def H.tw9648974615057951078 : Unit := ()
noncomputable def H.tw9659916579239494036 : Unit := ()
noncomputable def H.tw9708866739134980467 : Unit := ()
noncomputable def H.tw9722076603314892536 : Unit := ()
noncomputable def H.tw9732536834141603770 : Unit := ()
noncomputable def H.tw9786733297010250713 : Unit := ()
noncomputable def H.tw9790956087865592952 : Unit := ()
noncomputable def H.tw9854956616112915239 : Unit := ()
noncomputable def H.tw9883270774777409572 : Unit := ()
noncomputable def H.tw9890936845835910898 : Unit := ()
noncomputable def H.tw9891472444048021451 : Unit := ()
noncomputable def H.tw9896051447216122228 : Unit := ()
noncomputable def H.tw9911931440129208394 : Unit := ()
noncomputable def H.tw9914021307042689665 : Unit := ()
noncomputable def H.tw9923852902611290220 : Unit := ()
noncomputable def H.tw9970706243493984884 : Unit := ()
noncomputable def H.tw9983019921416699368 : Unit := ()
inductive Un {T : Prop} (t : T) : Prop | mk
theorem drop {T : Prop} (t : T) (_ : Un t) : T := t
set_option maxRecDepth 100000 in
set_option maxHeartbeats 8000000 in
set_option Elab.async true in
theorem H : True := by
  refine ((?f : PySem.Challenge.rw_no0390_01.Holds → (PySem.Challenge.rw_no0390_01.row.wellSaid = true → PySem.Challenge.rw_no0390_01.row.Holds) → True) ?v ?r)
  case v =>
    w_on
    as_aux_lemma =>
      o_law
      apply_rules (newGoals := .nonDependentOnly) (maxDepth := 1) only [drop]
      constructor
  case r =>
    intro said
    w_on
    as_aux_lemma =>
      k_head; (case hw => w_witness2)
      apply_rules (newGoals := .nonDependentOnly) (maxDepth := 1) only [drop]
      constructor
  case f => exact fun _ _ => trivial
end Mine
set_option Elab.async false
set_option genInjectivity false
set_option genSizeOfSpec false
set_option maxRecDepth 100000
set_option maxHeartbeats 8000000
set_option rowWalk.seconds 0
namespace Mine
open PySem.Calls
theorem fill_all : PySem.Challenge.rw_no0390_01 = PySem.Challenge.rw_no0390_01 ∧ Mine.H.heap_1_41 = Mine.H.heap_1_41 := by
  w_top off
  k_fill
  exact ⟨rfl, rfl⟩
theorem ex_0_2 {P0 P1 : Prop} {C : Prop} (h : P0 ∧ P1) (k : P0 → P1 → C) : C := And.elim (fun h0 r0 => k h0 r0) h
theorem ex_0_3 {P0 P1 P2 : Prop} {C : Prop} (h : P0 ∧ P1 ∧ P2) (k : P0 → P1 → P2 → C) : C := And.elim (fun h0 r0 => And.elim (fun h1 r1 => k h0 h1 r1) r0) h
theorem ex_0_5 {P0 P1 P2 P3 P4 : Prop} {C : Prop} (h : P0 ∧ P1 ∧ P2 ∧ P3 ∧ P4) (k : P0 → P1 → P2 → P3 → P4 → C) : C := And.elim (fun h0 r0 => And.elim (fun h1 r1 => And.elim (fun h2 r2 => And.elim (fun h3 r3 => k h0 h1 h2 h3 r3) r2) r1) r0) h
theorem ex_0_6 {P0 P1 P2 P3 P4 P5 : Prop} {C : Prop} (h : P0 ∧ P1 ∧ P2 ∧ P3 ∧ P4 ∧ P5) (k : P0 → P1 → P2 → P3 → P4 → P5 → C) : C := ex_0_5 h fun h0 h1 h2 h3 r => ex_0_2 r (k h0 h1 h2 h3)
theorem ex_0_7 {P0 P1 P2 P3 P4 P5 P6 : Prop} {C : Prop} (h : P0 ∧ P1 ∧ P2 ∧ P3 ∧ P4 ∧ P5 ∧ P6) (k : P0 → P1 → P2 → P3 → P4 → P5 → P6 → C) : C := ex_0_5 h fun h0 h1 h2 h3 r => ex_0_3 r (k h0 h1 h2 h3)
theorem ex_1_1 {α0 : Sort _} {P0 : α0 → Prop} {C : Prop} (h : ∃ a0, P0 a0) (k : ∀ a0, P0 a0 → C) : C := Exists.elim h (fun a0 e0 => k a0 e0)
theorem ex_1_2 {α0 : Sort _} {P0 P1 : α0 → Prop} {C : Prop} (h : ∃ a0, P0 a0 ∧ P1 a0) (k : ∀ a0, P0 a0 → P1 a0 → C) : C := Exists.elim h (fun a0 e0 => And.elim (fun h0 r0 => k a0 h0 r0) e0)
theorem ex_1_3 {α0 : Sort _} {P0 P1 P2 : α0 → Prop} {C : Prop} (h : ∃ a0, P0 a0 ∧ P1 a0 ∧ P2 a0) (k : ∀ a0, P0 a0 → P1 a0 → P2 a0 → C) : C := Exists.elim h (fun a0 e0 => And.elim (fun h0 r0 => And.elim (fun h1 r1 => k a0 h0 h1 r1) r0) e0)
theorem ex_1_4 {α0 : Sort _} {P0 P1 P2 P3 : α0 → Prop} {C : Prop} (h : ∃ a0, P0 a0 ∧ P1 a0 ∧ P2 a0 ∧ P3 a0) (k : ∀ a0, P0 a0 → P1 a0 → P2 a0 → P3 a0 → C) : C := Exists.elim h (fun a0 e0 => And.elim (fun h0 r0 => And.elim (fun h1 r1 => And.elim (fun h2 r2 => k a0 h0 h1 h2 r2) r1) r0) e0)
theorem ex_1_5 {α0 : Sort _} {P0 P1 P2 P3 P4 : α0 → Prop} {C : Prop} (h : ∃ a0, P0 a0 ∧ P1 a0 ∧ P2 a0 ∧ P3 a0 ∧ P4 a0) (k : ∀ a0, P0 a0 → P1 a0 → P2 a0 → P3 a0 → P4 a0 → C) : C := ex_1_1 h fun a0 r => ex_0_5 r (k a0)
theorem ex_2_1 {α0 α1 : Sort _} {P0 : α0 → α1 → Prop} {C : Prop} (h : ∃ a0 a1, P0 a0 a1) (k : ∀ a0 a1, P0 a0 a1 → C) : C := Exists.elim h (fun a0 e0 => Exists.elim e0 (fun a1 e1 => k a0 a1 e1))
theorem ex_2_2 {α0 α1 : Sort _} {P0 P1 : α0 → α1 → Prop} {C : Prop} (h : ∃ a0 a1, P0 a0 a1 ∧ P1 a0 a1) (k : ∀ a0 a1, P0 a0 a1 → P1 a0 a1 → C) : C := Exists.elim h (fun a0 e0 => Exists.elim e0 (fun a1 e1 => And.elim (fun h0 r0 => k a0 a1 h0 r0) e1))
theorem ex_2_3 {α0 α1 : Sort _} {P0 P1 P2 : α0 → α1 → Prop} {C : Prop} (h : ∃ a0 a1, P0 a0 a1 ∧ P1 a0 a1 ∧ P2 a0 a1) (k : ∀ a0 a1, P0 a0 a1 → P1 a0 a1 → P2 a0 a1 → C) : C := Exists.elim h (fun a0 e0 => Exists.elim e0 (fun a1 e1 => And.elim (fun h0 r0 => And.elim (fun h1 r1 => k a0 a1 h0 h1 r1) r0) e1))
theorem ex_2_4 {α0 α1 : Sort _} {P0 P1 P2 P3 : α0 → α1 → Prop} {C : Prop} (h : ∃ a0 a1, P0 a0 a1 ∧ P1 a0 a1 ∧ P2 a0 a1 ∧ P3 a0 a1) (k : ∀ a0 a1, P0 a0 a1 → P1 a0 a1 → P2 a0 a1 → P3 a0 a1 → C) : C := Exists.elim h (fun a0 e0 => Exists.elim e0 (fun a1 e1 => And.elim (fun h0 r0 => And.elim (fun h1 r1 => And.elim (fun h2 r2 => k a0 a1 h0 h1 h2 r2) r1) r0) e1))
theorem ex_2_5 {α0 α1 : Sort _} {P0 P1 P2 P3 P4 : α0 → α1 → Prop} {C : Prop} (h : ∃ a0 a1, P0 a0 a1 ∧ P1 a0 a1 ∧ P2 a0 a1 ∧ P3 a0 a1 ∧ P4 a0 a1) (k : ∀ a0 a1, P0 a0 a1 → P1 a0 a1 → P2 a0 a1 → P3 a0 a1 → P4 a0 a1 → C) : C := ex_2_1 h fun a0 a1 r => ex_0_5 r (k a0 a1)
theorem ex_3_1 {α0 α1 α2 : Sort _} {P0 : α0 → α1 → α2 → Prop} {C : Prop} (h : ∃ a0 a1 a2, P0 a0 a1 a2) (k : ∀ a0 a1 a2, P0 a0 a1 a2 → C) : C := Exists.elim h (fun a0 e0 => Exists.elim e0 (fun a1 e1 => Exists.elim e1 (fun a2 e2 => k a0 a1 a2 e2)))
theorem ex_3_2 {α0 α1 α2 : Sort _} {P0 P1 : α0 → α1 → α2 → Prop} {C : Prop} (h : ∃ a0 a1 a2, P0 a0 a1 a2 ∧ P1 a0 a1 a2) (k : ∀ a0 a1 a2, P0 a0 a1 a2 → P1 a0 a1 a2 → C) : C := Exists.elim h (fun a0 e0 => Exists.elim e0 (fun a1 e1 => Exists.elim e1 (fun a2 e2 => And.elim (fun h0 r0 => k a0 a1 a2 h0 r0) e2)))
theorem ex_3_3 {α0 α1 α2 : Sort _} {P0 P1 P2 : α0 → α1 → α2 → Prop} {C : Prop} (h : ∃ a0 a1 a2, P0 a0 a1 a2 ∧ P1 a0 a1 a2 ∧ P2 a0 a1 a2) (k : ∀ a0 a1 a2, P0 a0 a1 a2 → P1 a0 a1 a2 → P2 a0 a1 a2 → C) : C := Exists.elim h (fun a0 e0 => Exists.elim e0 (fun a1 e1 => Exists.elim e1 (fun a2 e2 => And.elim (fun h0 r0 => And.elim (fun h1 r1 => k a0 a1 a2 h0 h1 r1) r0) e2)))
theorem ex_3_4 {α0 α1 α2 : Sort _} {P0 P1 P2 P3 : α0 → α1 → α2 → Prop} {C : Prop} (h : ∃ a0 a1 a2, P0 a0 a1 a2 ∧ P1 a0 a1 a2 ∧ P2 a0 a1 a2 ∧ P3 a0 a1 a2) (k : ∀ a0 a1 a2, P0 a0 a1 a2 → P1 a0 a1 a2 → P2 a0 a1 a2 → P3 a0 a1 a2 → C) : C := Exists.elim h (fun a0 e0 => Exists.elim e0 (fun a1 e1 => Exists.elim e1 (fun a2 e2 => And.elim (fun h0 r0 => And.elim (fun h1 r1 => And.elim (fun h2 r2 => k a0 a1 a2 h0 h1 h2 r2) r1) r0) e2)))
theorem ex_3_5 {α0 α1 α2 : Sort _} {P0 P1 P2 P3 P4 : α0 → α1 → α2 → Prop} {C : Prop} (h : ∃ a0 a1 a2, P0 a0 a1 a2 ∧ P1 a0 a1 a2 ∧ P2 a0 a1 a2 ∧ P3 a0 a1 a2 ∧ P4 a0 a1 a2) (k : ∀ a0 a1 a2, P0 a0 a1 a2 → P1 a0 a1 a2 → P2 a0 a1 a2 → P3 a0 a1 a2 → P4 a0 a1 a2 → C) : C := ex_3_1 h fun a0 a1 a2 r => ex_0_5 r (k a0 a1 a2)
theorem ex_3_6 {α0 α1 α2 : Sort _} {P0 P1 P2 P3 P4 P5 : α0 → α1 → α2 → Prop} {C : Prop} (h : ∃ a0 a1 a2, P0 a0 a1 a2 ∧ P1 a0 a1 a2 ∧ P2 a0 a1 a2 ∧ P3 a0 a1 a2 ∧ P4 a0 a1 a2 ∧ P5 a0 a1 a2) (k : ∀ a0 a1 a2, P0 a0 a1 a2 → P1 a0 a1 a2 → P2 a0 a1 a2 → P3 a0 a1 a2 → P4 a0 a1 a2 → P5 a0 a1 a2 → C) : C := ex_3_1 h fun a0 a1 a2 r => ex_0_6 r (k a0 a1 a2)
theorem ex_4_2 {α0 α1 α2 α3 : Sort _} {P0 P1 : α0 → α1 → α2 → α3 → Prop} {C : Prop} (h : ∃ a0 a1 a2 a3, P0 a0 a1 a2 a3 ∧ P1 a0 a1 a2 a3) (k : ∀ a0 a1 a2 a3, P0 a0 a1 a2 a3 → P1 a0 a1 a2 a3 → C) : C := Exists.elim h (fun a0 e0 => Exists.elim e0 (fun a1 e1 => Exists.elim e1 (fun a2 e2 => Exists.elim e2 (fun a3 e3 => And.elim (fun h0 r0 => k a0 a1 a2 a3 h0 r0) e3))))
theorem ex_4_3 {α0 α1 α2 α3 : Sort _} {P0 P1 P2 : α0 → α1 → α2 → α3 → Prop} {C : Prop} (h : ∃ a0 a1 a2 a3, P0 a0 a1 a2 a3 ∧ P1 a0 a1 a2 a3 ∧ P2 a0 a1 a2 a3) (k : ∀ a0 a1 a2 a3, P0 a0 a1 a2 a3 → P1 a0 a1 a2 a3 → P2 a0 a1 a2 a3 → C) : C := Exists.elim h (fun a0 e0 => Exists.elim e0 (fun a1 e1 => Exists.elim e1 (fun a2 e2 => Exists.elim e2 (fun a3 e3 => And.elim (fun h0 r0 => And.elim (fun h1 r1 => k a0 a1 a2 a3 h0 h1 r1) r0) e3))))
theorem ex_4_1 {α0 α1 α2 α3 : Sort _} {P0 : α0 → α1 → α2 → α3 → Prop} {C : Prop} (h : ∃ a0 a1 a2 a3, P0 a0 a1 a2 a3) (k : ∀ a0 a1 a2 a3, P0 a0 a1 a2 a3 → C) : C := Exists.elim h (fun a0 e0 => Exists.elim e0 (fun a1 e1 => Exists.elim e1 (fun a2 e2 => Exists.elim e2 (fun a3 e3 => k a0 a1 a2 a3 e3))))
theorem ex_4_6 {α0 α1 α2 α3 : Sort _} {P0 P1 P2 P3 P4 P5 : α0 → α1 → α2 → α3 → Prop} {C : Prop} (h : ∃ a0 a1 a2 a3, P0 a0 a1 a2 a3 ∧ P1 a0 a1 a2 a3 ∧ P2 a0 a1 a2 a3 ∧ P3 a0 a1 a2 a3 ∧ P4 a0 a1 a2 a3 ∧ P5 a0 a1 a2 a3) (k : ∀ a0 a1 a2 a3, P0 a0 a1 a2 a3 → P1 a0 a1 a2 a3 → P2 a0 a1 a2 a3 → P3 a0 a1 a2 a3 → P4 a0 a1 a2 a3 → P5 a0 a1 a2 a3 → C) : C := ex_4_1 h fun a0 a1 a2 a3 r => ex_0_6 r (k a0 a1 a2 a3)
theorem ex_5_2 {α0 α1 α2 α3 α4 : Sort _} {P0 P1 : α0 → α1 → α2 → α3 → α4 → Prop} {C : Prop} (h : ∃ a0 a1 a2 a3 a4, P0 a0 a1 a2 a3 a4 ∧ P1 a0 a1 a2 a3 a4) (k : ∀ a0 a1 a2 a3 a4, P0 a0 a1 a2 a3 a4 → P1 a0 a1 a2 a3 a4 → C) : C := ex_4_1 h fun a0 a1 a2 a3 r => ex_1_2 r (k a0 a1 a2 a3)
theorem ex_5_3 {α0 α1 α2 α3 α4 : Sort _} {P0 P1 P2 : α0 → α1 → α2 → α3 → α4 → Prop} {C : Prop} (h : ∃ a0 a1 a2 a3 a4, P0 a0 a1 a2 a3 a4 ∧ P1 a0 a1 a2 a3 a4 ∧ P2 a0 a1 a2 a3 a4) (k : ∀ a0 a1 a2 a3 a4, P0 a0 a1 a2 a3 a4 → P1 a0 a1 a2 a3 a4 → P2 a0 a1 a2 a3 a4 → C) : C := ex_4_1 h fun a0 a1 a2 a3 r => ex_1_3 r (k a0 a1 a2 a3)
theorem ex_5_4 {α0 α1 α2 α3 α4 : Sort _} {P0 P1 P2 P3 : α0 → α1 → α2 → α3 → α4 → Prop} {C : Prop} (h : ∃ a0 a1 a2 a3 a4, P0 a0 a1 a2 a3 a4 ∧ P1 a0 a1 a2 a3 a4 ∧ P2 a0 a1 a2 a3 a4 ∧ P3 a0 a1 a2 a3 a4) (k : ∀ a0 a1 a2 a3 a4, P0 a0 a1 a2 a3 a4 → P1 a0 a1 a2 a3 a4 → P2 a0 a1 a2 a3 a4 → P3 a0 a1 a2 a3 a4 → C) : C := ex_4_1 h fun a0 a1 a2 a3 r => ex_1_4 r (k a0 a1 a2 a3)
theorem ex_5_5 {α0 α1 α2 α3 α4 : Sort _} {P0 P1 P2 P3 P4 : α0 → α1 → α2 → α3 → α4 → Prop} {C : Prop} (h : ∃ a0 a1 a2 a3 a4, P0 a0 a1 a2 a3 a4 ∧ P1 a0 a1 a2 a3 a4 ∧ P2 a0 a1 a2 a3 a4 ∧ P3 a0 a1 a2 a3 a4 ∧ P4 a0 a1 a2 a3 a4) (k : ∀ a0 a1 a2 a3 a4, P0 a0 a1 a2 a3 a4 → P1 a0 a1 a2 a3 a4 → P2 a0 a1 a2 a3 a4 → P3 a0 a1 a2 a3 a4 → P4 a0 a1 a2 a3 a4 → C) : C := ex_4_1 h fun a0 a1 a2 a3 r => ex_1_5 r (k a0 a1 a2 a3)
theorem ex_1_7 {α0 : Sort _} {P0 P1 P2 P3 P4 P5 P6 : α0 → Prop} {C : Prop} (h : ∃ a0, P0 a0 ∧ P1 a0 ∧ P2 a0 ∧ P3 a0 ∧ P4 a0 ∧ P5 a0 ∧ P6 a0) (k : ∀ a0, P0 a0 → P1 a0 → P2 a0 → P3 a0 → P4 a0 → P5 a0 → P6 a0 → C) : C := ex_1_1 h fun a0 r => ex_0_7 r (k a0)
theorem ex_5_7 {α0 α1 α2 α3 α4 : Sort _} {P0 P1 P2 P3 P4 P5 P6 : α0 → α1 → α2 → α3 → α4 → Prop} {C : Prop} (h : ∃ a0 a1 a2 a3 a4, P0 a0 a1 a2 a3 a4 ∧ P1 a0 a1 a2 a3 a4 ∧ P2 a0 a1 a2 a3 a4 ∧ P3 a0 a1 a2 a3 a4 ∧ P4 a0 a1 a2 a3 a4 ∧ P5 a0 a1 a2 a3 a4 ∧ P6 a0 a1 a2 a3 a4) (k : ∀ a0 a1 a2 a3 a4, P0 a0 a1 a2 a3 a4 → P1 a0 a1 a2 a3 a4 → P2 a0 a1 a2 a3 a4 → P3 a0 a1 a2 a3 a4 → P4 a0 a1 a2 a3 a4 → P5 a0 a1 a2 a3 a4 → P6 a0 a1 a2 a3 a4 → C) : C := ex_4_1 h fun a0 a1 a2 a3 r => ex_1_7 r (k a0 a1 a2 a3)
theorem ex_6_2 {α0 α1 α2 α3 α4 α5 : Sort _} {P0 P1 : α0 → α1 → α2 → α3 → α4 → α5 → Prop} {C : Prop} (h : ∃ a0 a1 a2 a3 a4 a5, P0 a0 a1 a2 a3 a4 a5 ∧ P1 a0 a1 a2 a3 a4 a5) (k : ∀ a0 a1 a2 a3 a4 a5, P0 a0 a1 a2 a3 a4 a5 → P1 a0 a1 a2 a3 a4 a5 → C) : C := ex_4_1 h fun a0 a1 a2 a3 r => ex_2_2 r (k a0 a1 a2 a3)
theorem ex_7_2 {α0 α1 α2 α3 α4 α5 α6 : Sort _} {P0 P1 : α0 → α1 → α2 → α3 → α4 → α5 → α6 → Prop} {C : Prop} (h : ∃ a0 a1 a2 a3 a4 a5 a6, P0 a0 a1 a2 a3 a4 a5 a6 ∧ P1 a0 a1 a2 a3 a4 a5 a6) (k : ∀ a0 a1 a2 a3 a4 a5 a6, P0 a0 a1 a2 a3 a4 a5 a6 → P1 a0 a1 a2 a3 a4 a5 a6 → C) : C := ex_4_1 h fun a0 a1 a2 a3 r => ex_3_2 r (k a0 a1 a2 a3)
theorem ex_0_10 {P0 P1 P2 P3 P4 P5 P6 P7 P8 P9 : Prop} {C : Prop} (h : P0 ∧ P1 ∧ P2 ∧ P3 ∧ P4 ∧ P5 ∧ P6 ∧ P7 ∧ P8 ∧ P9) (k : P0 → P1 → P2 → P3 → P4 → P5 → P6 → P7 → P8 → P9 → C) : C := ex_0_5 h fun h0 h1 h2 h3 r => ex_0_6 r (k h0 h1 h2 h3)
theorem ex_0_14 {P0 P1 P2 P3 P4 P5 P6 P7 P8 P9 P10 P11 P12 P13 : Prop} {C : Prop} (h : P0 ∧ P1 ∧ P2 ∧ P3 ∧ P4 ∧ P5 ∧ P6 ∧ P7 ∧ P8 ∧ P9 ∧ P10 ∧ P11 ∧ P12 ∧ P13) (k : P0 → P1 → P2 → P3 → P4 → P5 → P6 → P7 → P8 → P9 → P10 → P11 → P12 → P13 → C) : C := ex_0_5 h fun h0 h1 h2 h3 r => ex_0_10 r (k h0 h1 h2 h3)
theorem ex_3_14 {α0 α1 α2 : Sort _} {P0 P1 P2 P3 P4 P5 P6 P7 P8 P9 P10 P11 P12 P13 : α0 → α1 → α2 → Prop} {C : Prop} (h : ∃ a0 a1 a2, P0 a0 a1 a2 ∧ P1 a0 a1 a2 ∧ P2 a0 a1 a2 ∧ P3 a0 a1 a2 ∧ P4 a0 a1 a2 ∧ P5 a0 a1 a2 ∧ P6 a0 a1 a2 ∧ P7 a0 a1 a2 ∧ P8 a0 a1 a2 ∧ P9 a0 a1 a2 ∧ P10 a0 a1 a2 ∧ P11 a0 a1 a2 ∧ P12 a0 a1 a2 ∧ P13 a0 a1 a2) (k : ∀ a0 a1 a2, P0 a0 a1 a2 → P1 a0 a1 a2 → P2 a0 a1 a2 → P3 a0 a1 a2 → P4 a0 a1 a2 → P5 a0 a1 a2 → P6 a0 a1 a2 → P7 a0 a1 a2 → P8 a0 a1 a2 → P9 a0 a1 a2 → P10 a0 a1 a2 → P11 a0 a1 a2 → P12 a0 a1 a2 → P13 a0 a1 a2 → C) : C := ex_3_1 h fun a0 a1 a2 r => ex_0_14 r (k a0 a1 a2)
theorem ex_7_14 {α0 α1 α2 α3 α4 α5 α6 : Sort _} {P0 P1 P2 P3 P4 P5 P6 P7 P8 P9 P10 P11 P12 P13 : α0 → α1 → α2 → α3 → α4 → α5 → α6 → Prop} {C : Prop} (h : ∃ a0 a1 a2 a3 a4 a5 a6, P0 a0 a1 a2 a3 a4 a5 a6 ∧ P1 a0 a1 a2 a3 a4 a5 a6 ∧ P2 a0 a1 a2 a3 a4 a5 a6 ∧ P3 a0 a1 a2 a3 a4 a5 a6 ∧ P4 a0 a1 a2 a3 a4 a5 a6 ∧ P5 a0 a1 a2 a3 a4 a5 a6 ∧ P6 a0 a1 a2 a3 a4 a5 a6 ∧ P7 a0 a1 a2 a3 a4 a5 a6 ∧ P8 a0 a1 a2 a3 a4 a5 a6 ∧ P9 a0 a1 a2 a3 a4 a5 a6 ∧ P10 a0 a1 a2 a3 a4 a5 a6 ∧ P11 a0 a1 a2 a3 a4 a5 a6 ∧ P12 a0 a1 a2 a3 a4 a5 a6 ∧ P13 a0 a1 a2 a3 a4 a5 a6) (k : ∀ a0 a1 a2 a3 a4 a5 a6, P0 a0 a1 a2 a3 a4 a5 a6 → P1 a0 a1 a2 a3 a4 a5 a6 → P2 a0 a1 a2 a3 a4 a5 a6 → P3 a0 a1 a2 a3 a4 a5 a6 → P4 a0 a1 a2 a3 a4 a5 a6 → P5 a0 a1 a2 a3 a4 a5 a6 → P6 a0 a1 a2 a3 a4 a5 a6 → P7 a0 a1 a2 a3 a4 a5 a6 → P8 a0 a1 a2 a3 a4 a5 a6 → P9 a0 a1 a2 a3 a4 a5 a6 → P10 a0 a1 a2 a3 a4 a5 a6 → P11 a0 a1 a2 a3 a4 a5 a6 → P12 a0 a1 a2 a3 a4 a5 a6 → P13 a0 a1 a2 a3 a4 a5 a6 → C) : C := ex_4_1 h fun a0 a1 a2 a3 r => ex_3_14 r (k a0 a1 a2 a3)
theorem ex_8_3 {α0 α1 α2 α3 α4 α5 α6 α7 : Sort _} {P0 P1 P2 : α0 → α1 → α2 → α3 → α4 → α5 → α6 → α7 → Prop} {C : Prop} (h : ∃ a0 a1 a2 a3 a4 a5 a6 a7, P0 a0 a1 a2 a3 a4 a5 a6 a7 ∧ P1 a0 a1 a2 a3 a4 a5 a6 a7 ∧ P2 a0 a1 a2 a3 a4 a5 a6 a7) (k : ∀ a0 a1 a2 a3 a4 a5 a6 a7, P0 a0 a1 a2 a3 a4 a5 a6 a7 → P1 a0 a1 a2 a3 a4 a5 a6 a7 → P2 a0 a1 a2 a3 a4 a5 a6 a7 → C) : C := ex_4_1 h fun a0 a1 a2 a3 r => ex_4_3 r (k a0 a1 a2 a3)
theorem ex_4_5 {α0 α1 α2 α3 : Sort _} {P0 P1 P2 P3 P4 : α0 → α1 → α2 → α3 → Prop} {C : Prop} (h : ∃ a0 a1 a2 a3, P0 a0 a1 a2 a3 ∧ P1 a0 a1 a2 a3 ∧ P2 a0 a1 a2 a3 ∧ P3 a0 a1 a2 a3 ∧ P4 a0 a1 a2 a3) (k : ∀ a0 a1 a2 a3, P0 a0 a1 a2 a3 → P1 a0 a1 a2 a3 → P2 a0 a1 a2 a3 → P3 a0 a1 a2 a3 → P4 a0 a1 a2 a3 → C) : C := ex_4_1 h fun a0 a1 a2 a3 r => ex_0_5 r (k a0 a1 a2 a3)
theorem ex_8_5 {α0 α1 α2 α3 α4 α5 α6 α7 : Sort _} {P0 P1 P2 P3 P4 : α0 → α1 → α2 → α3 → α4 → α5 → α6 → α7 → Prop} {C : Prop} (h : ∃ a0 a1 a2 a3 a4 a5 a6 a7, P0 a0 a1 a2 a3 a4 a5 a6 a7 ∧ P1 a0 a1 a2 a3 a4 a5 a6 a7 ∧ P2 a0 a1 a2 a3 a4 a5 a6 a7 ∧ P3 a0 a1 a2 a3 a4 a5 a6 a7 ∧ P4 a0 a1 a2 a3 a4 a5 a6 a7) (k : ∀ a0 a1 a2 a3 a4 a5 a6 a7, P0 a0 a1 a2 a3 a4 a5 a6 a7 → P1 a0 a1 a2 a3 a4 a5 a6 a7 → P2 a0 a1 a2 a3 a4 a5 a6 a7 → P3 a0 a1 a2 a3 a4 a5 a6 a7 → P4 a0 a1 a2 a3 a4 a5 a6 a7 → C) : C := ex_4_1 h fun a0 a1 a2 a3 r => ex_4_5 r (k a0 a1 a2 a3)
theorem ex_7_3 {α0 α1 α2 α3 α4 α5 α6 : Sort _} {P0 P1 P2 : α0 → α1 → α2 → α3 → α4 → α5 → α6 → Prop} {C : Prop} (h : ∃ a0 a1 a2 a3 a4 a5 a6, P0 a0 a1 a2 a3 a4 a5 a6 ∧ P1 a0 a1 a2 a3 a4 a5 a6 ∧ P2 a0 a1 a2 a3 a4 a5 a6) (k : ∀ a0 a1 a2 a3 a4 a5 a6, P0 a0 a1 a2 a3 a4 a5 a6 → P1 a0 a1 a2 a3 a4 a5 a6 → P2 a0 a1 a2 a3 a4 a5 a6 → C) : C := ex_4_1 h fun a0 a1 a2 a3 r => ex_3_3 r (k a0 a1 a2 a3)
theorem ex_11_3 {α0 α1 α2 α3 α4 α5 α6 α7 α8 α9 α10 : Sort _} {P0 P1 P2 : α0 → α1 → α2 → α3 → α4 → α5 → α6 → α7 → α8 → α9 → α10 → Prop} {C : Prop} (h : ∃ a0 a1 a2 a3 a4 a5 a6 a7 a8 a9 a10, P0 a0 a1 a2 a3 a4 a5 a6 a7 a8 a9 a10 ∧ P1 a0 a1 a2 a3 a4 a5 a6 a7 a8 a9 a10 ∧ P2 a0 a1 a2 a3 a4 a5 a6 a7 a8 a9 a10) (k : ∀ a0 a1 a2 a3 a4 a5 a6 a7 a8 a9 a10, P0 a0 a1 a2 a3 a4 a5 a6 a7 a8 a9 a10 → P1 a0 a1 a2 a3 a4 a5 a6 a7 a8 a9 a10 → P2 a0 a1 a2 a3 a4 a5 a6 a7 a8 a9 a10 → C) : C := ex_4_1 h fun a0 a1 a2 a3 r => ex_7_3 r (k a0 a1 a2 a3)
theorem ex_4_4 {α0 α1 α2 α3 : Sort _} {P0 P1 P2 P3 : α0 → α1 → α2 → α3 → Prop} {C : Prop} (h : ∃ a0 a1 a2 a3, P0 a0 a1 a2 a3 ∧ P1 a0 a1 a2 a3 ∧ P2 a0 a1 a2 a3 ∧ P3 a0 a1 a2 a3) (k : ∀ a0 a1 a2 a3, P0 a0 a1 a2 a3 → P1 a0 a1 a2 a3 → P2 a0 a1 a2 a3 → P3 a0 a1 a2 a3 → C) : C := Exists.elim h (fun a0 e0 => Exists.elim e0 (fun a1 e1 => Exists.elim e1 (fun a2 e2 => Exists.elim e2 (fun a3 e3 => And.elim (fun h0 r0 => And.elim (fun h1 r1 => And.elim (fun h2 r2 => k a0 a1 a2 a3 h0 h1 h2 r2) r1) r0) e3))))
theorem ex_8_4 {α0 α1 α2 α3 α4 α5 α6 α7 : Sort _} {P0 P1 P2 P3 : α0 → α1 → α2 → α3 → α4 → α5 → α6 → α7 → Prop} {C : Prop} (h : ∃ a0 a1 a2 a3 a4 a5 a6 a7, P0 a0 a1 a2 a3 a4 a5 a6 a7 ∧ P1 a0 a1 a2 a3 a4 a5 a6 a7 ∧ P2 a0 a1 a2 a3 a4 a5 a6 a7 ∧ P3 a0 a1 a2 a3 a4 a5 a6 a7) (k : ∀ a0 a1 a2 a3 a4 a5 a6 a7, P0 a0 a1 a2 a3 a4 a5 a6 a7 → P1 a0 a1 a2 a3 a4 a5 a6 a7 → P2 a0 a1 a2 a3 a4 a5 a6 a7 → P3 a0 a1 a2 a3 a4 a5 a6 a7 → C) : C := ex_4_1 h fun a0 a1 a2 a3 r => ex_4_4 r (k a0 a1 a2 a3)
theorem ex_12_4 {α0 α1 α2 α3 α4 α5 α6 α7 α8 α9 α10 α11 : Sort _} {P0 P1 P2 P3 : α0 → α1 → α2 → α3 → α4 → α5 → α6 → α7 → α8 → α9 → α10 → α11 → Prop} {C : Prop} (h : ∃ a0 a1 a2 a3 a4 a5 a6 a7 a8 a9 a10 a11, P0 a0 a1 a2 a3 a4 a5 a6 a7 a8 a9 a10 a11 ∧ P1 a0 a1 a2 a3 a4 a5 a6 a7 a8 a9 a10 a11 ∧ P2 a0 a1 a2 a3 a4 a5 a6 a7 a8 a9 a10 a11 ∧ P3 a0 a1 a2 a3 a4 a5 a6 a7 a8 a9 a10 a11) (k : ∀ a0 a1 a2 a3 a4 a5 a6 a7 a8 a9 a10 a11, P0 a0 a1 a2 a3 a4 a5 a6 a7 a8 a9 a10 a11 → P1 a0 a1 a2 a3 a4 a5 a6 a7 a8 a9 a10 a11 → P2 a0 a1 a2 a3 a4 a5 a6 a7 a8 a9 a10 a11 → P3 a0 a1 a2 a3 a4 a5 a6 a7 a8 a9 a10 a11 → C) : C := ex_4_1 h fun a0 a1 a2 a3 r => ex_8_4 r (k a0 a1 a2 a3)
theorem ex_16_4 {α0 α1 α2 α3 α4 α5 α6 α7 α8 α9 α10 α11 α12 α13 α14 α15 : Sort _} {P0 P1 P2 P3 : α0 → α1 → α2 → α3 → α4 → α5 → α6 → α7 → α8 → α9 → α10 → α11 → α12 → α13 → α14 → α15 → Prop} {C : Prop} (h : ∃ a0 a1 a2 a3 a4 a5 a6 a7 a8 a9 a10 a11 a12 a13 a14 a15, P0 a0 a1 a2 a3 a4 a5 a6 a7 a8 a9 a10 a11 a12 a13 a14 a15 ∧ P1 a0 a1 a2 a3 a4 a5 a6 a7 a8 a9 a10 a11 a12 a13 a14 a15 ∧ P2 a0 a1 a2 a3 a4 a5 a6 a7 a8 a9 a10 a11 a12 a13 a14 a15 ∧ P3 a0 a1 a2 a3 a4 a5 a6 a7 a8 a9 a10 a11 a12 a13 a14 a15) (k : ∀ a0 a1 a2 a3 a4 a5 a6 a7 a8 a9 a10 a11 a12 a13 a14 a15, P0 a0 a1 a2 a3 a4 a5 a6 a7 a8 a9 a10 a11 a12 a13 a14 a15 → P1 a0 a1 a2 a3 a4 a5 a6 a7 a8 a9 a10 a11 a12 a13 a14 a15 → P2 a0 a1 a2 a3 a4 a5 a6 a7 a8 a9 a10 a11 a12 a13 a14 a15 → P3 a0 a1 a2 a3 a4 a5 a6 a7 a8 a9 a10 a11 a12 a13 a14 a15 → C) : C := ex_4_1 h fun a0 a1 a2 a3 r => ex_12_4 r (k a0 a1 a2 a3)
theorem ex_4_10 {α0 α1 α2 α3 : Sort _} {P0 P1 P2 P3 P4 P5 P6 P7 P8 P9 : α0 → α1 → α2 → α3 → Prop} {C : Prop} (h : ∃ a0 a1 a2 a3, P0 a0 a1 a2 a3 ∧ P1 a0 a1 a2 a3 ∧ P2 a0 a1 a2 a3 ∧ P3 a0 a1 a2 a3 ∧ P4 a0 a1 a2 a3 ∧ P5 a0 a1 a2 a3 ∧ P6 a0 a1 a2 a3 ∧ P7 a0 a1 a2 a3 ∧ P8 a0 a1 a2 a3 ∧ P9 a0 a1 a2 a3) (k : ∀ a0 a1 a2 a3, P0 a0 a1 a2 a3 → P1 a0 a1 a2 a3 → P2 a0 a1 a2 a3 → P3 a0 a1 a2 a3 → P4 a0 a1 a2 a3 → P5 a0 a1 a2 a3 → P6 a0 a1 a2 a3 → P7 a0 a1 a2 a3 → P8 a0 a1 a2 a3 → P9 a0 a1 a2 a3 → C) : C := ex_4_1 h fun a0 a1 a2 a3 r => ex_0_10 r (k a0 a1 a2 a3)
theorem ex_8_10 {α0 α1 α2 α3 α4 α5 α6 α7 : Sort _} {P0 P1 P2 P3 P4 P5 P6 P7 P8 P9 : α0 → α1 → α2 → α3 → α4 → α5 → α6 → α7 → Prop} {C : Prop} (h : ∃ a0 a1 a2 a3 a4 a5 a6 a7, P0 a0 a1 a2 a3 a4 a5 a6 a7 ∧ P1 a0 a1 a2 a3 a4 a5 a6 a7 ∧ P2 a0 a1 a2 a3 a4 a5 a6 a7 ∧ P3 a0 a1 a2 a3 a4 a5 a6 a7 ∧ P4 a0 a1 a2 a3 a4 a5 a6 a7 ∧ P5 a0 a1 a2 a3 a4 a5 a6 a7 ∧ P6 a0 a1 a2 a3 a4 a5 a6 a7 ∧ P7 a0 a1 a2 a3 a4 a5 a6 a7 ∧ P8 a0 a1 a2 a3 a4 a5 a6 a7 ∧ P9 a0 a1 a2 a3 a4 a5 a6 a7) (k : ∀ a0 a1 a2 a3 a4 a5 a6 a7, P0 a0 a1 a2 a3 a4 a5 a6 a7 → P1 a0 a1 a2 a3 a4 a5 a6 a7 → P2 a0 a1 a2 a3 a4 a5 a6 a7 → P3 a0 a1 a2 a3 a4 a5 a6 a7 → P4 a0 a1 a2 a3 a4 a5 a6 a7 → P5 a0 a1 a2 a3 a4 a5 a6 a7 → P6 a0 a1 a2 a3 a4 a5 a6 a7 → P7 a0 a1 a2 a3 a4 a5 a6 a7 → P8 a0 a1 a2 a3 a4 a5 a6 a7 → P9 a0 a1 a2 a3 a4 a5 a6 a7 → C) : C := ex_4_1 h fun a0 a1 a2 a3 r => ex_4_10 r (k a0 a1 a2 a3)
theorem ex_12_10 {α0 α1 α2 α3 α4 α5 α6 α7 α8 α9 α10 α11 : Sort _} {P0 P1 P2 P3 P4 P5 P6 P7 P8 P9 : α0 → α1 → α2 → α3 → α4 → α5 → α6 → α7 → α8 → α9 → α10 → α11 → Prop} {C : Prop} (h : ∃ a0 a1 a2 a3 a4 a5 a6 a7 a8 a9 a10 a11, P0 a0 a1 a2 a3 a4 a5 a6 a7 a8 a9 a10 a11 ∧ P1 a0 a1 a2 a3 a4 a5 a6 a7 a8 a9 a10 a11 ∧ P2 a0 a1 a2 a3 a4 a5 a6 a7 a8 a9 a10 a11 ∧ P3 a0 a1 a2 a3 a4 a5 a6 a7 a8 a9 a10 a11 ∧ P4 a0 a1 a2 a3 a4 a5 a6 a7 a8 a9 a10 a11 ∧ P5 a0 a1 a2 a3 a4 a5 a6 a7 a8 a9 a10 a11 ∧ P6 a0 a1 a2 a3 a4 a5 a6 a7 a8 a9 a10 a11 ∧ P7 a0 a1 a2 a3 a4 a5 a6 a7 a8 a9 a10 a11 ∧ P8 a0 a1 a2 a3 a4 a5 a6 a7 a8 a9 a10 a11 ∧ P9 a0 a1 a2 a3 a4 a5 a6 a7 a8 a9 a10 a11) (k : ∀ a0 a1 a2 a3 a4 a5 a6 a7 a8 a9 a10 a11, P0 a0 a1 a2 a3 a4 a5 a6 a7 a8 a9 a10 a11 → P1 a0 a1 a2 a3 a4 a5 a6 a7 a8 a9 a10 a11 → P2 a0 a1 a2 a3 a4 a5 a6 a7 a8 a9 a10 a11 → P3 a0 a1 a2 a3 a4 a5 a6 a7 a8 a9 a10 a11 → P4 a0 a1 a2 a3 a4 a5 a6 a7 a8 a9 a10 a11 → P5 a0 a1 a2 a3 a4 a5 a6 a7 a8 a9 a10 a11 → P6 a0 a1 a2 a3 a4 a5 a6 a7 a8 a9 a10 a11 → P7 a0 a1 a2 a3 a4 a5 a6 a7 a8 a9 a10 a11 → P8 a0 a1 a2 a3 a4 a5 a6 a7 a8 a9 a10 a11 → P9 a0 a1 a2 a3 a4 a5 a6 a7 a8 a9 a10 a11 → C) : C := ex_4_1 h fun a0 a1 a2 a3 r => ex_8_10 r (k a0 a1 a2 a3)
theorem ex_16_10 {α0 α1 α2 α3 α4 α5 α6 α7 α8 α9 α10 α11 α12 α13 α14 α15 : Sort _} {P0 P1 P2 P3 P4 P5 P6 P7 P8 P9 : α0 → α1 → α2 → α3 → α4 → α5 → α6 → α7 → α8 → α9 → α10 → α11 → α12 → α13 → α14 → α15 → Prop} {C : Prop} (h : ∃ a0 a1 a2 a3 a4 a5 a6 a7 a8 a9 a10 a11 a12 a13 a14 a15, P0 a0 a1 a2 a3 a4 a5 a6 a7 a8 a9 a10 a11 a12 a13 a14 a15 ∧ P1 a0 a1 a2 a3 a4 a5 a6 a7 a8 a9 a10 a11 a12 a13 a14 a15 ∧ P2 a0 a1 a2 a3 a4 a5 a6 a7 a8 a9 a10 a11 a12 a13 a14 a15 ∧ P3 a0 a1 a2 a3 a4 a5 a6 a7 a8 a9 a10 a11 a12 a13 a14 a15 ∧ P4 a0 a1 a2 a3 a4 a5 a6 a7 a8 a9 a10 a11 a12 a13 a14 a15 ∧ P5 a0 a1 a2 a3 a4 a5 a6 a7 a8 a9 a10 a11 a12 a13 a14 a15 ∧ P6 a0 a1 a2 a3 a4 a5 a6 a7 a8 a9 a10 a11 a12 a13 a14 a15 ∧ P7 a0 a1 a2 a3 a4 a5 a6 a7 a8 a9 a10 a11 a12 a13 a14 a15 ∧ P8 a0 a1 a2 a3 a4 a5 a6 a7 a8 a9 a10 a11 a12 a13 a14 a15 ∧ P9 a0 a1 a2 a3 a4 a5 a6 a7 a8 a9 a10 a11 a12 a13 a14 a15) (k : ∀ a0 a1 a2 a3 a4 a5 a6 a7 a8 a9 a10 a11 a12 a13 a14 a15, P0 a0 a1 a2 a3 a4 a5 a6 a7 a8 a9 a10 a11 a12 a13 a14 a15 → P1 a0 a1 a2 a3 a4 a5 a6 a7 a8 a9 a10 a11 a12 a13 a14 a15 → P2 a0 a1 a2 a3 a4 a5 a6 a7 a8 a9 a10 a11 a12 a13 a14 a15 → P3 a0 a1 a2 a3 a4 a5 a6 a7 a8 a9 a10 a11 a12 a13 a14 a15 → P4 a0 a1 a2 a3 a4 a5 a6 a7 a8 a9 a10 a11 a12 a13 a14 a15 → P5 a0 a1 a2 a3 a4 a5 a6 a7 a8 a9 a10 a11 a12 a13 a14 a15 → P6 a0 a1 a2 a3 a4 a5 a6 a7 a8 a9 a10 a11 a12 a13 a14 a15 → P7 a0 a1 a2 a3 a4 a5 a6 a7 a8 a9 a10 a11 a12 a13 a14 a15 → P8 a0 a1 a2 a3 a4 a5 a6 a7 a8 a9 a10 a11 a12 a13 a14 a15 → P9 a0 a1 a2 a3 a4 a5 a6 a7 a8 a9 a10 a11 a12 a13 a14 a15 → C) : C := ex_4_1 h fun a0 a1 a2 a3 r => ex_12_10 r (k a0 a1 a2 a3)
local macro_rules | `(tactic| walk_at $s:str) => do
  let k := Lean.Syntax.mkStrLit ("my " ++ s.getString)
  `(tactic| k_extra $k)
local macro_rules | `(tactic| k_all) => `(tactic| assumption)
local macro_rules | `(tactic| k_ne) => `(tactic| walk_at "m_kne")
local macro_rules | `(tactic| ktr_room) => `(tactic| walk_at "m_kroom")
local macro_rules | `(tactic| ktr_units) => `(tactic| walk_at "m_kunits")
theorem reg_54 : True := by
  k_with "my m_om" => (first | assumption | (refine Mine.seg_le ?_; assumption) | (as_aux_lemma => (first | (purse 100000 => (first | lia | omega)) | (first | lia | omega))))
  k_with "my eval Name" => ((k_here; (with_reducible show wpAny _ _ (eval _ (envOf _ _ _ _ _)) _ _ _); k_dflt (refine' ld ?k1ₘ ?k2ₘ ?_; (case k1ₘ => with_reducible assumption); (case k2ₘ => exact @rfl _ (some _)); k_whole)))
  k_with "my getMethod bytes" => ((k_here; (first | with_reducible refine Mine.find_meth ?_ | with_reducible refine Mine.strip_meth ?_ | with_reducible refine Mine.rstrip_meth ?_ | with_reducible refine Mine.join_meth ?_)))
  k_with "my call builtin:bytes.find" => ((k_here; k_dflt (refine Mine.find_nat ?zₘ ?_ ?_; (case zₘ => walk_at "m_om")); (intro fHₘ; (first | (intro fI1ₘ fI2ₘ _ _) | (intro fEₘ fI1ₘ fI2ₘ _ _) | intro _ _))))
  k_with "my subscriptTail" => ((k_here; (with_reducible show wpAny _ _ (subscriptTail _ _ (Value.bytes _ _) (Value.int _ _)) _ _ _); k_dflt (refine' Mine.item_B ?zₘ ?bₘ ?_ ; (case zₘ => walk_at "m_om"); (case bₘ => walk_at "m_om"); k_whole); intro _ _))
  k_with "my subscriptTail" => ((k_here; (with_reducible show wpAny _ _ (subscriptTail _ (PySem.Expr.Slice _ _ none _) (Value.bytes _ _) (Value.ref _)) _ _ _); (with_reducible rename Fr _ _ _ _ => F'ₘ); (with_reducible rename News _ _ _ _ => N'ₘ); k_dflt ((first | ((with_reducible show wpAny _ _ (subscriptTail _ (PySem.Expr.Slice (some _) (some _) none _) _ _) _ _ _); refine' Mine.slice_nn (s := ⟨_, _, _, _, _⟩) F'ₘ N'ₘ ?zₘ ?_) | ((with_reducible show wpAny _ _ (subscriptTail _ (PySem.Expr.Slice (some _) none none _) _ _) _ _ _); refine' Mine.slice_n (s := ⟨_, _, _, _, _⟩) F'ₘ N'ₘ ?zₘ ?_) | ((with_reducible show wpAny _ _ (subscriptTail _ (PySem.Expr.Slice none (some _) none _) _ _) _ _ _); refine' Mine.slice_upto (s := ⟨_, _, _, _, _⟩) F'ₘ N'ₘ ?zₘ ?_)); (case zₘ => walk_at "m_om"); k_whole); intro _ _ _ _ _))
  k_with "my binaryOp Add int int" => ((k_here; (first | with_reducible refine Mine.add_one ?_ | with_reducible refine Mine.add_nat ?_); intro _ _))
  k_with "my binaryOp Sub int int" => ((k_here; (first | with_reducible refine Mine.sub_one ?zₘ ?_ | with_reducible refine Mine.sub_nat ?zₘ ?_); (case zₘ => walk_at "m_om"); intro _ _))
  k_with "my ForPostS" => (((with_reducible show Mine.ForPostS _ _ _ _ _ _ _ _ _ _ _ (PySem.Flow.ret _) _); (unfold Mine.ForPostS); dsimp only))
  k_with "my WhPost" => (((with_reducible show Mine.WhPost _ _ _ _ _ _ _ _ _ _ _ (PySem.Flow.ret _) _); (unfold Mine.WhPost); dsimp only))
  k_with "my m_all" => (first | exact List.forall_mem_nil _ | (refine List.forall_mem_cons.mpr (And.intro ?_ ?_); exact rfl; walk_at "m_all"))
  k_with "my m_same" => ((intro zₘ h2ₘ h3ₘ; (try simp only [List.forall_mem_cons, List.not_mem_nil, false_implies, implies_true, and_true, ne_eq] at h2ₘ); (try simp only [List.contains_cons, List.contains_nil, Bool.or_false, Bool.or_eq_false_iff, beq_eq_false_iff_ne, ne_eq] at h3ₘ); first | rfl | (simp only [Mine.frB, kstB, List.contains_cons, List.contains_nil, Bool.or_false]; simp [h2ₘ, h3ₘ]; done)))
  k_with "my m_same" => ((intro zₘ h2ₘ h3ₘ; (try dsimp only [Mine.frB, kstB]); (repeat (first | with_reducible rfl | refine Mine.fs1 (Mine.ne_ps h2ₘ rfl) ?_ | refine Mine.fs1 (Mine.ne_xs h3ₘ rfl) ?_ | refine Mine.fs2 h3ₘ ?_)); first | done | ((repeat (first | refine Mine.fs1r (Mine.ne_ps h2ₘ rfl) ?_ | refine Mine.fs1r (Mine.ne_xs h3ₘ rfl) ?_ | refine Mine.fs2r h3ₘ ?_)); exact rfl)))
  k_with "my m_frok" => ((refine And.intro ?aₘ ?bₘ; (case aₘ => walk_at "m_all"); (case bₘ => walk_at "m_same")))
  k_with "my m_news" => (first | k_asm | exact Mine.news_d1 (by assumption) | exact Mine.news_d2 (by assumption) | exact Mine.news_d3 (by assumption) | exact Mine.news_d4 (by assumption))
  k_with "my exec While Compare" => (refine Mine.stop_here ?_)
  k_with "my exec While Compare cons nil" => (refine Mine.stop_here ?_)
  k_with "my exec While UnaryOp" => (refine Mine.stop_here ?_)
  k_with "my exec While BoolOp" => (refine Mine.stop_here ?_)
  k_with "my exec While Constant" => (refine Mine.stop_here ?_)
  k_with "my pyIter ref" => (((fail_if_success (fail_if_success (have z9 := hLoops))); (((with_reducible show wpAny _ _ (pyIter (Value.ref _)) (fun itₘ s₂ₘ => LoopAtV _ _ _ _ _ _ _ _ _ itₘ s₂ₘ) _ _); refine Mine.stop_here ?_))))
  k_with "my pyIter bytes" => (((fail_if_success (fail_if_success (have z9 := hLoops))); (((with_reducible show wpAny _ _ (pyIter (Value.bytes _ _)) (fun itₘ s₂ₘ => LoopAtV _ _ _ _ _ _ _ _ _ itₘ s₂ₘ) _ _); refine Mine.stop_here ?_))))
  k_with "my compareOp In int ref" => ((k_here; k_dflt (first | (refine' Mine.in_ints2 ?Xₘ ?oₘ ?_; (case Xₘ => k_in); (case oₘ => k_is); k_whole) | (refine' Mine.in_ints3 ?Xₘ ?oₘ ?_; (case Xₘ => k_in); (case oₘ => k_is); k_whole) | (refine' Mine.in_ints4 ?Xₘ ?oₘ ?_; (case Xₘ => k_in); (case oₘ => k_is); k_whole))))
  k_with "my m_sz" => ((rw [sizeLine_eq]; (try simp only [List.size_toArray]); (first | lia | omega)))
  k_with "my call builtin:list.append" => ((k_here; (with_reducible show wpAny _ _ (call (Value.builtin _) [Value.ref _, _]) _ _ _); k_dflt (refine' append_K ?k1ₘ ?k2ₘ ?k3ₘ ?_ ?zₘ; (case k1ₘ => k_asm); (case k2ₘ => k_asm); (case k3ₘ => k_upd); (case zₘ => walk_at "m_sz"); k_whole); intro h'ₘ F'ₘ N'ₘ; (try k_sweep)))
  k_with "my eval ListComp" => ((k_here; k_dflt (refine Mine.ListComp_G (by k_asm) (by rfl) (by decide) (by rfl) (by decide) (by rfl) ?_); k_whole))
  k_with "my pyIter ref" => (((with_reducible show wpAny _ _ (pyIter (Value.ref _)) (Mine.IterG _ _ _ _ _ _ _) _ _); refine Mine.stop_here ?_))
  k_with "my pyIter bytes" => (((with_reducible show wpAny _ _ (pyIter (Value.bytes _ _)) (Mine.IterG _ _ _ _ _ _ _) _ _); refine Mine.stop_here ?_))
  k_with "my pyIter str" => (((with_reducible show wpAny _ _ (pyIter (Value.str _ _)) (Mine.IterG _ _ _ _ _ _ _) _ _); refine Mine.stop_here ?_))
  k_with "my call builtin:str.join" => ((k_here; (with_reducible show wpAny _ _ (call (Value.builtin _) [Value.str _ _, Value.ref _]) _ _ _); k_dflt (refine' Mine.join_signs ?h1ₘ ?h2ₘ ?h3ₘ ?h4ₘ ?h5ₘ ?_; (case h1ₘ => rfl); (case h2ₘ => k_asm); (case h3ₘ => k_mem); (case h4ₘ => assumption); (case h5ₘ => walk_at "m_ln"); k_whole); intro _ _))
  k_with "my call builtin:chr" => ((k_here; k_dflt (refine Mine.chr_nat ?zₘ ?_; (case zₘ => walk_at "m_om"); k_whole)))
  k_with "my call builtin:ord" => ((k_here; (with_reducible refine Mine.ord_txt ?_)))
  k_with "my call type:bytes" => ((k_here; (with_reducible show wpAny _ _ (call (Value.type _) [Value.ref _]) _ _ _); k_dflt (refine' Mine.bytes_nums ?h1ₘ ?h2ₘ ?h3ₘ ?h4ₘ ?h5ₘ ?h6ₘ ?h7ₘ ?_; (case h1ₘ => k_asm); (case h2ₘ => k_asm); (case h3ₘ => exact rfl); (case h4ₘ => k_mem); (case h5ₘ => assumption); (case h6ₘ => first | assumption | walk_at "m_256"); (case h7ₘ => walk_at "m_ln"); k_whole); intro _ _ _ _ _))
  k_with "my m_ln" => (((try simp only [List.length_map, List.flatten_cons, List.flatten_nil, List.append_nil, List.length_append]); (first | lia | omega)))
  k_with "my call builtin:bytes.strip" => ((k_here; k_dflt (refine Mine.strip_B ?zₘ ?_; (case zₘ => first | walk_at "m_om" | walk_at "m_ln"); k_whole); intro _ _))
  k_with "my call builtin:bytes.rstrip" => ((k_here; k_dflt (refine Mine.rstrip_B ?zₘ ?_; (case zₘ => first | walk_at "m_om" | walk_at "m_ln"); k_whole); intro _ _))
  k_with "my call builtin:bytes.join" => ((k_here; (with_reducible show wpAny _ _ (call (Value.builtin _) [Value.bytes _ _, Value.ref _]) _ _ _); k_dflt (refine' Mine.join_B ?h1ₘ ?h2ₘ ?h3ₘ ?h4ₘ ?_; (case h1ₘ => k_asm); (case h2ₘ => k_mem); (case h3ₘ => assumption); (case h4ₘ => walk_at "m_ln"); k_whole); intro _ _))
  k_with "my RetOnly" => (((with_reducible show Mine.RetOnly _ (PySem.Flow.ret _) _); (unfold Mine.RetOnly); dsimp only))
  k_with "my m_sub" => ((intro pₘ hpₘ; repeat' (first | assumption | refine List.Mem.tail _ ?_)))
  k_with "my exec For Name Name cons nil" => (((fail_if_success (fail_if_success (have z9 := hLoops))); ((k_here; (rename Fr _ _ _ _ => lF'ₘ); (with_unfolding_all refine' For_invVF lF'ₘ ?k1ₘ ?k2ₘ ?_; (case k1ₘ => exact rfl); (case k2ₘ => exact rfl); k_whole)))))
  k_with "my compareOp In int bytes" => ((k_here; k_dflt (refine Mine.in_B ?_)))
  k_with "my compareOp NotIn int bytes" => ((k_here; k_dflt (refine Mine.notin_B ?_)))
  k_with "my m_mem" => ((repeat (first | exact List.Mem.head _ | assumption | refine List.Mem.tail _ ?_)))
  k_with "my m_incl" => (first | exact (fun _ hₘ => hₘ) | (refine' List.forall_mem_cons.mpr (And.intro ?aₘ ?bₘ); (case aₘ => walk_at "m_mem"); (case bₘ => walk_at "m_incl")) | (intro pₘ hpₘ; repeat (first | assumption | refine List.Mem.tail _ ?_)))
  k_with "my m_split" => ((repeat (rename And _ _ => hcjₘ; cases hcjₘ)))
  k_with "my call builtin:list.sort" => ((k_here; (with_reducible show wpAny _ _ (call (Value.builtin _) [Value.ref _]) _ _ _); k_dflt (refine' Mine.sort_one ?Fₘ ?Nₘ ?Uₘ ?_; (case Fₘ => k_asm); (case Nₘ => k_asm); (case Uₘ => k_updF); k_whole); intro h'ₘ c'ₘ F'ₘ N'ₘ; (try dsimp only at N'ₘ); (try k_sweep)))
  k_with "my exec While Call" => (refine Mine.stop_here ?_)
  k_with "my exec While Call cons nil" => (refine Mine.stop_here ?_)
  k_with "my compareOp Eq bytes bytes" => ((k_here; k_dflt (refine Mine.eq_B ?_)))
  k_with "my compareOp NotEq bytes bytes" => ((k_here; k_dflt (refine Mine.ne_B ?_)))
  k_with "my compareOp In str ref" => ((k_here; k_dflt (refine' Mine.in_strs3 ?Xₘ ?oₘ ?_; (case Xₘ => k_in); (case oₘ => k_is); k_whole)))
  k_with "my compareOp NotIn str ref" => ((k_here; k_dflt (refine' Mine.notin_strs3 ?Xₘ ?oₘ ?_; (case Xₘ => k_in); (case oₘ => k_is); k_whole)))
  k_with "my exec For Tuple Name cons nil" => ((k_here; (rename Fr _ _ _ _ => lF'ₘ); (with_unfolding_all refine' For_turns lF'ₘ ?_; k_whole)))
  k_with "my exec For Tuple Call cons nil" => ((k_here; (rename Fr _ _ _ _ => lF'ₘ); (with_unfolding_all refine' For_turns lF'ₘ ?_; k_whole)))
  k_with "my exec For Tuple IfExp cons nil" => ((k_here; (rename Fr _ _ _ _ => lF'ₘ); (with_unfolding_all refine' For_turns lF'ₘ ?_; k_whole)))
  k_with "my pyIter ref" => (((with_reducible show wpAny _ _ (pyIter (Value.ref _)) (fun itₘ s₂ₘ => TurnsAt _ _ _ _ _ _ _ _ _ itₘ s₂ₘ) _ _); refine Mine.stop_here ?_))
  k_with "my binaryOp Add bytes bytes" => ((k_here; k_dflt (refine Mine.add_B ?zₘ ?_; (case zₘ => first | walk_at "m_om" | walk_at "m_ln" | (simp only [List.length_cons, List.length_nil]; (first | lia | omega))); k_whole); intro _ _))
  k_with "my subscriptTail" => ((k_here; (first | with_reducible show wpAny _ _ (subscriptTail _ (PySem.Expr.Slice (some (PySem.Expr.UnaryOp _ _ _)) none none _) (Value.bytes _ _) (Value.ref _)) _ _ _ | with_reducible show wpAny _ _ (subscriptTail _ (PySem.Expr.Slice none (some (PySem.Expr.UnaryOp _ _ _)) none _) (Value.bytes _ _) (Value.ref _)) _ _ _); (with_reducible rename Fr _ _ _ _ => F'ₘ); (with_reducible rename News _ _ _ _ => N'ₘ); k_dflt ((first | ((with_reducible show wpAny _ _ (subscriptTail _ (PySem.Expr.Slice (some _) none none _) _ _) _ _ _); refine' Mine.slice_last1 (s := ⟨_, _, _, _, _⟩) F'ₘ N'ₘ ?zₘ ?_) | ((with_reducible show wpAny _ _ (subscriptTail _ (PySem.Expr.Slice (some _) none none _) _ _) _ _ _); refine' Mine.slice_last2 (s := ⟨_, _, _, _, _⟩) F'ₘ N'ₘ ?zₘ ?_) | ((with_reducible show wpAny _ _ (subscriptTail _ (PySem.Expr.Slice none (some _) none _) _ _) _ _ _); refine' Mine.slice_but1 (s := ⟨_, _, _, _, _⟩) F'ₘ N'ₘ ?zₘ ?_) | ((with_reducible show wpAny _ _ (subscriptTail _ (PySem.Expr.Slice none (some _) none _) _ _) _ _ _); refine' Mine.slice_but2 (s := ⟨_, _, _, _, _⟩) F'ₘ N'ₘ ?zₘ ?_)); (case zₘ => walk_at "m_om"); k_whole); intro _ _ _ _ _))
  k_with "my spliced" => ((k_here; k_dflt (refine' Mine.ev_argsS ?Fₘ ?vₘ ?_ ?kₘ; (case Fₘ => k_asm); (case vₘ => exact @rfl _ (some _)); (case kₘ => rfl); k_whole); (try dsimp only [List.nil_append, List.cons_append])))
  k_with "my eval Call" => ((k_here; (fail_if_success (with_reducible show wpAny _ _ (eval _ (PySem.compEnvC _ _ _ _)) _ _ _)); (with_reducible show wpAny _ _ (eval (PySem.Expr.Call (PySem.Expr.Name _ _) _ [] _) _) _ _ _); k_dflt (refine' Mine.call_fnS ?Fₘ ?Xₘ ?Tₘ ?eₘ ?kpₘ ?vₘ ?_ ?aₘ ?bₘ ?cₘ; (case aₘ => rfl); (case bₘ => rfl); (case Fₘ => k_asm); (case Xₘ => k_asm); (case Tₘ => k_asm); (case eₘ => k_is); (case kpₘ => k_is); (case vₘ => exact @rfl _ (some _)); (case cₘ => decide); k_whole)))
  k_with "my isTrue Compare" => ((k_here; (first | (with_reducible show wpAny _ _ (isTrue (PySem.Expr.Compare (PySem.Expr.Name _ _) _ [(PySem.Expr.Name _ _)] _) _ _) _ _ _) | (with_reducible show wpAny _ _ (isTrue (PySem.Expr.Compare (PySem.Expr.Name _ _) _ [(PySem.Expr.Constant _ _ _)] _) _ _) _ _ _) | (with_reducible show wpAny _ _ (isTrue (PySem.Expr.Compare (PySem.Expr.Constant _ _ _) _ [(PySem.Expr.Name _ _)] _) _ _) _ _ _) | (with_reducible show wpAny _ _ (isTrue (PySem.Expr.Compare (PySem.Expr.Constant _ _ _) _ [(PySem.Expr.Constant _ _ _)] _) _ _) _ _ _)); k_dflt (first | ((with_reducible show wpAny _ _ (isTrue (PySem.Expr.Compare _ [PySem.CmpOp.Lt] _ _) _ _) _ _ _); refine' Mine.cmp_ltS ?Fₘ ?vₘ ?_ ?kₘ; (case Fₘ => k_asm); (case vₘ => exact @rfl _ (some _)); (case kₘ => rfl); k_whole) | ((with_reducible show wpAny _ _ (isTrue (PySem.Expr.Compare _ [PySem.CmpOp.Gt] _ _) _ _) _ _ _); refine' Mine.cmp_gtS ?Fₘ ?vₘ ?_ ?kₘ; (case Fₘ => k_asm); (case vₘ => exact @rfl _ (some _)); (case kₘ => rfl); k_whole) | ((with_reducible show wpAny _ _ (isTrue (PySem.Expr.Compare _ [PySem.CmpOp.Eq] _ _) _ _) _ _ _); refine' Mine.cmp_eqS ?Fₘ ?vₘ ?_ ?kₘ; (case Fₘ => k_asm); (case vₘ => exact @rfl _ (some _)); (case kₘ => rfl); k_whole) | (refine' Mine.cmp_evS ?Fₘ ?vₘ ?_ ?kₘ; (case Fₘ => k_asm); (case vₘ => exact @rfl _ (some _)); (case kₘ => rfl); k_whole))))
  k_with "my eval BinOp" => ((k_here; (first | (with_reducible show wpAny _ _ (eval (PySem.Expr.BinOp (PySem.Expr.Name _ _) _ (PySem.Expr.Name _ _) _) _) _ _ _) | (with_reducible show wpAny _ _ (eval (PySem.Expr.BinOp (PySem.Expr.Name _ _) _ (PySem.Expr.Constant _ _ _) _) _) _ _ _) | (with_reducible show wpAny _ _ (eval (PySem.Expr.BinOp (PySem.Expr.Constant _ _ _) _ (PySem.Expr.Name _ _) _) _) _ _ _) | (with_reducible show wpAny _ _ (eval (PySem.Expr.BinOp (PySem.Expr.Constant _ _ _) _ (PySem.Expr.Constant _ _ _) _) _) _ _ _)); k_dflt (refine' Mine.bin_evS ?Fₘ ?vₘ ?_ ?kₘ; (case Fₘ => k_asm); (case vₘ => exact @rfl _ (some _)); (case kₘ => rfl); k_whole)))
  k_with "my eval Subscript" => ((k_here; (first | (with_reducible show wpAny _ _ (eval (PySem.Expr.Subscript (PySem.Expr.Name _ _) (PySem.Expr.Name _ _) _) _) _ _ _) | (with_reducible show wpAny _ _ (eval (PySem.Expr.Subscript (PySem.Expr.Name _ _) (PySem.Expr.Constant _ _ _) _) _) _ _ _) | (with_reducible show wpAny _ _ (eval (PySem.Expr.Subscript (PySem.Expr.Constant _ _ _) (PySem.Expr.Name _ _) _) _) _ _ _) | (with_reducible show wpAny _ _ (eval (PySem.Expr.Subscript (PySem.Expr.Constant _ _ _) (PySem.Expr.Constant _ _ _) _) _) _ _ _)); k_dflt (refine' Mine.sub_evS ?Fₘ ?vₘ ?_ ?kₘ; (case Fₘ => k_asm); (case vₘ => exact @rfl _ (some _)); (case kₘ => rfl); k_whole)))
  k_with "my m_al" => (first | assumption | exact Mine.al1 (by assumption) | exact Mine.al2 (by assumption) | exact Mine.al3 (by assumption) | exact Mine.al4 (by assumption) | exact Mine.al5 (by assumption) | exact Mine.al6 (by assumption) | exact Mine.al7 (by assumption) | exact Mine.al8 (by assumption) | exact Mine.al9 (by assumption) | exact Mine.al10 (by assumption) | exact Mine.al11 (by assumption) | exact Mine.al12 (by assumption) | exact Mine.al13 (by assumption) | exact Mine.al0 (by assumption) | exact Mine.cj1 (by assumption) | exact Mine.cj2 (by assumption) | exact Mine.cj3 (by assumption) | exact Mine.cj4 (by assumption) | exact Mine.cj5 (by assumption) | exact Mine.cj6 (by assumption) | exact Mine.cj7 (by assumption) | exact Mine.cj8 (by assumption) | exact Mine.cj9 (by assumption) | exact Mine.cj10 (by assumption) | exact Mine.cj11 (by assumption) | exact Mine.cj12 (by assumption) | exact Mine.cj13 (by assumption) | (walk_at "m_split"; assumption))
  k_with "my storeName" => ((k_here; k_dflt (refine' Mine.storeS ?Fₘ ?Nₘ ?_ ?aₘ ?bₘ; (case Fₘ => k_asm); (case Nₘ => k_asm); (case aₘ => rfl); (case bₘ => rfl); k_whole); intro _ _ _ _; (try k_sweep)))
  k_with "my eval Name" => ((k_here; (fail_if_success (with_reducible show wpAny _ _ (eval _ (PySem.compEnvC _ _ _ _)) _ _ _)); k_dflt (refine' Mine.ev_evalS ?Fₘ ?vₘ ?_ ?kₘ; (case Fₘ => with_reducible assumption); (case vₘ => exact @rfl _ (some _)); (case kₘ => rfl); k_whole)))
  k_with "my m_fold" => (((fail_if_success (fail_if_success k_fold)); refine Mine.fold_QE ?_; intro qkₘ ekₘ))
  k_with "my execs cons" => ((k_here; first | ((with_reducible show wpAny _ _ (execs (PySem.Stmt.Assign [PySem.Expr.Name _ _] _ _ :: _) _) _ _ _); k_dflt (refine' Mine.ex_name ?_ ?aₘ; (case aₘ => rfl); k_whole)) | ((with_reducible show wpAny _ _ (execs (PySem.Stmt.Assign [PySem.Expr.Tuple _ _ _] _ _ :: _) _) _ _ _); k_dflt (refine' Mine.ex_tuple ?_ ?aₘ ?bₘ; (case aₘ => rfl); (case bₘ => rfl); k_whole)) | ((with_reducible show wpAny _ _ (execs (PySem.Stmt.Return (some _) _ :: _) _) _ _ _); k_dflt (refine' Mine.ex_ret ?_; k_whole)) | ((with_reducible show wpAny _ _ (execs (PySem.Stmt.Expr _ _ :: _) _) _ _ _); k_dflt (refine' Mine.ex_expr ?_ ?aₘ ?bₘ; (case aₘ => rfl); (case bₘ => rfl); k_whole))))
  k_with "my m_sub9" => (first | (refine Mine.sub_cons ?_ ?_; walk_at "m_mem9"; walk_at "m_sub9") | (refine Mine.sub_app ?_ ?_; walk_at "m_sub9"; walk_at "m_sub9") | exact List.forall_mem_nil _ | (intro q9ₘ hq9ₘ; walk_at "m_mem9"))
  k_with "my m_ne9" => (first | exact Mine.ne_lt (by with_reducible assumption) | exact Mine.ne_gt (by with_reducible assumption) | exact Mine.ne_sym (by with_reducible assumption) | exact (Mine.al0 (by with_reducible assumption)) | exact (Mine.cj1 (by with_reducible assumption)) | exact (Mine.cj2 (by with_reducible assumption)) | exact (Mine.cj3 (by with_reducible assumption)) | exact (Mine.cj4 (by with_reducible assumption)) | exact (Mine.cj5 (by with_reducible assumption)) | exact (Mine.cj6 (by with_reducible assumption)) | exact (Mine.cj7 (by with_reducible assumption)) | exact (Mine.cj8 (by with_reducible assumption)) | exact (Mine.cj9 (by with_reducible assumption)) | exact (Mine.cj10 (by with_reducible assumption)) | exact (Mine.cj11 (by with_reducible assumption)) | exact (Mine.cj12 (by with_reducible assumption)) | exact (Mine.cj13 (by with_reducible assumption)) | exact (Mine.al1 (by with_reducible assumption)) | exact (Mine.al2 (by with_reducible assumption)) | exact (Mine.al3 (by with_reducible assumption)) | exact (Mine.al4 (by with_reducible assumption)) | exact (Mine.al5 (by with_reducible assumption)) | exact (Mine.al6 (by with_reducible assumption)) | exact (Mine.al7 (by with_reducible assumption)) | exact (Mine.al8 (by with_reducible assumption)) | exact (Mine.al9 (by with_reducible assumption)) | exact (Mine.al10 (by with_reducible assumption)) | exact (Mine.al11 (by with_reducible assumption)) | exact (Mine.al12 (by with_reducible assumption)) | exact (Mine.al13 (by with_reducible assumption)) | exact Mine.ne_lt (Mine.al0 (by with_reducible assumption)) | exact Mine.ne_lt (Mine.cj1 (by with_reducible assumption)) | exact Mine.ne_lt (Mine.cj2 (by with_reducible assumption)) | exact Mine.ne_lt (Mine.cj3 (by with_reducible assumption)) | exact Mine.ne_lt (Mine.cj4 (by with_reducible assumption)) | exact Mine.ne_lt (Mine.cj5 (by with_reducible assumption)) | exact Mine.ne_lt (Mine.cj6 (by with_reducible assumption)) | exact Mine.ne_lt (Mine.cj7 (by with_reducible assumption)) | exact Mine.ne_lt (Mine.cj8 (by with_reducible assumption)) | exact Mine.ne_lt (Mine.cj9 (by with_reducible assumption)) | exact Mine.ne_lt (Mine.cj10 (by with_reducible assumption)) | exact Mine.ne_lt (Mine.cj11 (by with_reducible assumption)) | exact Mine.ne_lt (Mine.cj12 (by with_reducible assumption)) | exact Mine.ne_lt (Mine.cj13 (by with_reducible assumption)) | exact Mine.ne_lt (Mine.al1 (by with_reducible assumption)) | exact Mine.ne_lt (Mine.al2 (by with_reducible assumption)) | exact Mine.ne_lt (Mine.al3 (by with_reducible assumption)) | exact Mine.ne_lt (Mine.al4 (by with_reducible assumption)) | exact Mine.ne_lt (Mine.al5 (by with_reducible assumption)) | exact Mine.ne_lt (Mine.al6 (by with_reducible assumption)) | exact Mine.ne_lt (Mine.al7 (by with_reducible assumption)) | exact Mine.ne_lt (Mine.al8 (by with_reducible assumption)) | exact Mine.ne_lt (Mine.al9 (by with_reducible assumption)) | exact Mine.ne_lt (Mine.al10 (by with_reducible assumption)) | exact Mine.ne_lt (Mine.al11 (by with_reducible assumption)) | exact Mine.ne_lt (Mine.al12 (by with_reducible assumption)) | exact Mine.ne_lt (Mine.al13 (by with_reducible assumption)) | exact Mine.ne_gt (Mine.al0 (by with_reducible assumption)) | exact Mine.ne_gt (Mine.cj1 (by with_reducible assumption)) | exact Mine.ne_gt (Mine.cj2 (by with_reducible assumption)) | exact Mine.ne_gt (Mine.cj3 (by with_reducible assumption)) | exact Mine.ne_gt (Mine.cj4 (by with_reducible assumption)) | exact Mine.ne_gt (Mine.cj5 (by with_reducible assumption)) | exact Mine.ne_gt (Mine.cj6 (by with_reducible assumption)) | exact Mine.ne_gt (Mine.cj7 (by with_reducible assumption)) | exact Mine.ne_gt (Mine.cj8 (by with_reducible assumption)) | exact Mine.ne_gt (Mine.cj9 (by with_reducible assumption)) | exact Mine.ne_gt (Mine.cj10 (by with_reducible assumption)) | exact Mine.ne_gt (Mine.cj11 (by with_reducible assumption)) | exact Mine.ne_gt (Mine.cj12 (by with_reducible assumption)) | exact Mine.ne_gt (Mine.cj13 (by with_reducible assumption)) | exact Mine.ne_gt (Mine.al1 (by with_reducible assumption)) | exact Mine.ne_gt (Mine.al2 (by with_reducible assumption)) | exact Mine.ne_gt (Mine.al3 (by with_reducible assumption)) | exact Mine.ne_gt (Mine.al4 (by with_reducible assumption)) | exact Mine.ne_gt (Mine.al5 (by with_reducible assumption)) | exact Mine.ne_gt (Mine.al6 (by with_reducible assumption)) | exact Mine.ne_gt (Mine.al7 (by with_reducible assumption)) | exact Mine.ne_gt (Mine.al8 (by with_reducible assumption)) | exact Mine.ne_gt (Mine.al9 (by with_reducible assumption)) | exact Mine.ne_gt (Mine.al10 (by with_reducible assumption)) | exact Mine.ne_gt (Mine.al11 (by with_reducible assumption)) | exact Mine.ne_gt (Mine.al12 (by with_reducible assumption)) | exact Mine.ne_gt (Mine.al13 (by with_reducible assumption)) | exact Mine.ne_sym (Mine.al0 (by with_reducible assumption)) | exact Mine.ne_sym (Mine.cj1 (by with_reducible assumption)) | exact Mine.ne_sym (Mine.cj2 (by with_reducible assumption)) | exact Mine.ne_sym (Mine.cj3 (by with_reducible assumption)) | exact Mine.ne_sym (Mine.cj4 (by with_reducible assumption)) | exact Mine.ne_sym (Mine.cj5 (by with_reducible assumption)) | exact Mine.ne_sym (Mine.cj6 (by with_reducible assumption)) | exact Mine.ne_sym (Mine.cj7 (by with_reducible assumption)) | exact Mine.ne_sym (Mine.cj8 (by with_reducible assumption)) | exact Mine.ne_sym (Mine.cj9 (by with_reducible assumption)) | exact Mine.ne_sym (Mine.cj10 (by with_reducible assumption)) | exact Mine.ne_sym (Mine.cj11 (by with_reducible assumption)) | exact Mine.ne_sym (Mine.cj12 (by with_reducible assumption)) | exact Mine.ne_sym (Mine.cj13 (by with_reducible assumption)) | exact Mine.ne_sym (Mine.al1 (by with_reducible assumption)) | exact Mine.ne_sym (Mine.al2 (by with_reducible assumption)) | exact Mine.ne_sym (Mine.al3 (by with_reducible assumption)) | exact Mine.ne_sym (Mine.al4 (by with_reducible assumption)) | exact Mine.ne_sym (Mine.al5 (by with_reducible assumption)) | exact Mine.ne_sym (Mine.al6 (by with_reducible assumption)) | exact Mine.ne_sym (Mine.al7 (by with_reducible assumption)) | exact Mine.ne_sym (Mine.al8 (by with_reducible assumption)) | exact Mine.ne_sym (Mine.al9 (by with_reducible assumption)) | exact Mine.ne_sym (Mine.al10 (by with_reducible assumption)) | exact Mine.ne_sym (Mine.al11 (by with_reducible assumption)) | exact Mine.ne_sym (Mine.al12 (by with_reducible assumption)) | exact Mine.ne_sym (Mine.al13 (by with_reducible assumption)))
  k_with "my m_room" => (first | exact Mine.room0 (by assumption) | exact Mine.room01 (by assumption) (by exact rfl) | exact Mine.room1 (by assumption) (by exact rfl) | exact Mine.room1n (by assumption) (by exact rfl) | exact Mine.room1s (by assumption) (by exact rfl))
  k_with "my m_units" => (first | exact Mine.units0 (by assumption) (by exact rfl) | exact Mine.units64 (by assumption) (by exact rfl) | exact Mine.units1 (by assumption) (by exact rfl) | exact Mine.units1n (by assumption) (by exact rfl) | exact Mine.units1s (by assumption) (by exact rfl))
  k_with "my m_mem9" => (first | with_reducible assumption | with_reducible exact Mine.at0 | with_reducible exact Mine.at1 | with_reducible exact Mine.at2 | with_reducible exact Mine.at3 | with_reducible exact Mine.at4 | with_reducible exact Mine.at5 | with_reducible exact Mine.at6 | with_reducible exact Mine.at7 | with_reducible exact Mine.at8 | with_reducible exact Mine.at9 | with_reducible exact Mine.at10 | with_reducible exact Mine.at11 | with_reducible exact Mine.at12 | with_reducible exact Mine.at13 | with_reducible exact Mine.at14 | with_reducible exact Mine.at15 | ((with_reducible refine Mine.tl15 ?_); walk_at "m_app9") | ((with_reducible refine Mine.tl14 ?_); walk_at "m_app9") | ((with_reducible refine Mine.tl13 ?_); walk_at "m_app9") | ((with_reducible refine Mine.tl12 ?_); walk_at "m_app9") | ((with_reducible refine Mine.tl11 ?_); walk_at "m_app9") | ((with_reducible refine Mine.tl10 ?_); walk_at "m_app9") | ((with_reducible refine Mine.tl9 ?_); walk_at "m_app9") | ((with_reducible refine Mine.tl8 ?_); walk_at "m_app9") | ((with_reducible refine Mine.tl7 ?_); walk_at "m_app9") | ((with_reducible refine Mine.tl6 ?_); walk_at "m_app9") | ((with_reducible refine Mine.tl5 ?_); walk_at "m_app9") | ((with_reducible refine Mine.tl4 ?_); walk_at "m_app9") | ((with_reducible refine Mine.tl3 ?_); walk_at "m_app9") | ((with_reducible refine Mine.tl2 ?_); walk_at "m_app9") | ((with_reducible refine Mine.tl1 ?_); walk_at "m_app9") | walk_at "m_app9")
  k_with "my m_app9" => (first | with_reducible assumption | ((with_reducible refine Mine.in_l ?_); walk_at "m_mem9") | ((with_reducible refine Mine.in_r ?_); walk_at "m_mem9"))
  k_with "my m_off" => (first | assumption | (refine Mine.off_cons (by k_ne) ?_; walk_at "m_off"))
  k_with "my m_sk" => (first | assumption | (intro hskₘ; exfalso; (first | lia | omega)))
  k_with "my m_sl" => (first | (walk_at "m_om") | (rw [seg_len]; (first | lia | omega)))
  k_with "my m_kne" => (first | with_reducible assumption | walk_at "m_ne9" | (as_aux_lemma => (refine neN ?_; (try dsimp only); (first | lia | omega))))
  k_with "my m_kroom" => (first | walk_at "m_room" | (as_aux_lemma => ((simp only [depth_under_make, depth_under_kw, depth_in1, depth_deeper, depth_caller, recursionLimit] at *); (first | lia | omega))))
  k_with "my m_kunits" => (first | walk_at "m_units" | (as_aux_lemma => (have hcL9 := cLine_is; (simp only [units_under_make, units_in1, units_deeper, Around.mark_units, units_caller] at *); (try dsimp only [ktrTop] at *); (first | lia | omega))))
  trivial
/-! B0 -/
section
/-- the value of a plain expression (a name of the frame, a constant), and the tokens behind it -/
noncomputable def evC : Const → Tok → Option (Value × Tok)
  | .none, k => some (.none, k)
  | .bool b, k => some (.bool b, k)
  | .int i, k => some (.int i k, k + 1)
  | .str x, k => some (.str x k, k + 1)
  | .bytes x, k => some (.bytes x.toArray k, k + 1)
  | _, _ => none
noncomputable def ev (env : Env) (m : Str → Option Value) : Expr → Tok → Option (Value × Tok)
  | .Name x _, k => if env.kindOf x == some .local && !(x == ("__debug__" : Str)) then (m x).map fun v => (v, k) else none
  | .Constant c _ _, k => evC c k
  | _, _ => none
noncomputable def evAll (env : Env) (m : Str → Option Value) : List Expr → Tok → Option (List Value × Tok)
  | [], k => some ([], k)
  | e :: r, k => match ev env m e k with
    | some (v, k') => match evAll env m r k' with
      | some (vs, k'') => some (v :: vs, k'')
      | none => none
    | none => none
section
variable {M : Model} {A : Around} {E : Value → Shared → Prop} {s : Shared} {h₀ : Heap} {L a : Addr} {m : Str → Option Value} {cn : Str} {cs : Scope} {ccd : Value} {cl : List (Str × Addr)} {K : Frag} {mg mb : Str → Option Value} {p : Program} {loose : List Str} {k k' : Tok}
theorem ev_eval {e : Expr} {v : Value} {Q : Value → Shared → Prop} (F : Fr h₀ L s.heap m) (hv : ev (envX cn cs L a ccd cl) m e s.toks = some (v, k)) (hk : cs.kind = .function) (h : Q v { s with toks := k }) : wpAny M A (eval e (envX cn cs L a ccd cl)) Q E s := by
  unfold ev at hv
  split at hv
  · split at hv
    · rename_i hc
      simp only [Bool.and_eq_true, Bool.not_eq_true', beq_iff_eq] at hc
      cases hm : m _ with
      | none => rw [hm] at hv; cases hv
      | some u => rw [hm] at hv; cases hv; exact nameX_L F hm h hk hc.1 hc.2
    · cases hv
  · unfold evC at hv
    split at hv
    · cases hv; exact wpAny_Constant_none h
    · cases hv; exact wpAny_Constant_bool h
    · cases hv; exact wpAny_Constant_int h
    · cases hv; exact Constant_str h
    · cases hv; exact Constant_bytes h
    · cases hv
  · cases hv
theorem ev_star {e : Expr} {r : List Expr} {v : Value × Tok} {env : Env} (hv : ev env m e k = some v) : starEach (e :: r) env = (false, eval e env) :: starEach r env := by
  unfold ev at hv
  split at hv <;> first | rfl | cases hv
theorem ev_marks {e : Expr} {v : Value × Tok} {env : Env} {op : CmpOp} (hv : ev env m e k = some v) : behindInMarks op e = false := by
  unfold ev at hv
  split at hv <;> first | (cases hv; done) | (cases op <;> rfl)
theorem two {env : Env} {e₁ e₂ : Expr} {v₁ v₂ : Value} (hv : evAll env m [e₁, e₂] k = some ([v₁, v₂], k')) : ∃ k₁, ev env m e₁ k = some (v₁, k₁) ∧ ev env m e₂ k₁ = some (v₂, k') := by
  unfold evAll at hv
  split at hv
  · rename_i w k₁ h₁
    split at hv
    · rename_i ws k₂ h₂
      unfold evAll at h₂
      split at h₂
      · rename_i w2 k₃ h₃
        unfold evAll at h₂
        dsimp only at h₂
        cases h₂
        cases hv
        exact ⟨k₁, h₁, h₃⟩
      · cases h₂
    · cases hv
  · cases hv
theorem ev_args {es : List Expr} {vs : List Value} {pos : Pos} {Q : List Value → Shared → Prop} (F : Fr h₀ L s.heap m) (hv : evAll (envX cn cs L a ccd cl) m es s.toks = some (vs, k)) (h : Q vs { s with toks := k }) (hk : cs.kind = .function := by rfl) :
    wpAny M A (spliced (backTo pos (starEach es (envX cn cs L a ccd cl)))) Q E s := by
  induction es generalizing vs Q s with
  | nil => cases hv; exact args_nil h
  | cons e r ih =>
    unfold evAll at hv
    split at hv
    · rename_i v k₁ he
      split at hv
      · rename_i ws k₂ hr
        cases hv
        exact args_cons (ev_eval F he hk (ih (s := { s with toks := k₁ }) F hr h)) (ev_star he)
      · cases hv
    · cases hv
theorem ev_plain {es : List Expr} {vs : List Value × Tok} {pos : Pos} {env : Env} (hv : evAll env m es k = some vs) : (backTo pos (starEach es env)).any (·.1) = false := by
  induction es generalizing vs k with
  | nil => rfl
  | cons e r ih =>
    unfold evAll at hv
    split at hv
    · rename_i v k₁ he
      split at hv
      · rename_i ws k₂ hr
        rw [ev_star he]
        show (false || (backTo pos (starEach r env)).any (·.1)) = false
        rw [ih hr]; rfl
      · cases hv
    · cases hv
/-- a call of a known function upon plain arguments, in one step -/
theorem call_fn {f : Str} {p1 pos : Pos} {es : List Expr} {vs : List Value} {v : Value} {Q : Value → Shared → Prop} (F : Fr h₀ L s.heap m) (X : K.In h₀) (T : TopRead p loose mg mb h₀) (e : nsIn K mainGlobals f = some (some v)) (hkp : keepIn K v = true)
    (hv : evAll (envX cn cs L a ccd cl) m es s.toks = some (vs, k)) (h : wpAny M A (call v vs) Q E { s with toks := k })
    (hk : cs.kind = .function := by rfl) (hx : (envX cn cs L a ccd cl).kindOf f = some .globalImplicit := by rfl) (hd : (f == ("__debug__" : Str)) = false := by decide) :
    wpAny M A (eval (.Call (.Name f p1) es [] pos) (envX cn cs L a ccd cl)) Q E s := by
  refine Call_ (nameX_K F X T e ?_ hk hx hd)
  have XK : K.In s.heap := X.keeps F.keep
  cases es with
  | nil => cases hv; exact callWith_K0 XK hkp h
  | cons e1 r =>
    have hv' := hv
    unfold evAll at hv'
    split at hv'
    · rename_i v1 k₁ he
      split at hv'
      · rename_i ws k₂ hr
        exact callWith_K X hkp (ev_args F hv ⟨XK, h⟩ hk) (ev_star he) (ev_plain hr)
      · cases hv'
    · cases hv'
theorem cmp_ev {l r : Expr} {op : CmpOp} {pos : Pos} {whole : Sem Value} {x y : Value} {Q : Bool → Shared → Prop} (F : Fr h₀ L s.heap m) (hv : evAll (envX cn cs L a ccd cl) m [l, r] s.toks = some ([x, y], k))
    (h : wpAny M A (compareOp op x y) (fun c s₃ => wpAny M A (truthy c) Q E s₃) E { s with toks := k }) (hk : cs.kind = .function := by rfl) : wpAny M A (isTrue (.Compare l [op] [r] pos) (envX cn cs L a ccd cl) whole) Q E s := by
  (refine Mine.ex_1_2 (two hv) ?_; intro k₁ h₁ h₂)
  exact wpAny_isTrue_Compare1 (ev_eval F h₁ hk (ev_eval (s := { s with toks := k₁ }) F h₂ hk h)) (ev_marks h₂)
theorem bin_ev {l r : Expr} {op : Operator} {pos : Pos} {x y : Value} {Q : Value → Shared → Prop} (F : Fr h₀ L s.heap m) (hv : evAll (envX cn cs L a ccd cl) m [l, r] s.toks = some ([x, y], k))
    (h : wpAny M A (binaryOp op x y) Q E { s with toks := k }) (hk : cs.kind = .function := by rfl) : wpAny M A (eval (.BinOp l op r pos) (envX cn cs L a ccd cl)) Q E s := by
  (refine Mine.ex_1_2 (two hv) ?_; intro k₁ h₁ h₂)
  exact wpAny_BinOp (ev_eval F h₁ hk (ev_eval (s := { s with toks := k₁ }) F h₂ hk h))
theorem sub_ev {l r : Expr} {pos : Pos} {x y : Value} {Q : Value → Shared → Prop} (F : Fr h₀ L s.heap m) (hv : evAll (envX cn cs L a ccd cl) m [l, r] s.toks = some ([x, y], k))
    (h : wpAny M A (subscriptTail l r x y) Q E { s with toks := k }) (hk : cs.kind = .function := by rfl) : wpAny M A (eval (.Subscript l r pos) (envX cn cs L a ccd cl)) Q E s := by
  (refine Mine.ex_1_2 (two hv) ?_; intro k₁ h₁ h₂)
  exact Subscript_ (ev_eval F h₁ hk (ev_eval (s := { s with toks := k₁ }) F h₂ hk h))
end
section
variable {prog : Program} {w : World} {A : Around} {E : Value → Shared → Prop} {s : Shared} {h₀ : Heap} {L a : Addr} {m : Str → Option Value} {cn : Str} {cs : Scope} {ccd : Value} {cl : List (Str × Addr)} {k : Tok} {l r : Expr} {pos : Pos} {whole : Sem Value} {x y : Int} {t u : Tok} {Q : Bool → Shared → Prop}
theorem cmp_lt (F : Fr h₀ L s.heap m) (hv : evAll (envX cn cs L a ccd cl) m [l, r] s.toks = some ([.int x t, .int y u], k)) (h : Q (decide (x < y)) { s with toks := k }) (hk : cs.kind = .function := by rfl) : wpAny (model prog w) A (isTrue (.Compare l [.Lt] [r] pos) (envX cn cs L a ccd cl) whole) Q E s :=
  cmp_ev F hv (lt_int (wpAny_truthy_bool h)) hk
theorem cmp_gt (F : Fr h₀ L s.heap m) (hv : evAll (envX cn cs L a ccd cl) m [l, r] s.toks = some ([.int x t, .int y u], k)) (h : Q (decide (y < x)) { s with toks := k }) (hk : cs.kind = .function := by rfl) : wpAny (model prog w) A (isTrue (.Compare l [.Gt] [r] pos) (envX cn cs L a ccd cl) whole) Q E s :=
  cmp_ev F hv (gt_int (wpAny_truthy_bool h)) hk
theorem cmp_eq (F : Fr h₀ L s.heap m) (hv : evAll (envX cn cs L a ccd cl) m [l, r] s.toks = some ([.int x t, .int y u], k)) (h : Q (x == y) { s with toks := k }) (hk : cs.kind = .function := by rfl) : wpAny (model prog w) A (isTrue (.Compare l [.Eq] [r] pos) (envX cn cs L a ccd cl) whole) Q E s :=
  cmp_ev F hv (eq_int (wpAny_truthy_bool h)) hk
end
section
variable {z x : Str} {a b t : Option Value} {ps : List (Str × Value)} {xs : List Str}
theorem fs1 (hx : z ≠ x) (k : b = t) : (if z = x then a else b) = t := by rw [if_neg hx]; exact k
theorem fs2 (h3 : xs.contains z = false) (k : b = t) : (if xs.contains z = true then a else b) = t := by rw [if_neg (by rw [h3]; decide)]; exact k
theorem fs1r (hx : z ≠ x) (k : t = b) : t = (if z = x then a else b) := by rw [if_neg hx]; exact k
theorem fs2r (h3 : xs.contains z = false) (k : t = b) : t = (if xs.contains z = true then a else b) := by rw [if_neg (by rw [h3]; decide)]; exact k
theorem ne_ps (h2 : ∀ p ∈ ps, z ≠ p.1) (hx : (ps.map Prod.fst).contains x = true) : z ≠ x := by
  rw [List.contains_iff_mem] at hx
  (refine Mine.ex_1_2 (List.mem_map.mp hx) ?_; intro p hp eq2; subst eq2)
  exact h2 p hp
theorem ne_xs (h3 : xs.contains z = false) (hx : xs.contains x = true) : z ≠ x := fun e => by rw [e, hx] at h3; cases h3
end
section
variable {p q r s' t u v w : Prop}
theorem al1 (h : p ∧ q) : q := h.2
theorem al2 (h : p ∧ q ∧ r) : r := h.2.2
theorem al3 (h : p ∧ q ∧ r ∧ s') : s' := h.2.2.2
theorem al4 (h : p ∧ q ∧ r ∧ s' ∧ t) : t := h.2.2.2.2
theorem al5 (h : p ∧ q ∧ r ∧ s' ∧ t ∧ u) : u := h.2.2.2.2.2
theorem al6 (h : p ∧ q ∧ r ∧ s' ∧ t ∧ u ∧ v) : v := h.2.2.2.2.2.2
theorem al7 (h : p ∧ q ∧ r ∧ s' ∧ t ∧ u ∧ v ∧ w) : w := h.2.2.2.2.2.2.2
theorem al0 (h : p ∧ q) : p := h.1
end
/-! the same with the state written out: ⟨h, s.gens, s.drawn, k, s.os⟩ -/
section
variable {M : Model} {A : Around} {E : Value → Shared → Prop} {s : Shared} {h h₀ : Heap} {L a : Addr} {m : Str → Option Value} {cn : Str} {cs : Scope} {ccd : Value} {cl : List (Str × Addr)} {K : Frag} {mg mb : Str → Option Value} {p : Program} {loose : List Str} {k k' : Tok}
theorem ev_evalS {e : Expr} {v : Value} {Q : Value → Shared → Prop} (F : Fr h₀ L h m) (hv : ev (envX cn cs L a ccd cl) m e k = some (v, k')) (H : Q v ⟨h, s.gens, s.drawn, k', s.os⟩) (hk : cs.kind = .function := by rfl) :
    wpAny M A (eval e (envX cn cs L a ccd cl)) Q E ⟨h, s.gens, s.drawn, k, s.os⟩ := ev_eval (s := ⟨h, s.gens, s.drawn, k, s.os⟩) F hv hk H
theorem ev_argsS {es : List Expr} {vs : List Value} {pos : Pos} {Q : List Value → Shared → Prop} (F : Fr h₀ L h m) (hv : evAll (envX cn cs L a ccd cl) m es k = some (vs, k')) (H : Q vs ⟨h, s.gens, s.drawn, k', s.os⟩) (hk : cs.kind = .function := by rfl) :
    wpAny M A (spliced (backTo pos (starEach es (envX cn cs L a ccd cl)))) Q E ⟨h, s.gens, s.drawn, k, s.os⟩ := ev_args (s := ⟨h, s.gens, s.drawn, k, s.os⟩) F hv H hk
theorem call_fnS {f : Str} {p1 pos : Pos} {es : List Expr} {vs : List Value} {v : Value} {Q : Value → Shared → Prop} (F : Fr h₀ L h m) (X : K.In h₀) (T : TopRead p loose mg mb h₀) (e : nsIn K mainGlobals f = some (some v)) (hkp : keepIn K v = true)
    (hv : evAll (envX cn cs L a ccd cl) m es k = some (vs, k')) (H : wpAny M A (call v vs) Q E ⟨h, s.gens, s.drawn, k', s.os⟩)
    (hk : cs.kind = .function := by rfl) (hx : (envX cn cs L a ccd cl).kindOf f = some .globalImplicit := by rfl) (hd : (f == ("__debug__" : Str)) = false := by decide) :
    wpAny M A (eval (.Call (.Name f p1) es [] pos) (envX cn cs L a ccd cl)) Q E ⟨h, s.gens, s.drawn, k, s.os⟩ := call_fn (s := ⟨h, s.gens, s.drawn, k, s.os⟩) F X T e hkp hv H hk hx hd
theorem cmp_evS {l r : Expr} {op : CmpOp} {pos : Pos} {whole : Sem Value} {x y : Value} {Q : Bool → Shared → Prop} (F : Fr h₀ L h m) (hv : evAll (envX cn cs L a ccd cl) m [l, r] k = some ([x, y], k'))
    (H : wpAny M A (compareOp op x y) (fun c s₃ => wpAny M A (truthy c) Q E s₃) E ⟨h, s.gens, s.drawn, k', s.os⟩) (hk : cs.kind = .function := by rfl) : wpAny M A (isTrue (.Compare l [op] [r] pos) (envX cn cs L a ccd cl) whole) Q E ⟨h, s.gens, s.drawn, k, s.os⟩ :=
  cmp_ev (s := ⟨h, s.gens, s.drawn, k, s.os⟩) F hv H hk
theorem bin_evS {l r : Expr} {op : Operator} {pos : Pos} {x y : Value} {Q : Value → Shared → Prop} (F : Fr h₀ L h m) (hv : evAll (envX cn cs L a ccd cl) m [l, r] k = some ([x, y], k'))
    (H : wpAny M A (binaryOp op x y) Q E ⟨h, s.gens, s.drawn, k', s.os⟩) (hk : cs.kind = .function := by rfl) : wpAny M A (eval (.BinOp l op r pos) (envX cn cs L a ccd cl)) Q E ⟨h, s.gens, s.drawn, k, s.os⟩ := bin_ev (s := ⟨h, s.gens, s.drawn, k, s.os⟩) F hv H hk
theorem sub_evS {l r : Expr} {pos : Pos} {x y : Value} {Q : Value → Shared → Prop} (F : Fr h₀ L h m) (hv : evAll (envX cn cs L a ccd cl) m [l, r] k = some ([x, y], k'))
    (H : wpAny M A (subscriptTail l r x y) Q E ⟨h, s.gens, s.drawn, k', s.os⟩) (hk : cs.kind = .function := by rfl) : wpAny M A (eval (.Subscript l r pos) (envX cn cs L a ccd cl)) Q E ⟨h, s.gens, s.drawn, k, s.os⟩ := sub_ev (s := ⟨h, s.gens, s.drawn, k, s.os⟩) F hv H hk
theorem storeS {x : Str} {v : Value} {Q : Unit → Shared → Prop} {news : List (Addr × Obj)} (F : Fr h₀ L h m) (N : News h₀ L h news)
    (H : ∀ h', Fr h₀ L h' (fun y => if y = x then some v else m y) → News h₀ L h' news → ∀ k', Q () ⟨h', s.gens, s.drawn, k', s.os⟩)
    (hk : cs.kind = .function := by rfl) (hx : (envX cn cs L a ccd cl).kindOf x = some .local := by rfl) : wpAny M A (storeName (envX cn cs L a ccd cl) x v) Q E ⟨h, s.gens, s.drawn, k, s.os⟩ := storeX_L (s := ⟨h, s.gens, s.drawn, k, s.os⟩) F N (fun h' F' N' => H h' F' N' _) hk hx
end
section
variable {prog : Program} {w : World} {A : Around} {E : Value → Shared → Prop} {s : Shared} {h h₀ : Heap} {L a : Addr} {m : Str → Option Value} {cn : Str} {cs : Scope} {ccd : Value} {cl : List (Str × Addr)} {k k' : Tok} {l r : Expr} {pos : Pos} {whole : Sem Value} {x y : Int} {t u : Tok} {Q : Bool → Shared → Prop}
theorem cmp_ltS (F : Fr h₀ L h m) (hv : evAll (envX cn cs L a ccd cl) m [l, r] k = some ([.int x t, .int y u], k')) (H : Q (decide (x < y)) ⟨h, s.gens, s.drawn, k', s.os⟩) (hk : cs.kind = .function := by rfl) : wpAny (model prog w) A (isTrue (.Compare l [.Lt] [r] pos) (envX cn cs L a ccd cl) whole) Q E ⟨h, s.gens, s.drawn, k, s.os⟩ :=
  cmp_lt (s := ⟨h, s.gens, s.drawn, k, s.os⟩) F hv H hk
theorem cmp_gtS (F : Fr h₀ L h m) (hv : evAll (envX cn cs L a ccd cl) m [l, r] k = some ([.int x t, .int y u], k')) (H : Q (decide (y < x)) ⟨h, s.gens, s.drawn, k', s.os⟩) (hk : cs.kind = .function := by rfl) : wpAny (model prog w) A (isTrue (.Compare l [.Gt] [r] pos) (envX cn cs L a ccd cl) whole) Q E ⟨h, s.gens, s.drawn, k, s.os⟩ :=
  cmp_gt (s := ⟨h, s.gens, s.drawn, k, s.os⟩) F hv H hk
theorem cmp_eqS (F : Fr h₀ L h m) (hv : evAll (envX cn cs L a ccd cl) m [l, r] k = some ([.int x t, .int y u], k')) (H : Q (x == y) ⟨h, s.gens, s.drawn, k', s.os⟩) (hk : cs.kind = .function := by rfl) : wpAny (model prog w) A (isTrue (.Compare l [.Eq] [r] pos) (envX cn cs L a ccd cl) whole) Q E ⟨h, s.gens, s.drawn, k, s.os⟩ :=
  cmp_eq (s := ⟨h, s.gens, s.drawn, k, s.os⟩) F hv H hk
end
theorem fold_QE {M : Model} {A : Around} {α : Type} {c : Sem α} {Q : α → Shared → Prop} {E : Value → Shared → Prop} {s : Shared} (H : let q := Q; let e := E; wpAny M A c q e s) : wpAny M A c Q E s := H
/-! a statement and those behind it, in one step -/
section
variable {M : Model} {A : Around} {E : Value → Shared → Prop} {s : Shared} {env : Env} {rest : List Stmt} {Q : Flow → Shared → Prop}
theorem ex_name {x : Str} {p' pos : Pos} {value : Expr} (H : wpAny M A (eval value env) (fun v s₁ => wpAny M A (storeName env x v) (fun _ s₂ => wpAny M A (execs rest env) Q E s₂) E s₁) E s)
    (hs : swapsWith value (some (.Name x p')) pos.line env = pure false := by rfl) : wpAny M A (execs (.Assign [.Name x p'] value pos :: rest) env) Q E s := wpAny_execs_cons (wpAny_Assign_Name H hs)
theorem ex_tuple {elts : List Expr} {k : Nat} {tpos pos : Pos} {value : Expr} (H : wpAny M A (eval value env) (fun v s₁ => wpAny M A (assign (.Tuple elts k tpos) env v) (fun _ s₂ => wpAny M A (execs rest env) Q E s₂) E s₁) E s)
    (hs : swapsWithSole [.Tuple elts k tpos] value pos.line env = pure false := by rfl) (hw : swappedStores [.Tuple elts k tpos] value env = pure none := by rfl) :
    wpAny M A (execs (.Assign [.Tuple elts k tpos] value pos :: rest) env) Q E s := wpAny_execs_cons (Assign_Tuple H hs hw)
theorem ex_ret {e : Expr} {pos : Pos} (H : wpAny M A (eval e env) (fun v s₁ => Q (.ret v) s₁) E s) : wpAny M A (execs (.Return (some e) pos :: rest) env) Q E s := wpAny_execs_cons (wpAny_Return_some H)
end
theorem ex_expr {prog : Program} {w : World} {A : Around} {E : Value → Shared → Prop} {s : Shared} {env : Env} {rest : List Stmt} {Q : Flow → Shared → Prop} {e : Expr} {pos : Pos} (H : wpAny (model prog w) A (eval e env) (fun _ s₁ => wpAny (model prog w) A (execs rest env) Q E s₁) E s)
    (hi : interactive env = false := by rfl) (hs : swapsWith e none pos.line env = pure false := by rfl) : wpAny (model prog w) A (execs (.Expr e pos :: rest) env) Q E s := wpAny_execs_cons (wpAny_Expr_any H hi hs)
/-! places in a list -/
section
variable {α : Type} {x a b c d e f g i : α} {l r : List α}
theorem head1 : x ∈ x :: l := .head _
theorem tail1 (h : x ∈ l) : x ∈ a :: l := .tail _ h
theorem tail4 (h : x ∈ l) : x ∈ a :: b :: c :: d :: l := .tail _ (.tail _ (.tail _ (.tail _ h)))
theorem tail8 (h : x ∈ l) : x ∈ a :: b :: c :: d :: e :: f :: g :: i :: l := tail4 (tail4 h)
theorem in_l (h : x ∈ l) : x ∈ l ++ r := List.mem_append_left _ h
theorem in_r (h : x ∈ r) : x ∈ l ++ r := List.mem_append_right _ h
theorem sub_cons (h : a ∈ r) (k : ∀ y ∈ l, y ∈ r) : ∀ y ∈ a :: l, y ∈ r := List.forall_mem_cons.mpr ⟨h, k⟩
theorem sub_app {l₁ l₂ : List α} (h : ∀ y ∈ l₁, y ∈ r) (k : ∀ y ∈ l₂, y ∈ r) : ∀ y ∈ l₁ ++ l₂, y ∈ r := fun y hy => (List.mem_append.mp hy).elim (h y) (k y)
theorem all_app {l₁ l₂ : List α} {P : α → Prop} (h : ∀ y ∈ l₁, P y) (k : ∀ y ∈ l₂, P y) : ∀ y ∈ l₁ ++ l₂, P y := fun y hy => (List.mem_append.mp hy).elim (h y) (k y)
end
/-! room; addresses that differ, out of a conjunction -/
section
variable {d u N k x c j : Nat}
theorem room1 (h : d + N < recursionLimit) (hk : Nat.ble (k + 1) N = true) : d + 1 + k < recursionLimit := by have := Nat.le_of_ble_eq_true hk; (first | lia | omega)
theorem room1n (h : d + (x + c) < recursionLimit) (hk : Nat.ble (k + 1) c = true) : d + 1 + k < recursionLimit := by have := Nat.le_of_ble_eq_true hk; (first | lia | omega)
theorem room1s (h : d + (x + c) < recursionLimit) (hk : Nat.ble (j + 1) c = true) : d + 1 + (x + j) < recursionLimit := by have := Nat.le_of_ble_eq_true hk; (first | lia | omega)
theorem room0 (h : d + N < recursionLimit) : d < recursionLimit := Nat.lt_of_le_of_lt (Nat.le_add_right d N) h
theorem room01 (h : d + N < recursionLimit) (hk : Nat.ble 1 N = true) : d + 1 < recursionLimit := Nat.lt_of_le_of_lt (Nat.add_le_add_left (Nat.le_of_ble_eq_true hk) d) h
theorem units0 (h : u + 8 * N < cLine) (hk : Nat.ble 1 N = true) : u + 3 < cLine := by have := Nat.le_of_ble_eq_true hk; (first | lia | omega)
theorem units64 (h : u + 8 * N < cLine) (hk : Nat.ble 9 N = true) : u + 3 + 64 < cLine := by have := Nat.le_of_ble_eq_true hk; (first | lia | omega)
theorem units1 (h : u + 8 * N < cLine) (hk : Nat.ble (k + 1) N = true) : u + 3 + 8 * k < cLine := by have := Nat.le_of_ble_eq_true hk; (first | lia | omega)
theorem units1n (h : u + 8 * (x + c) < cLine) (hk : Nat.ble (k + 1) c = true) : u + 3 + 8 * k < cLine := by have := Nat.le_of_ble_eq_true hk; (first | lia | omega)
theorem units1s (h : u + 8 * (x + c) < cLine) (hk : Nat.ble (j + 1) c = true) : u + 3 + 8 * (x + j) < cLine := by have := Nat.le_of_ble_eq_true hk; (first | lia | omega)
end
theorem ne_lt {a b : Addr} (h : @LT.lt Nat _ a b) : a ≠ b := Nat.ne_of_lt h
theorem ne_gt {a b : Addr} (h : @LT.lt Nat _ b a) : a ≠ b := Nat.ne_of_gt h
theorem ne_sym {a b : Addr} (h : @Ne Nat b a) : a ≠ b := Ne.symm h
section
variable {q r p0 p1 p2 p3 p4 p5 p6 p7 p8 p9 p10 p11 p12 p13 : Prop}
theorem cj1 (h : p0 ∧ q ∧ r) : q := h.2.1
theorem cj2 (h : p0 ∧ p1 ∧ q ∧ r) : q := h.2.2.1
theorem cj3 (h : p0 ∧ p1 ∧ p2 ∧ q ∧ r) : q := h.2.2.2.1
theorem cj4 (h : p0 ∧ p1 ∧ p2 ∧ p3 ∧ q ∧ r) : q := h.2.2.2.2.1
theorem cj5 (h : p0 ∧ p1 ∧ p2 ∧ p3 ∧ p4 ∧ q ∧ r) : q := h.2.2.2.2.2.1
theorem cj6 (h : p0 ∧ p1 ∧ p2 ∧ p3 ∧ p4 ∧ p5 ∧ q ∧ r) : q := h.2.2.2.2.2.2.1
theorem cj7 (h : p0 ∧ p1 ∧ p2 ∧ p3 ∧ p4 ∧ p5 ∧ p6 ∧ q ∧ r) : q := h.2.2.2.2.2.2.2.1
theorem cj8 (h : p0 ∧ p1 ∧ p2 ∧ p3 ∧ p4 ∧ p5 ∧ p6 ∧ p7 ∧ q ∧ r) : q := h.2.2.2.2.2.2.2.2.1
theorem cj9 (h : p0 ∧ p1 ∧ p2 ∧ p3 ∧ p4 ∧ p5 ∧ p6 ∧ p7 ∧ p8 ∧ q ∧ r) : q := h.2.2.2.2.2.2.2.2.2.1
theorem cj10 (h : p0 ∧ p1 ∧ p2 ∧ p3 ∧ p4 ∧ p5 ∧ p6 ∧ p7 ∧ p8 ∧ p9 ∧ q ∧ r) : q := h.2.2.2.2.2.2.2.2.2.2.1
theorem cj11 (h : p0 ∧ p1 ∧ p2 ∧ p3 ∧ p4 ∧ p5 ∧ p6 ∧ p7 ∧ p8 ∧ p9 ∧ p10 ∧ q ∧ r) : q := h.2.2.2.2.2.2.2.2.2.2.2.1
theorem cj12 (h : p0 ∧ p1 ∧ p2 ∧ p3 ∧ p4 ∧ p5 ∧ p6 ∧ p7 ∧ p8 ∧ p9 ∧ p10 ∧ p11 ∧ q ∧ r) : q := h.2.2.2.2.2.2.2.2.2.2.2.2.1
theorem cj13 (h : p0 ∧ p1 ∧ p2 ∧ p3 ∧ p4 ∧ p5 ∧ p6 ∧ p7 ∧ p8 ∧ p9 ∧ p10 ∧ p11 ∧ p12 ∧ q ∧ r) : q := h.2.2.2.2.2.2.2.2.2.2.2.2.2.1
theorem al8 (h : p0 ∧ p1 ∧ p2 ∧ p3 ∧ p4 ∧ p5 ∧ p6 ∧ p7 ∧ q) : q := h.2.2.2.2.2.2.2.2
theorem al9 (h : p0 ∧ p1 ∧ p2 ∧ p3 ∧ p4 ∧ p5 ∧ p6 ∧ p7 ∧ p8 ∧ q) : q := h.2.2.2.2.2.2.2.2.2
theorem al10 (h : p0 ∧ p1 ∧ p2 ∧ p3 ∧ p4 ∧ p5 ∧ p6 ∧ p7 ∧ p8 ∧ p9 ∧ q) : q := h.2.2.2.2.2.2.2.2.2.2
theorem al11 (h : p0 ∧ p1 ∧ p2 ∧ p3 ∧ p4 ∧ p5 ∧ p6 ∧ p7 ∧ p8 ∧ p9 ∧ p10 ∧ q) : q := h.2.2.2.2.2.2.2.2.2.2.2
theorem al12 (h : p0 ∧ p1 ∧ p2 ∧ p3 ∧ p4 ∧ p5 ∧ p6 ∧ p7 ∧ p8 ∧ p9 ∧ p10 ∧ p11 ∧ q) : q := h.2.2.2.2.2.2.2.2.2.2.2.2
theorem al13 (h : p0 ∧ p1 ∧ p2 ∧ p3 ∧ p4 ∧ p5 ∧ p6 ∧ p7 ∧ p8 ∧ p9 ∧ p10 ∧ p11 ∧ p12 ∧ q) : q := h.2.2.2.2.2.2.2.2.2.2.2.2.2
end
section
variable {α : Type} {x a0 a1 a2 a3 a4 a5 a6 a7 a8 a9 a10 a11 a12 a13 a14 a15 : α} {l : List α}
theorem tl1 (h : x ∈ l) : x ∈ a0 :: l := .tail _ h
theorem tl2 (h : x ∈ l) : x ∈ a0 :: a1 :: l := .tail _ (tl1 h)
theorem tl3 (h : x ∈ l) : x ∈ a0 :: a1 :: a2 :: l := .tail _ (tl2 h)
theorem tl4 (h : x ∈ l) : x ∈ a0 :: a1 :: a2 :: a3 :: l := .tail _ (tl3 h)
theorem tl5 (h : x ∈ l) : x ∈ a0 :: a1 :: a2 :: a3 :: a4 :: l := .tail _ (tl4 h)
theorem tl6 (h : x ∈ l) : x ∈ a0 :: a1 :: a2 :: a3 :: a4 :: a5 :: l := .tail _ (tl5 h)
theorem tl7 (h : x ∈ l) : x ∈ a0 :: a1 :: a2 :: a3 :: a4 :: a5 :: a6 :: l := .tail _ (tl6 h)
theorem tl8 (h : x ∈ l) : x ∈ a0 :: a1 :: a2 :: a3 :: a4 :: a5 :: a6 :: a7 :: l := .tail _ (tl7 h)
theorem tl9 (h : x ∈ l) : x ∈ a0 :: a1 :: a2 :: a3 :: a4 :: a5 :: a6 :: a7 :: a8 :: l := .tail _ (tl8 h)
theorem tl10 (h : x ∈ l) : x ∈ a0 :: a1 :: a2 :: a3 :: a4 :: a5 :: a6 :: a7 :: a8 :: a9 :: l := .tail _ (tl9 h)
theorem tl11 (h : x ∈ l) : x ∈ a0 :: a1 :: a2 :: a3 :: a4 :: a5 :: a6 :: a7 :: a8 :: a9 :: a10 :: l := .tail _ (tl10 h)
theorem tl12 (h : x ∈ l) : x ∈ a0 :: a1 :: a2 :: a3 :: a4 :: a5 :: a6 :: a7 :: a8 :: a9 :: a10 :: a11 :: l := .tail _ (tl11 h)
theorem tl13 (h : x ∈ l) : x ∈ a0 :: a1 :: a2 :: a3 :: a4 :: a5 :: a6 :: a7 :: a8 :: a9 :: a10 :: a11 :: a12 :: l := .tail _ (tl12 h)
theorem tl14 (h : x ∈ l) : x ∈ a0 :: a1 :: a2 :: a3 :: a4 :: a5 :: a6 :: a7 :: a8 :: a9 :: a10 :: a11 :: a12 :: a13 :: l := .tail _ (tl13 h)
theorem tl15 (h : x ∈ l) : x ∈ a0 :: a1 :: a2 :: a3 :: a4 :: a5 :: a6 :: a7 :: a8 :: a9 :: a10 :: a11 :: a12 :: a13 :: a14 :: l := .tail _ (tl14 h)
theorem at0 : x ∈ x :: l := .head _
theorem at1 : x ∈ a0 :: x :: l := tl1 (.head _)
theorem at2 : x ∈ a0 :: a1 :: x :: l := tl2 (.head _)
theorem at3 : x ∈ a0 :: a1 :: a2 :: x :: l := tl3 (.head _)
theorem at4 : x ∈ a0 :: a1 :: a2 :: a3 :: x :: l := tl4 (.head _)
theorem at5 : x ∈ a0 :: a1 :: a2 :: a3 :: a4 :: x :: l := tl5 (.head _)
theorem at6 : x ∈ a0 :: a1 :: a2 :: a3 :: a4 :: a5 :: x :: l := tl6 (.head _)
theorem at7 : x ∈ a0 :: a1 :: a2 :: a3 :: a4 :: a5 :: a6 :: x :: l := tl7 (.head _)
theorem at8 : x ∈ a0 :: a1 :: a2 :: a3 :: a4 :: a5 :: a6 :: a7 :: x :: l := tl8 (.head _)
theorem at9 : x ∈ a0 :: a1 :: a2 :: a3 :: a4 :: a5 :: a6 :: a7 :: a8 :: x :: l := tl9 (.head _)
theorem at10 : x ∈ a0 :: a1 :: a2 :: a3 :: a4 :: a5 :: a6 :: a7 :: a8 :: a9 :: x :: l := tl10 (.head _)
theorem at11 : x ∈ a0 :: a1 :: a2 :: a3 :: a4 :: a5 :: a6 :: a7 :: a8 :: a9 :: a10 :: x :: l := tl11 (.head _)
theorem at12 : x ∈ a0 :: a1 :: a2 :: a3 :: a4 :: a5 :: a6 :: a7 :: a8 :: a9 :: a10 :: a11 :: x :: l := tl12 (.head _)
theorem at13 : x ∈ a0 :: a1 :: a2 :: a3 :: a4 :: a5 :: a6 :: a7 :: a8 :: a9 :: a10 :: a11 :: a12 :: x :: l := tl13 (.head _)
theorem at14 : x ∈ a0 :: a1 :: a2 :: a3 :: a4 :: a5 :: a6 :: a7 :: a8 :: a9 :: a10 :: a11 :: a12 :: a13 :: x :: l := tl14 (.head _)
theorem at15 : x ∈ a0 :: a1 :: a2 :: a3 :: a4 :: a5 :: a6 :: a7 :: a8 :: a9 :: a10 :: a11 :: a12 :: a13 :: a14 :: x :: l := tl15 (.head _)
end

end
/-! B1 -/
section
open PySem.Calls PySem.Builtin

theorem slot_find : Slot "bytes" "find" "bytes.find" :=
  .of (owner := "bytes") (n := "find") (by rw [typeLookup_type, builtinLookup_eq_fast]; kernel_rfl) (by decide +kernel) (by decide +kernel) (by decide +kernel)
    (by first | exact .inl (by decide +kernel) | exact .inr (by decide +kernel)) (by rw [isSubtype_type]; kernel_rfl)
theorem type_find : typeOf (.builtin "bytes.find") = pure (.type "method_descriptor") := by show builtinType _ = _; rw [builtinType_eq_fast]; kernel_rfl
theorem entry_find : entryFor table "bytes.find" = some Builtin.«bytes.find» := entryFor_of_tree (by kernel_rfl)
theorem args_find (a b c d : Value) : argsOk "bytes.find" ⟨[a, b, c, d], []⟩ := by unfold argsOk; kernel_rfl

theorem slot_strip : Slot "bytes" "strip" "bytes.strip" :=
  .of (owner := "bytes") (n := "strip") (by rw [typeLookup_type, builtinLookup_eq_fast]; kernel_rfl) (by decide +kernel) (by decide +kernel) (by decide +kernel)
    (by first | exact .inl (by decide +kernel) | exact .inr (by decide +kernel)) (by rw [isSubtype_type]; kernel_rfl)
theorem type_strip : typeOf (.builtin "bytes.strip") = pure (.type "method_descriptor") := by show builtinType _ = _; rw [builtinType_eq_fast]; kernel_rfl
theorem entry_strip : entryFor table "bytes.strip" = some Builtin.«bytes.strip» := entryFor_of_tree (by kernel_rfl)
theorem args_strip (a b : Value) : argsOk "bytes.strip" ⟨[a, b], []⟩ := by unfold argsOk; kernel_rfl

theorem slot_rstrip : Slot "bytes" "rstrip" "bytes.rstrip" :=
  .of (owner := "bytes") (n := "rstrip") (by rw [typeLookup_type, builtinLookup_eq_fast]; kernel_rfl) (by decide +kernel) (by decide +kernel) (by decide +kernel)
    (by first | exact .inl (by decide +kernel) | exact .inr (by decide +kernel)) (by rw [isSubtype_type]; kernel_rfl)
theorem type_rstrip : typeOf (.builtin "bytes.rstrip") = pure (.type "method_descriptor") := by show builtinType _ = _; rw [builtinType_eq_fast]; kernel_rfl
theorem entry_rstrip : entryFor table "bytes.rstrip" = some Builtin.«bytes.rstrip» := entryFor_of_tree (by kernel_rfl)
theorem args_rstrip (a b : Value) : argsOk "bytes.rstrip" ⟨[a, b], []⟩ := by unfold argsOk; kernel_rfl

theorem slot_join : Slot "bytes" "join" "bytes.join" :=
  .of (owner := "bytes") (n := "join") (by rw [typeLookup_type, builtinLookup_eq_fast]; kernel_rfl) (by decide +kernel) (by decide +kernel) (by decide +kernel)
    (by first | exact .inl (by decide +kernel) | exact .inr (by decide +kernel)) (by rw [isSubtype_type]; kernel_rfl)
theorem type_join : typeOf (.builtin "bytes.join") = pure (.type "method_descriptor") := by show builtinType _ = _; rw [builtinType_eq_fast]; kernel_rfl
theorem entry_join : entryFor table "bytes.join" = some Builtin.«bytes.join» := entryFor_of_tree (by kernel_rfl)
theorem args_join (a b : Value) : argsOk "bytes.join" ⟨[a, b], []⟩ := by unfold argsOk; kernel_rfl

section
variable {b c : Array UInt8} {t u tl th : Tok} {lo hi : Int}
theorem special_int {name : PySem.Str} {r : Option Value} (h : typeLookup (.type "int") name = pure r) : specialOf (.int lo t) name = pure r := by
  have e : specialOf (.int lo t) name = typeLookup (.type "int") name := rfl
  rw [e, h]
theorem bound_int : Bytes.bound? (some (.int lo t)) = pure (some lo) := by
  unfold Bytes.bound?
  dsimp only
  rw [special_int F.slot_int_index.lookup]
  rfl
/-- where the part lies, or -1 -/
noncomputable def findZ (b c : Array UInt8) (lo hi : Int) : Int :=
  let w := Bytes.window b.size (some lo) (some hi)
  if w.2 - w.1 < c.size then -1 else match Bytes.find? b c w.1.toNat w.2.toNat with
    | some i => (i : Int)
    | none => -1
theorem wp_searchArgs {M : Model} {A : Around} {E : Value → Shared → Prop} {s : Shared} {Q : (Array UInt8 × Array UInt8 × Option (Nat × Nat)) → Shared → Prop}
    (h : Q (b, c, if (Bytes.window b.size (some lo) (some hi)).2 - (Bytes.window b.size (some lo) (some hi)).1 < c.size then none else some ((Bytes.window b.size (some lo) (some hi)).1.toNat, (Bytes.window b.size (some lo) (some hi)).2.toNat)) s) :
    wpAny M A (Bytes.searchArgs .bytes "find" ⟨[.bytes b t, .bytes c u, .int lo tl, .int hi th], []⟩) Q E s := by
  unfold Bytes.searchArgs
  show wpAny _ _ (Bytes.bound? (some (.int lo tl)) >>= fun r => _) _ _ s
  refine wpAny_bind (wpAny_of_eq bound_int ?_)
  show wpAny _ _ (Bytes.bound? (some (.int hi th)) >>= fun r => _) _ _ s
  refine wpAny_bind (wpAny_of_eq bound_int ?_)
  show wpAny _ _ (Bytes.buffer? _ (.bytes c u) >>= fun r => _) _ _ s
  refine wpAny_bind (wpAny_of_eq KBy.buffer_eq ?_)
  exact wpAny_pure h
theorem meets_find : Meets («bytes.find» ⟨[.bytes b t, .bytes c u, .int lo tl, .int hi th], []⟩) (fun _ R s => R (.ok (.ret (.int (findZ b c lo hi) s.toks))) { s with toks := s.toks + 1 }) := by
  refine .of_wp fun prog w A R s hS => ?_
  show wpAny _ _ (Bytes.searchArgs .bytes "find" _ >>= _) _ _ s
  refine wpAny_bind (wp_searchArgs ?_)
  unfold findZ at hS
  dsimp only at hS ⊢
  by_cases hc : (Bytes.window b.size (some lo) (some hi)).2 - (Bytes.window b.size (some lo) (some hi)).1 < c.size
  · rw [if_pos hc] at hS ⊢
    exact wpAny_bind (wpAny_rule (wpAny_bind (wpAny_mkInt (wpAny_pure ⟨_, rfl, hS⟩))))
  · rw [if_neg hc] at hS ⊢
    show wpAny _ _ (match Bytes.find? b c (Bytes.window b.size (some lo) (some hi)).1.toNat (Bytes.window b.size (some lo) (some hi)).2.toNat with | some i => retInt i | none => _) _ _ _
    cases hf : Bytes.find? b c (Bytes.window b.size (some lo) (some hi)).1.toNat (Bytes.window b.size (some lo) (some hi)).2.toNat with
    | some i => rw [hf] at hS; exact wpAny_bind (wpAny_mkInt (wpAny_pure ⟨_, rfl, hS⟩))
    | none => rw [hf] at hS; exact wpAny_bind (wpAny_rule (wpAny_bind (wpAny_mkInt (wpAny_pure ⟨_, rfl, hS⟩))))


theorem dropWhile_len {α : Type} (p : α → Bool) : ∀ l : List α, (l.dropWhile p).length ≤ l.length
  | [] => Nat.le_refl _
  | x :: r => by
    rw [List.dropWhile_cons]
    split
    · exact Nat.le_succ_of_le (dropWhile_len p r)
    · exact Nat.le_refl _
theorem dropWhile_all {α : Type} (p : α → Bool) : ∀ l : List α, (l.dropWhile p).length = l.length → l.dropWhile p = l
  | [], _ => rfl
  | x :: r, h => by
    rw [List.dropWhile_cons] at h ⊢
    split
    · rename_i hp
      rw [if_pos hp] at h
      have := dropWhile_len p r
      rw [List.length_cons] at h
      (first | lia | omega)
    · rfl
noncomputable def stripL (c : Array UInt8) (b : List UInt8) : List UInt8 := b.dropWhile c.contains
noncomputable def stripR (c : Array UInt8) (b : List UInt8) : List UInt8 := (b.reverse.dropWhile c.contains).reverse
theorem stripL_len (c : Array UInt8) (b : List UInt8) : (stripL c b).length ≤ b.length := dropWhile_len _ _
theorem stripR_len (c : Array UInt8) (b : List UInt8) : (stripR c b).length ≤ b.length := by
  unfold stripR
  rw [List.length_reverse]
  exact Nat.le_trans (dropWhile_len _ _) (Nat.le_of_eq (List.length_reverse))
theorem stripL_all {c : Array UInt8} {b : List UInt8} (h : (stripL c b).length = b.length) : stripL c b = b := dropWhile_all _ _ h
theorem stripR_all {c : Array UInt8} {b : List UInt8} (h : (stripR c b).length = b.length) : stripR c b = b := by
  unfold stripR at h ⊢
  rw [List.length_reverse] at h
  rw [dropWhile_all _ _ (h.trans List.length_reverse.symm), List.reverse_reverse]
theorem like_eq {id : String} : Bytes.bytesLike id (.bytes b t) = pure b := by
  unfold Bytes.bytesLike
  rw [KBy.buffer_eq]
  rfl
theorem wp_kept {M : Model} {A : Around} {E : Value → Shared → Prop} {s : Shared} {Q : Fin → Shared → Prop} {x : String} {l : List UInt8} (hz : l.length ≤ 16777216) (hl : l.length = b.size → l = b.toList)
    (h : ∀ t' k, Q (.done (.ret (.bytes l.toArray t'))) { s with toks := k }) :
    wpAny M A (if (l.length == b.size) = true then (do rule x; let v ← Bytes.Kind.bytes.same (.bytes b t); ret v) else (do let v ← Bytes.Kind.bytes.new l.toArray; ret v)) Q E s := by
  by_cases hc : l.length = b.size
  · rw [if_pos (beq_iff_eq.mpr hc)]
    refine wpAny_bind (wpAny_rule ?_)
    refine wpAny_bind ?_
    show wpAny _ _ (typeOf (.bytes b t) >>= _) _ _ s
    refine wpAny_bind (wpAny_typeOf (typeIs_bytes _ b t) ?_)
    have := h t s.toks
    rw [hl hc] at this
    exact wpAny_pure (wpAny_pure this)
  · rw [if_neg (by simpa using hc)]
    refine wpAny_bind (wpAny_mkBytes (wpAny_pure (h _ _)) ?_)
    rw [List.size_toArray, sizeLine_eq]; exact hz
theorem meets_rstrip (hz : b.size ≤ 16777216) : Meets («bytes.rstrip» ⟨[.bytes b t, .bytes c u], []⟩) (fun _ R s => ∀ t' k, R (.ok (.ret (.bytes (stripR c b.toList).toArray t'))) { s with toks := k }) := by
  refine .of_wp fun prog w A R s hS => ?_
  show wpAny _ _ (Bytes.bytesLike _ (.bytes c u) >>= fun r => _) _ _ s
  refine wpAny_bind (wpAny_of_eq like_eq ?_)
  show wpAny _ _ (if ((stripR c b.toList).length == b.size) = true then _ else _) _ _ s
  refine wp_kept (Nat.le_trans (stripR_len _ _) hz) (fun h => stripR_all h) fun t' k => ⟨_, rfl, hS t' k⟩
theorem meets_strip (hz : b.size ≤ 16777216) : Meets («bytes.strip» ⟨[.bytes b t, .bytes c u], []⟩) (fun _ R s => ∀ t' k, R (.ok (.ret (.bytes (stripR c (stripL c b.toList)).toArray t'))) { s with toks := k }) := by
  refine .of_wp fun prog w A R s hS => ?_
  show wpAny _ _ (Bytes.bytesLike _ (.bytes c u) >>= fun r => _) _ _ s
  refine wpAny_bind (wpAny_of_eq like_eq ?_)
  show wpAny _ _ (if ((stripR c (stripL c b.toList)).length == b.size) = true then _ else _) _ _ s
  refine wp_kept (Nat.le_trans (stripR_len _ _) (Nat.le_trans (stripL_len _ _) hz)) (fun h => ?_) fun t' k => ⟨_, rfl, hS t' k⟩
  have h1 := stripR_len c (stripL c b.toList)
  have h2 := stripL_len c b.toList
  have h3 : b.toList.length = b.size := Array.length_toList
  have h4 : stripL c b.toList = b.toList := stripL_all (by (first | lia | omega))
  rw [h4] at h ⊢
  exact stripR_all (by (first | lia | omega))
end
section
variable {prog : Program} {w : World} {A : Around} {E : Value → Shared → Prop} {s : Shared} {b c : Array UInt8} {t u tl th : Tok} {lo hi : Int} {Q : Value → Shared → Prop}
theorem find_call (h : ∀ t' k, Q (.int (findZ b c lo hi) t') { s with toks := k }) : wpAny (model prog w) A (call (.builtin "bytes.find") [.bytes b t, .bytes c u, .int lo tl, .int hi th]) Q E s :=
  call_meets slot_find (typeIs_bytes _ _ _) entry_find (args_find _ _ _ _) meets_find (h _ _)
theorem rstrip_call (hz : b.size ≤ 16777216) (h : ∀ t' k, Q (.bytes (stripR c b.toList).toArray t') { s with toks := k }) : wpAny (model prog w) A (call (.builtin "bytes.rstrip") [.bytes b t, .bytes c u]) Q E s :=
  call_meets slot_rstrip (typeIs_bytes _ _ _) entry_rstrip (args_rstrip _ _) (meets_rstrip hz) h
theorem strip_call (hz : b.size ≤ 16777216) (h : ∀ t' k, Q (.bytes (stripR c (stripL c b.toList)).toArray t') { s with toks := k }) : wpAny (model prog w) A (call (.builtin "bytes.strip") [.bytes b t, .bytes c u]) Q E s :=
  call_meets slot_strip (typeIs_bytes _ _ _) entry_strip (args_strip _ _) (meets_strip hz) h
theorem find_meth {M : Model} {pl : Sem Bool} {Q : Value × List Value → Shared → Prop} (h : Q (.builtin "bytes.find", [.bytes b t]) s) : wpAny M A (getMethod (.bytes b t) "find" pl) Q E s := by
  with_reducible exact KBd.method_of (.bytes b t) (typeIs_bytes _ _ _) slot_find type_find KBd.noRef h
theorem rstrip_meth {M : Model} {pl : Sem Bool} {Q : Value × List Value → Shared → Prop} (h : Q (.builtin "bytes.rstrip", [.bytes b t]) s) : wpAny M A (getMethod (.bytes b t) "rstrip" pl) Q E s := by
  with_reducible exact KBd.method_of (.bytes b t) (typeIs_bytes _ _ _) slot_rstrip type_rstrip KBd.noRef h
theorem strip_meth {M : Model} {pl : Sem Bool} {Q : Value × List Value → Shared → Prop} (h : Q (.builtin "bytes.strip", [.bytes b t]) s) : wpAny M A (getMethod (.bytes b t) "strip" pl) Q E s := by
  with_reducible exact KBd.method_of (.bytes b t) (typeIs_bytes _ _ _) slot_strip type_strip KBd.noRef h
theorem join_meth {M : Model} {pl : Sem Bool} {Q : Value × List Value → Shared → Prop} (h : Q (.builtin "bytes.join", [.bytes b t]) s) : wpAny M A (getMethod (.bytes b t) "join" pl) Q E s := by
  with_reducible exact KBd.method_of (.bytes b t) (typeIs_bytes _ _ _) slot_join type_join KBd.noRef h
end

end
/-! B2 -/
section
open PySem.Calls PySem.Builtin

noncomputable def bytesValues (l : List (Array UInt8 × Tok)) : List Value := l.map fun p => .bytes p.1 p.2
theorem special_buffer {b : Array UInt8} {t : Tok} {name : PySem.Str} (h : name = "__buffer__") : specialOf (.bytes b t) name = pure (some (.builtin "bytes.__buffer__")) := by
  subst h
  exact KBy.special_eq KBy.look_buffer
theorem buffer_full {b : Array UInt8} {t : Tok} {id : String} {f : Bool} : Bytes.buffer? id (.bytes b t) f = pure (some b) := by
  unfold Bytes.buffer?
  rw [KBy.special_eq KBy.look_buffer, KBy.own_buffer, KBy.own_release]
  kernel_rfl
theorem take_eq {b : Array UInt8} {t : Tok} {id : String} : Bytes.takeBufferQuiet? id (.bytes b t) 0 = pure (some (b, none)) := by
  unfold Bytes.takeBufferQuiet? Bytes.takeBuffer?
  rw [KBy.special_eq KBy.look_buffer, KBy.own_buffer, buffer_full]
  kernel_rfl
theorem foldl_app (l : List (Array UInt8 × Nat)) : ∀ out : Array UInt8, l.foldl (fun out (p : Array UInt8 × Nat) => (if p.2 > 0 then out ++ #[] else out) ++ p.1) out = (out.toList ++ (l.map (·.1.toList)).flatten).toArray := by
  induction l with
  | nil => intro out; simp
  | cons p r ih => intro out; rw [List.foldl_cons, ih]; by_cases h : p.2 > 0 <;> simp [h]
theorem joined_nil (ps : List (Array UInt8)) : Bytes.joined #[] ps = (ps.map (·.toList)).flatten.toArray := by
  unfold Bytes.joined
  have := foldl_app ps.zipIdx #[]
  refine Eq.trans this ?_
  have h2 : ps.zipIdx.map (·.1.toList) = ps.map (·.toList) := by
    rw [show (fun x : Array UInt8 × Nat => x.1.toList) = (fun y : Array UInt8 => y.toList) ∘ Prod.fst from rfl, ← List.map_map]
    simp
  rw [h2]; simp
theorem sizes (ps : List (Array UInt8)) : ∀ n : Nat, ps.foldl (fun (k : Nat) (b : Array UInt8) => k + b.size) n = n + (ps.map (·.toList)).flatten.length := by
  induction ps with
  | nil => intro n; simp
  | cons p r ih => intro n; rw [List.foldl_cons, ih]; simp; (first | lia | omega)
theorem wp_joinLetGo {M : Model} {A : Around} {E : Value → Shared → Prop} {s : Shared} {Q : Unit → Shared → Prop} {keep : List Value} (h : Q () s) : ∀ l : List (Array UInt8 × Tok), wpAny M A (Bytes.joinLetGo (l.map fun p => (Value.bytes p.1 p.2, (none : Option Value))) keep) Q E s
  | [] => wpAny_pure h
  | p :: r => by
    show wpAny M A (letGo _ _ >>= fun _ => Bytes.joinLetGo _ keep) Q E s
    exact wpAny_bind (wpAny_letGo (wp_joinLetGo h r))

theorem meets_join {t : Tok} {a : Addr} {l : List (Array UInt8 × Tok)} (hz : ((l.map (·.1.toList)).flatten).length ≤ 16777216) : Meets («bytes.join» ⟨[.bytes #[] t, .ref a], []⟩)
    (fun _ R s => s.heap.IsList a (bytesValues l).toArray ∧ ∀ t' k, R (.ok (.ret (.bytes (l.map (·.1.toList)).flatten.toArray t'))) { s with toks := k }) := by
  refine .of_wp fun prog w A R s hS => ?_
  (refine Mine.ex_0_2 (hS) ?_; (try clear hS); intro hl h)
  obtain ⟨o, ho, hc, n, hd⟩ := id hl
  have hT : s.TypeIs (.ref a) "list" := ⟨o, ho, hc⟩
  show wpAny _ _ (Bytes.joinItems (.ref a) >>= fun r => _) _ _ s
  refine wpAny_bind ?_
  unfold Bytes.joinItems
  refine wpAny_bind (wpAny_typeOf hT ?_)
  refine wpAny_ite (KBc.ite_yes rfl ?_)
  refine wpAny_pure ?_
  refine wpAny_bind (wpAny_seqItems ho hd ?_)
  dsimp only
  have lst : ∀ (m n : Nat), List.range' n (m - n) = if n < m then n :: List.range' (n + 1) (m - (n + 1)) else [] := fun m n => by
    by_cases h : n < m
    · rw [if_pos h, show m - n = (m - (n + 1)) + 1 by (first | lia | omega), List.range'_succ]
    · rw [if_neg h, show m - n = 0 by (first | lia | omega)]; rfl
  have hsize : ∀ l, (bytesValues l).toArray.size = l.length := fun l => by simp [bytesValues]
  have hget : ∀ (l : List (Array UInt8 × Tok)) (x : Nat), x < l.length → (bytesValues l).toArray.getD x .none = .bytes (l.getD x (#[], 0)).1 (l.getD x (#[], 0)).2 := fun l x hx => by
    simp [bytesValues, List.getD_eq_getElem?_getD, hx]
  have hheap : ∀ (l : List (Array UInt8 × Tok)), (l.map fun p => (Value.bytes p.1 p.2, (none : Option Value))).any (·.1.onHeap) = false := fun l => by
    simp [Value.onHeap]
  rcases l with _ | ⟨p, _ | ⟨q, r⟩⟩
  case cons.nil =>
    show wpAny _ _ (typeOf (.bytes p.1 p.2) >>= _) _ _ s
    refine wpAny_bind (wpAny_typeOf (typeIs_bytes _ p.1 p.2) ?_)
    refine wpAny_ite (KBc.ite_yes rfl ?_)
    refine wpAny_bind (wpAny_rule (wpAny_pure ⟨_, rfl, ?_⟩))
    have := h p.2 s.toks
    simp only [List.map_cons, List.map_nil, List.flatten_cons, List.flatten_nil, List.append_nil] at this
    exact this
  all_goals (
    show wpAny _ _ (forIn _ _ _ >>= _) _ _ s
    first | generalize p :: q :: r = l at * | generalize ([] : List (Array UInt8 × Tok)) = l at *
    as_aux_lemma =>
    refine wpAny_bind ?_
    rw [KPc.range_list]
    refine wpAny_forIn_list _ (fun rest b s' => s' = s ∧ ∃ k, rest = List.range' k (l.length - k) ∧ k ≤ l.length ∧ b.1 = ((l.take k).map (·.1)).toArray ∧ b.2 = (l.take k).map fun p => (Value.bytes p.1 p.2, (none : Option Value))) _ ?_ ?_ _ _ ⟨rfl, 0, by rw [hsize]; rfl, Nat.zero_le _, rfl, rfl⟩
    · intro x rest b s' h9
      have e0 := h9.1
      subst e0
      refine Mine.ex_1_4 h9.2 ?_
      intro k hk hkl hb1 hb2
      clear h9
      rw [lst] at hk
      by_cases hlt : k < l.length
      · rw [if_pos hlt] at hk
        have e1 := (List.cons.inj hk).1
        have e2 := (List.cons.inj hk).2
        clear hk
        subst e2
        subst e1
        refine wpAny_bind (wpAny_seqItems ho hd ?_)
        dsimp only
        rw [hget l x hlt, hb2, hheap]
        refine wpAny_ite (KBy.ite_no (by decide) ?_)
        refine wpAny_bind (wpAny_holding (wpAny_of_eq take_eq ?_))
        refine wpAny_bind (wpAny_seqItems ho hd ?_)
        refine wpAny_ite (KBy.ite_no (by simp) ?_)
        refine wpAny_pure ⟨rfl, x + 1, rfl, hlt, ?_, ?_⟩
        · have hx : l.take (x + 1) = l.take x ++ [l[x]] := by rw [List.take_add_one]; simp [hlt]
          rw [hb1, hx, List.map_append]
          simp [List.getD_eq_getElem?_getD, hlt, - List.map_take]
        · have hx : l.take (x + 1) = l.take x ++ [l[x]] := by rw [List.take_add_one]; simp [hlt]
          rw [hx, List.map_append]
          simp [List.getD_eq_getElem?_getD, hlt, - List.map_take]
      · rw [if_neg hlt] at hk; cases hk
    · intro b s' h9
      have e0 := h9.1
      subst e0
      refine Mine.ex_1_4 h9.2 ?_
      intro k hk hkl hb1 hb2
      clear h9
      rw [lst] at hk
      have hkk : k = l.length := by
        by_cases hlt : k < l.length
        · rw [if_pos hlt] at hk; cases hk
        · (first | lia | omega)
      subst hkk
      rw [List.take_length] at hb1 hb2
      show wpAny _ _ (if _ = true then _ else _) _ _ _
      have hsz : b.1.foldl (fun (k : Nat) (b : Array UInt8) => k + b.size) ((#[] : Array UInt8).size * (b.1.size - 1)) = (l.map (·.1.toList)).flatten.length := by
        rw [hb1, ← Array.foldl_toList]
        have := sizes (l.map (·.1)) 0
        simp only [List.map_map, Function.comp_def] at this
        simpa using this
      rw [hsz]
      refine wpAny_ite (KBy.ite_no (by rw [KBy.tooLong_not hz]; exact Bool.false_ne_true) ?_)
      have hj : Bytes.joined #[] b.1.toList = (l.map (·.1.toList)).flatten.toArray := by
        rw [joined_nil, hb1]; simp [Function.comp_def]
      rw [hj, hb2]
      refine wpAny_bind (wpAny_mkBytes ?_ (by rw [List.size_toArray, sizeLine_eq]; exact hz))
      refine wpAny_bind (wpAny_holding (wpAny_point ?_))
      refine wpAny_bind (wp_joinLetGo ?_ _)
      exact wpAny_pure ⟨_, rfl, h _ _⟩)
theorem join_call {prog : Program} {w : World} {A : Around} {E : Value → Shared → Prop} {s : Shared} {t : Tok} {a : Addr} {Q : Value → Shared → Prop} {l : List (Array UInt8 × Tok)} (hl : s.heap.IsList a (bytesValues l).toArray)
    (hz : ((l.map (·.1.toList)).flatten).length ≤ 16777216) (h : ∀ t' k, Q (.bytes (l.map (·.1.toList)).flatten.toArray t') { s with toks := k }) : wpAny (model prog w) A (call (.builtin "bytes.join") [.bytes #[] t, .ref a]) Q E s :=
  call_meets slot_join (typeIs_bytes _ _ _) entry_join (args_join _ _) (meets_join hz) ⟨hl, h⟩

end
/-! B3 -/
section
open PySem.Builtin

/-- a part of the octets -/
noncomputable def seg (d : List UInt8) (a e : Nat) : List UInt8 := (d.drop a).take (e - a)
theorem seg_len (d : List UInt8) (a e : Nat) : (seg d a e).length = min (e - a) (d.length - a) := by simp [seg]
theorem seg_len' {d : List UInt8} {a e : Nat} (_h : a ≤ e) (he : e ≤ d.length) : (seg d a e).length = e - a := by rw [seg_len]; (first | lia | omega)
theorem seg_le {d : List UInt8} {a e n : Nat} (h : d.length ≤ n) : (seg d a e).length ≤ n := by rw [seg_len]; (first | lia | omega)
theorem seg_get {d : List UInt8} {a e i : Nat} (h : a + i < e) : (seg d a e)[i]? = d[a + i]? := by
  unfold seg
  rw [List.getElem?_take, if_pos (by (first | lia | omega)), List.getElem?_drop]
theorem picked_nn (d : List UInt8) (lo hi : Nat) : KBy.picked d.toArray (some lo) (some hi) = (seg d lo hi).toArray := by
  rw [KBc.picked_eq]
  simp only [Option.elim, clipAt_nat, List.size_toArray]
  unfold seg
  congr 1
  by_cases h : lo ≤ d.length
  · rw [Nat.min_eq_left h]
    refine List.take_eq_take_iff.mpr ?_
    simp only [List.length_drop]
    (first | lia | omega)
  · rw [List.drop_of_length_le (by (first | lia | omega)), List.drop_of_length_le (by (first | lia | omega))]
    simp
theorem picked_n (d : List UInt8) (lo : Nat) : KBy.picked d.toArray (some lo) none = (d.drop lo).toArray := by
  rw [KBc.picked_eq]
  simp only [Option.elim, clipAt_nat, List.size_toArray]
  congr 1
  by_cases h : lo ≤ d.length
  · rw [Nat.min_eq_left h, List.take_of_length_le (by simp)]
  · rw [List.drop_of_length_le (by (first | lia | omega)), List.drop_of_length_le (by (first | lia | omega))]
    simp
theorem picked_upto (d : List UInt8) (hi : Nat) : KBy.picked d.toArray none (some hi) = (d.take hi).toArray := by
  rw [KBc.picked_eq]
  simp only [Option.elim, clipAt_nat, List.size_toArray, List.drop_zero, Nat.sub_zero]
  congr 1
  refine List.take_eq_take_iff.mpr ?_
  (first | lia | omega)
theorem picked_last (d : List UInt8) (k : Nat) (hk : 1 ≤ k) : KBy.picked d.toArray (some (-(k : Int))) none = (d.drop (d.length - k)).toArray := by
  rw [KBc.picked_eq]
  simp only [Option.elim, clipAt_neg _ _ hk, List.size_toArray]
  congr 1
  rw [List.take_of_length_le (by simp)]
theorem picked_but (d : List UInt8) (k : Nat) (hk : 1 ≤ k) : KBy.picked d.toArray none (some (-(k : Int))) = (d.take (d.length - k)).toArray := by
  rw [KBc.picked_eq]
  simp only [Option.elim, clipAt_neg _ _ hk, List.size_toArray, List.drop_zero, Nat.sub_zero]

/-- the first place of an octet -/
noncomputable def findN (d : List UInt8) (c : UInt8) (a e : Nat) : Option Nat := (List.range' a (e - a)).find? fun i => d[i]? == some c
theorem findN_some {d : List UInt8} {c : UInt8} {a e i : Nat} (h : findN d c a e = some i) : a ≤ i ∧ i < e ∧ d[i]? = some c ∧ ∀ j, a ≤ j → j < i → d[j]? ≠ some c := by
  unfold findN at h
  have h1 := List.mem_of_find?_eq_some h
  have h2 := List.find?_some h
  rw [List.mem_range'_1] at h1
  refine ⟨h1.1, by (first | lia | omega), beq_iff_eq.mp h2, fun j hj hji e' => ?_⟩
  rw [List.find?_range'_eq_some] at h
  have := h.2.2 j hj hji
  rw [e'] at this
  simp at this
theorem findN_none {d : List UInt8} {c : UInt8} {a e : Nat} (h : findN d c a e = none) : ∀ j, a ≤ j → j < e → d[j]? ≠ some c := by
  unfold findN at h
  intro j hj hje e'
  rw [List.find?_eq_none] at h
  have := h j (by rw [List.mem_range'_1]; (first | lia | omega))
  rw [e'] at this
  simp at this
theorem find_same {α : Type} {p q : α → Bool} : ∀ {l : List α}, (∀ x ∈ l, p x = q x) → l.find? p = l.find? q
  | [], _ => rfl
  | x :: r, h => by
    rw [List.find?_cons, List.find?_cons, h x List.mem_cons_self, find_same fun y hy => h y (List.mem_cons_of_mem _ hy)]
theorem findZ_eq {d : List UInt8} {c : UInt8} {a e : Nat} (he : e ≤ d.length) : findZ d.toArray #[c] a e = match findN d c a e with | some i => (i : Int) | none => -1 := by
  unfold findZ Bytes.window
  simp only [Option.getD_some, List.size_toArray]
  rw [if_neg (show ¬ ((a : Int) < 0) by (first | lia | omega)), if_neg (show ¬ ((e : Int) < 0) by (first | lia | omega))]
  rw [show min (d.length : Int) (e : Int) = (e : Int) by (first | lia | omega)]
  have h1 : ([c] : List UInt8).length = 1 := rfl
  have h2 : (#[c] : Array UInt8).size = 1 := rfl
  by_cases hae : a < e
  · rw [if_neg (by rw [h1]; (first | lia | omega))]
    unfold Bytes.find? findN
    simp only [Int.toNat_natCast, h2]
    rw [show e + 1 - (a + 1) = e - a by (first | lia | omega)]
    have hr : (List.range (e - a)).map (· + a) = List.range' a (e - a) := by
      rw [List.range'_eq_map_range]
      refine List.map_congr_left fun x _ => ?_
      (first | lia | omega)
    rw [hr]
    have hp : (List.range' a (e - a)).find? (fun i => d.toArray.extract i (i + 1) == #[c]) = (List.range' a (e - a)).find? fun i => d[i]? == some c := by
      refine find_same fun i hi => ?_
      rw [List.mem_range'_1] at hi
      have hl : i < d.length := by (first | lia | omega)
      rw [List.getElem?_eq_getElem hl]
      have hx : d.toArray.extract i (i + 1) = #[d[i]] := by
        rw [List.extract_toArray, List.extract_eq_take_drop, show i + 1 - i = 1 by (first | lia | omega), List.drop_eq_getElem_cons hl, List.take_succ_cons, List.take_zero]
      rw [hx]
      by_cases hc : d[i] = c <;> simp [hc]
    rw [hp]
    try (cases (List.range' a (e - a)).find? (fun i => d[i]? == some c) <;> rfl)
  · rw [if_pos (by rw [h1]; (first | lia | omega))]
    unfold findN
    rw [show e - a = 0 by (first | lia | omega)]
    rfl
noncomputable def noSl (slice : PySem.Expr) : Bool := match slice with
  | .Slice _ _ none _ => false
  | _ => true
noncomputable def isSl (slice : PySem.Expr) : Bool := match slice with
  | .Slice _ _ none _ => true
  | _ => false
theorem ix_plain {slice : PySem.Expr} {o i : Value} (h : noSl slice = true) : subscripted slice false o i = operate [o, i] (getItem o i) := by
  cases slice with
  | Slice lo hi st p => cases st with
    | none => exact Bool.noConfusion h
    | some _ => rfl
  | _ => rfl
theorem ix_slice {slice : PySem.Expr} {o i : Value} (h : isSl slice = true) : subscripted slice false o i = operate [i, o] (getItem o i) := by
  cases slice with
  | Slice lo hi st p => cases st with
    | none => rfl
    | some _ => exact Bool.noConfusion h
  | _ => exact Bool.noConfusion h
theorem let_bytes (value : PySem.Expr) (b : Array UInt8) (t : Tok) (r : Value) : letTemporaryGo value (.bytes b t) r = pure () := by
  cases value <;> rfl
section
variable {prog : Program} {w : World} {A : Around} {E : Value → Shared → Prop} {s : Shared} {value slice : PySem.Expr} {d : List UInt8} {c : UInt8} {t u ta te ui : Tok} {h₀ : Heap} {L : Addr} {m : PySem.Str → Option Value} {news : List (Addr × Obj)} {Q : Value → Shared → Prop}
theorem find_nat {a e : Nat} (he : e ≤ d.length)
    (h0 : findN d c a e = none → ∀ t' k, Q (.int (-1) t') { s with toks := k })
    (h1 : ∀ i : Nat, findN d c a e = some i → a ≤ i → i < e → ∀ t' k, Q (.int (i : Int) t') { s with toks := k }) :
    wpAny (model prog w) A (call (.builtin "bytes.find") [.bytes d.toArray t, .bytes #[c] u, .int (a : Int) ta, .int (e : Int) te]) Q E s := by
  refine find_call fun t' k => ?_
  rw [findZ_eq he]
  cases hf : findN d c a e with
  | none => exact h0 hf t' k
  | some i =>
    have := findN_some hf
    exact h1 i hf this.1 this.2.1 t' k
theorem item_B {i : Nat} (hz : d.length ≤ 16777216) (h1 : i < d.length) (h : ∀ t' k, Q (.int ((d.getD i 0).toNat : Int) t') { s with toks := k })
    (hs : noSl slice = true := by rfl) :
    wpAny (model prog w) A (subscriptTail value slice (.bytes d.toArray t) (.int (i : Int) ui)) Q E s :=
  KBy.item_N (x := d) (by (first | lia | omega)) (by (first | lia | omega)) (by (first | lia | omega)) (h _ _) (ix_plain hs) fun _ => let_bytes _ _ _ _
theorem slice_L {l u : Value} {lo hi : Option Int} {r : List UInt8} (hF : Fr h₀ L s.heap m) (hN : News h₀ L s.heap news) (hl : IsPart l lo) (hu : IsPart u hi) (hz : d.length ≤ 16777216) (hr : KBy.picked d.toArray lo hi = r.toArray)
    (h : ∀ h' t' k, Fr h₀ L h' m → News h₀ L h' news → Q (.bytes r.toArray t') { s with heap := h', toks := k })
    (hs : isSl slice = true := by rfl) :
    wpAny (model prog w) A (subscriptTail value slice (.bytes d.toArray t) (.ref s.heap.objs.size)) Q E { s with heap := s.heap.push { cls := .type "slice", data := .fields #[l, u, .none] } } :=
  KBc.slice_K hF hN rfl hl hu (by rw [KBw.ints_length, List.size_toArray]; exact hz) (fun h' t' k F N _ => by rw [hr]; exact h h' t' k F N) (ix_slice hs) fun _ => let_bytes _ _ _ _
theorem slice_nn {lo hi : Nat} {tl th : Tok} (hF : Fr h₀ L s.heap m) (hN : News h₀ L s.heap news) (hz : d.length ≤ 16777216)
    (h : ∀ h' t' k, Fr h₀ L h' m → News h₀ L h' news → Q (.bytes (seg d lo hi).toArray t') { s with heap := h', toks := k })
    (hs : isSl slice = true := by rfl) :
    wpAny (model prog w) A (subscriptTail value slice (.bytes d.toArray t) (.ref s.heap.objs.size)) Q E { s with heap := s.heap.push { cls := .type "slice", data := .fields #[.int (lo : Int) tl, .int (hi : Int) th, .none] } } :=
  slice_L hF hN (.int _ _) (.int _ _) hz (picked_nn d lo hi) h hs
theorem slice_n {lo : Nat} {tl : Tok} (hF : Fr h₀ L s.heap m) (hN : News h₀ L s.heap news) (hz : d.length ≤ 16777216)
    (h : ∀ h' t' k, Fr h₀ L h' m → News h₀ L h' news → Q (.bytes (d.drop lo).toArray t') { s with heap := h', toks := k })
    (hs : isSl slice = true := by rfl) :
    wpAny (model prog w) A (subscriptTail value slice (.bytes d.toArray t) (.ref s.heap.objs.size)) Q E { s with heap := s.heap.push { cls := .type "slice", data := .fields #[.int (lo : Int) tl, .none, .none] } } :=
  slice_L hF hN (.int _ _) .none hz (picked_n d lo) h hs
theorem slice_upto {hi : Nat} {th : Tok} (hF : Fr h₀ L s.heap m) (hN : News h₀ L s.heap news) (hz : d.length ≤ 16777216)
    (h : ∀ h' t' k, Fr h₀ L h' m → News h₀ L h' news → Q (.bytes (d.take hi).toArray t') { s with heap := h', toks := k })
    (hs : isSl slice = true := by rfl) :
    wpAny (model prog w) A (subscriptTail value slice (.bytes d.toArray t) (.ref s.heap.objs.size)) Q E { s with heap := s.heap.push { cls := .type "slice", data := .fields #[.none, .int (hi : Int) th, .none] } } :=
  slice_L hF hN .none (.int _ _) hz (picked_upto d hi) h hs
theorem add_nat {n k : Nat} (h : ∀ t' j, Q (.int ((n + k : Nat) : Int) t') { s with toks := j }) : wpAny (model prog w) A (binaryOp .Add (.int (n : Int) t) (.int (k : Int) u)) Q E s := by
  refine add_int ?_
  have := h s.toks (s.toks + 1)
  rw [Int.natCast_add] at this
  exact this
theorem sub_nat {n k : Nat} (hk : k ≤ n) (h : ∀ t' j, Q (.int ((n - k : Nat) : Int) t') { s with toks := j }) : wpAny (model prog w) A (binaryOp .Sub (.int (n : Int) t) (.int (k : Int) u)) Q E s := by
  refine sub_int ?_
  have := h s.toks (s.toks + 1)
  rw [Int.natCast_sub hk] at this
  exact this
theorem add_one {n : Nat} (h : ∀ t' j, Q (.int ((n + 1 : Nat) : Int) t') { s with toks := j }) : wpAny (model prog w) A (binaryOp .Add (.int (n : Int) t) (.int 1 u)) Q E s := add_nat (k := 1) h
theorem sub_one {n : Nat} (hk : 1 ≤ n) (h : ∀ t' j, Q (.int ((n - 1 : Nat) : Int) t') { s with toks := j }) : wpAny (model prog w) A (binaryOp .Sub (.int (n : Int) t) (.int 1 u)) Q E s := sub_nat (k := 1) hk h
end

end
/-! B4 -/
section
open PySem.Spec

section
variable {prog : Program} {w : World} {A : Around} {E : Value → Shared → Prop} {s : Shared} {env : Env} {h₀ : Heap} {x : Str} {body : List Stmt} {Q : Flow → Shared → Prop} {m₀ : Str → Option Value} {news : List (Addr × Obj)}

/-- how a turn of a for may end: I is the iterator -/
noncomputable def ForPost (h₀ : Heap) (L : Addr) (I : Addr) (oI : Obj) (J : (Str → Option Value) → List (Addr × Obj) → Prop) (s : Shared) (Q : Flow → Shared → Prop) (f : Flow) (s₂ : Shared) : Prop :=
  match f with
  | .ret v => Q (.ret v) s₂
  | .brk => Q .next s₂
  | _ => ∃ h' tk m₂ news₂, s₂ = { s with heap := h', toks := tk } ∧ Fr h₀ L h' m₂ ∧ News h₀ L h' ((I, oI) :: news₂) ∧ (∀ p ∈ news₂, p.1 ≠ I) ∧ J m₂ news₂
theorem ForPost.step {L I : Addr} {oI : Obj} {J : (Str → Option Value) → List (Addr × Obj) → Prop} {s₁ : Shared} {h' : Heap} {tk : Nat} {m₂ : Str → Option Value} {news₂ all : List (Addr × Obj)} (F : Fr h₀ L h' m₂) (N : News h₀ L h' all) (sub : ∀ p ∈ (I, oI) :: news₂, p ∈ all) (off : ∀ p ∈ news₂, p.1 ≠ I) (hJ : J m₂ news₂) :
    ForPost h₀ L I oI J s₁ Q .next { s₁ with heap := h', toks := tk } := ⟨h', tk, m₂, news₂, rfl, F, fun p hp => N p (sub p hp), off, hJ⟩

theorem for_walks {I : Addr} {fp : List Addr} {n : Nat} {P : Nat → Value → Prop} {St : Nat → Heap → Prop} (J : Nat → (Str → Option Value) → List (Addr × Obj) → Prop)
    (W : Walks prog w A I fp [I] n P St) (hIo : ∀ i h, St i h → ∃ o, h.get? I = some o) (src : List (Addr × Obj)) (hfp : ∀ b ∈ fp, b = I ∨ (∃ o, h₀.get? b = some o) ∨ ∃ o, (b, o) ∈ src) (hsrc : ∀ i m₁ nw, J i m₁ nw → ∀ p ∈ src, p ∈ nw)
    (hLf : env.locals ∉ fp) (hI0 : h₀.get? I = none) (hoff : ∀ p ∈ news, p.1 ≠ I) (hst : St 0 s.heap) (F : Fr h₀ env.locals s.heap m₀) (N : News h₀ env.locals s.heap news) (hj : J 0 m₀ news)
    (turn : ∀ i v m₁ news₁ oI h tk, i < n → P i v → J i m₁ news₁ → (∀ p ∈ news₁, p.1 ≠ I) → Fr h₀ env.locals h (fun y => if y = x then some v else m₁ y) → News h₀ env.locals h ((I, oI) :: news₁) →
      wpAny (model prog w) A (execs body env) (ForPost h₀ env.locals I oI (J (i + 1)) { s with heap := h, toks := tk } Q) E { s with heap := h, toks := tk })
    (done : ∀ m₁ news₁ h tk, J n m₁ news₁ → Fr h₀ env.locals h m₁ → News h₀ env.locals h news₁ → Q .next { s with heap := h, toks := tk }) :
    LoopAtV prog w A h₀ env x body Q E (.ref I) s := by
  refine ⟨I, fp, [I], n, P, St, m₀, news, J, rfl, W, hLf, ?_, ?_, hst, F, N, hj, ?_, ?_⟩
  · intro b hb; rw [List.mem_singleton.mp hb]; exact hI0
  · intro p hp hb; exact hoff p hp (List.mem_singleton.mp hb)
  · rintro i v m₁ news₁ s₁ own ⟨h, tk, rfl⟩ hi hP hJ hoff₁ hown hownAt hall hst₁ F₁ N₁
    (refine Mine.ex_1_1 (hIo _ _ hst₁) ?_; intro oI hoI)
    have hIf : I ∈ fp := W.sub I List.mem_cons_self
    have hIown : (I, oI) ∈ own := hall I hIf hI0 oI hoI
    have off : ∀ p ∈ news₁, p.1 ≠ I := fun p hp e => hoff₁ p hp (by rw [e]; exact List.mem_cons_self)
    have N₁r : News h₀ env.locals h news₁ := fun p hp => N₁ p (List.mem_append_right _ hp)
    have N₁' : News h₀ env.locals h ((I, oI) :: news₁) := fun p hp => by
      rcases List.mem_cons.mp hp with rfl | hp
      · exact N₁ _ (List.mem_append_left _ hIown)
      · exact N₁r p hp
    refine wpAny_mono (turn i v m₁ news₁ oI h tk hi hP hJ off F₁ N₁') (fun f s₂ p => ?_) fun _ _ e => e
    have fin : (∃ h' tk' m₂ news₂, s₂ = { s with heap := h', toks := tk' } ∧ Fr h₀ env.locals h' m₂ ∧ News h₀ env.locals h' ((I, oI) :: news₂) ∧ (∀ p ∈ news₂, p.1 ≠ I) ∧ J (i + 1) m₂ news₂) →
        LoopStepU h₀ env.locals [I] own (J (i + 1)) { s with heap := h, toks := tk } .next s₂ := by
      rintro ⟨h', tk', m₂, news₂, rfl, F₂, N₂, off₂, hJ₂⟩
      refine ⟨rfl, h', tk', m₂, news₂, rfl, F₂, fun p hp => ?_, fun p hp hb => off₂ p hp (List.mem_singleton.mp hb), hJ₂⟩
      have N₂r : News h₀ env.locals h' news₂ := fun p hp => N₂ p (List.mem_cons_of_mem _ hp)
      rcases List.mem_append.mp hp with hp | hp
      · have h3 := N₁ p (List.mem_append_left _ hp)
        rcases hfp p.1 (hown p hp) with e | ⟨o, e⟩ | ⟨o, ho⟩
        · have h4 : p.2 = oI := by
            have h5 := h3.1
            rw [e] at h5
            have h6 : h.get? I = some oI := hoI
            rw [h6] at h5
            exact (Option.some.inj h5).symm
          have : p = (I, oI) := Prod.ext e h4
          rw [this]
          exact N₂ _ List.mem_cons_self
        · have h5 := h3.2.2
          rw [e] at h5
          cases h5
        · have h5 := (N₁r _ (hsrc _ _ _ hJ _ ho)).1
          rw [h3.1] at h5
          have : p = (p.1, o) := Prod.ext rfl (Option.some.inj h5)
          rw [this]
          exact N₂r _ (hsrc _ _ _ hJ₂ _ ho)
      · exact N₂r p hp
    cases f with
    | ret v => exact .ret p
    | brk => exact .brk p
    | next => exact .next (fin p)
    | cont => exact .cont (fin p)
  · intro h' tk m' news' F' N' _ hJ
    exact done m' news' h' tk hJ F' N'

/-- over octets -/
theorem for_bytes {l : List UInt8} {t : Tok} (J : Nat → (Str → Option Value) → List (Addr × Obj) → Prop) (hh : A.handled = none) (F : Fr h₀ env.locals s.heap m₀) (N : News h₀ env.locals s.heap news) (hj : J 0 m₀ news)
    (turn : ∀ i c u m₁ news₁ I oI h tk, l[i]? = some c → J i m₁ news₁ → (∀ p ∈ news₁, p.1 ≠ I) → Fr h₀ env.locals h (fun y => if y = x then some (.int (c.toNat : Int) u) else m₁ y) → News h₀ env.locals h ((I, oI) :: news₁) →
      wpAny (model prog w) A (execs body env) (ForPost h₀ env.locals I oI (J (i + 1)) { s with heap := h, toks := tk } Q) E { s with heap := h, toks := tk })
    (done : ∀ m₁ news₁ h tk, J l.length m₁ news₁ → Fr h₀ env.locals h m₁ → News h₀ env.locals h news₁ → Q .next { s with heap := h, toks := tk }) :
    wpAny (model prog w) A (pyIter (.bytes l.toArray t)) (fun it s₂ => LoopAtV prog w A h₀ env x body Q E it s₂) E s := by
  refine KBw.pyIter_bytes ?_
  have W := KBw.walks (prog := prog) (w := w) hh s.heap.objs.size l.toArray t
  refine for_walks J W (fun i h st => let ⟨o, e, _⟩ := st; ⟨o, e⟩) [] (fun b hb => .inl (List.mem_singleton.mp hb)) (fun _ _ _ _ _ h => nomatch h) ?_ (next_is_new F) (fun p hp => Nat.ne_of_lt (Heap.lt_size (N p hp).1)) ⟨_, Heap.get?_push_size _ rfl, rfl, rfl⟩ (F.push _)
    (fun p hp => ⟨Heap.get?_push_of_some _ (N p hp).1, (N p hp).2⟩) hj ?_ ?_
  · intro hm
    exact absurd F.ns.lt ((List.mem_singleton.mp hm) ▸ Nat.lt_irrefl _)
  · rintro i v m₁ news₁ oI h tk hi ⟨c, u, hc, rfl⟩ hJ off F₁ N₁
    exact turn i c u m₁ news₁ _ oI h tk (by simpa using hc) hJ off F₁ N₁
  · intro m₁ news₁ h tk hJ F₁ N₁
    rw [List.size_toArray] at hJ
    exact done m₁ news₁ h tk hJ F₁ N₁
/-- over a range -/
theorem for_range {r : Addr} {n : Nat} {t₀ u₀ v₀ : Tok} (J : Nat → (Str → Option Value) → List (Addr × Obj) → Prop) (hh : A.handled = none) (hr : IsRange s.heap r 0 n 1 t₀ u₀ v₀) (hn : n ≤ 1000000) (F : Fr h₀ env.locals s.heap m₀) (N : News h₀ env.locals s.heap news) (hj : J 0 m₀ news)
    (turn : ∀ (i : Nat) u m₁ news₁ I oI h tk, i < n → J i m₁ news₁ → (∀ p ∈ news₁, p.1 ≠ I) → Fr h₀ env.locals h (fun y => if y = x then some (.int (i : Int) u) else m₁ y) → News h₀ env.locals h ((I, oI) :: news₁) →
      wpAny (model prog w) A (execs body env) (ForPost h₀ env.locals I oI (J (i + 1)) { s with heap := h, toks := tk } Q) E { s with heap := h, toks := tk })
    (done : ∀ m₁ news₁ h tk, J n m₁ news₁ → Fr h₀ env.locals h m₁ → News h₀ env.locals h news₁ → Q .next { s with heap := h, toks := tk }) :
    wpAny (model prog w) A (pyIter (.ref r)) (fun it s₂ => LoopAtV prog w A h₀ env x body Q E it s₂) E s := by
  have hsize : Builtin.Range.rangeSize 0 n 1 = (n : Int) := by
    have := PyProof.Rows.rangeSize_nat 0 (n : Int)
    rw [this]; simp
  refine wpAny_pyIter_range hr (PySem.small_one (by decide) (by decide) (by (first | lia | omega)) (by (first | lia | omega))) ?_
  have W : Walks prog w A s.heap.objs.size [s.heap.objs.size] [s.heap.objs.size] n (fun i v => i < n ∧ ∃ t, v = .int (0 + i * 1) t)
      (fun i h => IsRangeIter h s.heap.objs.size (0 + (i : Nat) * 1) ((n : Int) - (i : Nat)) 1) := (Walks.range hh _ 0 1 n).bound
  refine for_walks J W (fun i h st => ⟨_, st⟩) [] (fun b hb => .inl (List.mem_singleton.mp hb)) (fun _ _ _ _ _ h => nomatch h) ?_ (next_is_new F) (fun p hp => Nat.ne_of_lt (Heap.lt_size (N p hp).1)) (by show IsRangeIter _ _ _ _ _; rw [hsize]; simpa using Heap.get?_push_size _ rfl) (F.push _)
    (fun p hp => ⟨Heap.get?_push_of_some _ (N p hp).1, (N p hp).2⟩) hj ?_ done
  · intro hm
    exact absurd F.ns.lt ((List.mem_singleton.mp hm) ▸ Nat.lt_irrefl _)
  · rintro i v m₁ news₁ oI h tk hi ⟨_, u, rfl⟩ hJ off F₁ N₁
    rw [show (0 : Int) + (i : Int) * 1 = (i : Int) by (first | lia | omega)] at F₁
    exact turn i u m₁ news₁ _ oI h tk hi hJ off F₁ N₁
/-- over a list of the ledger -/
theorem for_led {ax : Addr} {its : List Value} {nl : Nat} (J : Nat → (Str → Option Value) → List (Addr × Obj) → Prop) (hh : A.handled = none) (hsrc : ∀ i m₁ nw, J i m₁ nw → (ax, ({ cls := .type "list", data := .seq its.toArray nl } : Obj)) ∈ nw)
    (F : Fr h₀ env.locals s.heap m₀) (N : News h₀ env.locals s.heap news) (hj : J 0 m₀ news)
    (turn : ∀ i v m₁ news₁ I oI h tk, its[i]? = some v → J i m₁ news₁ → (∀ p ∈ news₁, p.1 ≠ I) → Fr h₀ env.locals h (fun y => if y = x then some v else m₁ y) → News h₀ env.locals h ((I, oI) :: news₁) →
      wpAny (model prog w) A (execs body env) (ForPost h₀ env.locals I oI (J (i + 1)) { s with heap := h, toks := tk } Q) E { s with heap := h, toks := tk })
    (done : ∀ m₁ news₁ h tk, J its.length m₁ news₁ → Fr h₀ env.locals h m₁ → News h₀ env.locals h news₁ → Q .next { s with heap := h, toks := tk }) :
    wpAny (model prog w) A (pyIter (.ref ax)) (fun it s₂ => LoopAtV prog w A h₀ env x body Q E it s₂) E s := by
  have hax := N _ (hsrc _ _ _ hj)
  have hls : s.heap.IsList ax its.toArray := ⟨_, hax.1, rfl, _, rfl⟩
  have hlt : ax < s.heap.objs.size := Heap.lt_size hax.1
  refine wpAny_pyIter_list hls ?_
  have W := Walks.list (prog := prog) (w := w) hh s.heap.objs.size ax (Nat.ne_of_lt hlt) its.toArray
  refine for_walks J W (fun i h st => let ⟨⟨o, e, _⟩, _⟩ := st; ⟨o, e⟩) [(ax, { cls := .type "list", data := .seq its.toArray nl })] (fun b hb => ?_) (fun i m₁ nw hJ p hp => by rw [List.mem_singleton.mp hp]; exact hsrc _ _ _ hJ) ?_ (next_is_new F)
    (fun p hp => Nat.ne_of_lt (Heap.lt_size (N p hp).1)) ⟨⟨_, Heap.get?_push_size _ rfl, rfl, rfl⟩, hls.at fun o e => Heap.get?_push_of_some _ e⟩ (F.push _)
    (fun p hp => ⟨Heap.get?_push_of_some _ (N p hp).1, (N p hp).2⟩) hj ?_ ?_
  · rcases List.mem_cons.mp hb with rfl | hb
    · exact .inl rfl
    · rw [List.mem_singleton.mp hb]; exact .inr (.inr ⟨_, List.mem_cons_self⟩)
  · intro hm
    rcases List.mem_cons.mp hm with e | hm
    · exact absurd F.ns.lt (e ▸ Nat.lt_irrefl _)
    · exact hax.2.1 (List.mem_singleton.mp hm).symm
  · rintro i v m₁ news₁ oI h tk hi hP hJ off F₁ N₁
    exact turn i v m₁ news₁ _ oI h tk (by simpa using hP) hJ off F₁ N₁
  · intro m₁ news₁ h tk hJ F₁ N₁
    rw [List.size_toArray] at hJ
    exact done m₁ news₁ h tk hJ F₁ N₁
end

end
/-! B5 -/
section
open PySem.Spec

section
variable {prog : Program} {w : World} {A : Around} {E : Value → Shared → Prop} {s : Shared} {env : Env} {h₀ : Heap} {L : Addr} {x : Str} {body : List Stmt} {Q : Flow → Shared → Prop} {m₀ : Str → Option Value} {σ : Type}

/-- the frame agrees with the written names and, off the stored ones, with what stood before -/
noncomputable def FrOk (xs : List Str) (ps : List (Str × Value)) (m₀ m' : Str → Option Value) : Prop := (∀ p ∈ ps, m' p.1 = some p.2) ∧ ∀ z, (∀ p ∈ ps, z ≠ p.1) → xs.contains z = false → m' z = m₀ z
noncomputable abbrev frB (xs : List Str) (ps : List (Str × Value)) (u m₀ : Str → Option Value) : Str → Option Value := kstB (fun z => if xs.contains z then u z else m₀ z) ps
theorem FrOk.eq {xs : List Str} {ps : List (Str × Value)} {m₀ m' : Str → Option Value} (h : FrOk xs ps m₀ m') : frB xs ps m' m₀ = m' := by
  funext y
  refine kstB_eq h.1 fun hn => ?_
  show (if xs.contains y = true then m' y else m₀ y) = m' y
  cases h3 : xs.contains y with
  | true => simp
  | false => simp only [Bool.false_eq_true, if_false]; exact (h.2 y hn h3).symm
theorem FrOk.fr {xs : List Str} {ps : List (Str × Value)} {m₀ m' : Str → Option Value} {h : Heap} (k : FrOk xs ps m₀ m') (F : Fr h₀ L h m') : Fr h₀ L h (frB xs ps m' m₀) := by rw [k.eq]; exact F
theorem FrOk.frX {xs : List Str} {ps : List (Str × Value)} {m₀ m' : Str → Option Value} {h : Heap} {v : Value} (k : FrOk (x :: xs) ps m₀ m') (F : Fr h₀ L h (fun y => if y = x then some v else m' y)) : Fr h₀ L h (fun y => if y = x then some v else frB (x :: xs) ps m' m₀ y) := by rw [k.eq]; exact F
theorem allp_nil {m' : Str → Option Value} : ∀ p ∈ ([] : List (Str × Value)), m' p.1 = some p.2 := fun _ h => nomatch h
theorem allp_cons {m' : Str → Option Value} {a : Str} {b : Value} {r : List (Str × Value)} (h : m' a = some b) (k : ∀ p ∈ r, m' p.1 = some p.2) : ∀ p ∈ (a, b) :: r, m' p.1 = some p.2 := fun p hp => by
  rcases List.mem_cons.mp hp with rfl | hp
  · exact h
  · exact k p hp

theorem news_d1 {h₀ h : Heap} {L : Addr} {a : Addr × Obj} {l : List (Addr × Obj)} (N : News h₀ L h (a :: l)) : News h₀ L h l := fun p hp => N p (.tail _ hp)
theorem news_d2 {h₀ h : Heap} {L : Addr} {a b : Addr × Obj} {l : List (Addr × Obj)} (N : News h₀ L h (a :: b :: l)) : News h₀ L h l := fun p hp => N p (.tail _ (.tail _ hp))
theorem news_d3 {h₀ h : Heap} {L : Addr} {a b c : Addr × Obj} {l : List (Addr × Obj)} (N : News h₀ L h (a :: b :: c :: l)) : News h₀ L h l := fun p hp => N p (.tail _ (.tail _ (.tail _ hp)))
theorem news_d4 {h₀ h : Heap} {L : Addr} {a b c d : Addr × Obj} {l : List (Addr × Obj)} (N : News h₀ L h (a :: b :: c :: d :: l)) : News h₀ L h l := fun p hp => N p (.tail _ (.tail _ (.tail _ (.tail _ hp))))
/-- the walk halts here -/
noncomputable def Stop (P : Prop) : Prop := P
theorem stop_here {P : Prop} (h : Stop P) : P := h
noncomputable def ForPostS (h₀ : Heap) (L I : Addr) (oI : Obj) (Led : σ → List (Addr × Obj)) (ps : σ → List (Str × Value)) (xs : List Str) (m₀ : Str → Option Value) (P : σ → Prop) (s : Shared) (Q : Flow → Shared → Prop) (f : Flow) (s₂ : Shared) : Prop :=
  match f with
  | .ret v => Q (.ret v) s₂
  | .brk => Q .next s₂
  | _ => ∃ c' h' tk m' news', s₂ = { s with heap := h', toks := tk } ∧ Fr h₀ L h' m' ∧ News h₀ L h' news' ∧ (∀ p ∈ (I, oI) :: Led c', p ∈ news') ∧ (∀ p ∈ Led c', p.1 ≠ I) ∧ FrOk xs (ps c') m₀ m' ∧ P c'
theorem ForPostS.next {I : Addr} {oI : Obj} {Led : σ → List (Addr × Obj)} {ps : σ → List (Str × Value)} {xs : List Str} {P : σ → Prop} {s₁ : Shared} {h' : Heap} {tk : Nat} {m' : Str → Option Value} {news' : List (Addr × Obj)} (c' : σ) (F : Fr h₀ L h' m') (N : News h₀ L h' news') (sub : ∀ p ∈ (I, oI) :: Led c', p ∈ news')
    (off : ∀ p ∈ Led c', p.1 ≠ I) (k : FrOk xs (ps c') m₀ m') (hp : P c') : ForPostS h₀ L I oI Led ps xs m₀ P s₁ Q .next { s₁ with heap := h', toks := tk } := ⟨c', h', tk, m', news', rfl, F, N, sub, off, k, hp⟩
theorem ForPostS.toPost {I : Addr} {oI : Obj} {Led : σ → List (Addr × Obj)} {ps : σ → List (Str × Value)} {xs : List Str} {P : σ → Prop} {s₁ s₂ : Shared} {f : Flow} (h : ForPostS h₀ L I oI Led ps xs m₀ P s₁ Q f s₂) :
    ForPost h₀ L I oI (fun m nx => ∃ c : σ, nx = Led c ∧ FrOk xs (ps c) m₀ m ∧ P c) s₁ Q f s₂ := by
  have fin : (∃ c' h' tk m' news', s₂ = { s₁ with heap := h', toks := tk } ∧ Fr h₀ L h' m' ∧ News h₀ L h' news' ∧ (∀ p ∈ (I, oI) :: Led c', p ∈ news') ∧ (∀ p ∈ Led c', p.1 ≠ I) ∧ FrOk xs (ps c') m₀ m' ∧ P c') →
      ∃ h' tk m₂ news₂, s₂ = { s₁ with heap := h', toks := tk } ∧ Fr h₀ L h' m₂ ∧ News h₀ L h' ((I, oI) :: news₂) ∧ (∀ p ∈ news₂, p.1 ≠ I) ∧ ∃ c : σ, news₂ = Led c ∧ FrOk xs (ps c) m₀ m₂ ∧ P c := by
    rintro ⟨c', h', tk, m', news', e, F, N, sub, off, k, hp⟩
    exact ⟨h', tk, m', Led c', e, F, fun p hp => N p (sub p hp), off, c', rfl, k, hp⟩
  cases f with
  | ret v => exact h
  | brk => exact h
  | next => exact fin h
  | cont => exact fin h

theorem for_bytes_st {l : List UInt8} {t : Tok} (Led : σ → List (Addr × Obj)) (ps : σ → List (Str × Value)) (xs : List Str) (P : Nat → σ → Prop) (c₀ : σ) (hh : A.handled = none) (F : Fr h₀ env.locals s.heap m₀) (N : News h₀ env.locals s.heap (Led c₀)) (hk : ∀ p ∈ ps c₀, m₀ p.1 = some p.2) (hp : P 0 c₀)
    (turn : ∀ i c (c₁ : σ) u₁ u I oI h tk, l[i]? = some c → P i c₁ → (∀ p ∈ Led c₁, p.1 ≠ I) → Fr h₀ env.locals h (fun y => if y = x then some (.int (c.toNat : Int) u₁) else frB (x :: xs) (ps c₁) u m₀ y) → News h₀ env.locals h ((I, oI) :: Led c₁) →
      wpAny (model prog w) A (execs body env) (ForPostS h₀ env.locals I oI Led ps (x :: xs) m₀ (P (i + 1)) { s with heap := h, toks := tk } Q) E { s with heap := h, toks := tk })
    (done : ∀ (c₁ : σ) u h tk, P l.length c₁ → Fr h₀ env.locals h (frB (x :: xs) (ps c₁) u m₀) → News h₀ env.locals h (Led c₁) → Q .next { s with heap := h, toks := tk }) :
    wpAny (model prog w) A (pyIter (.bytes l.toArray t)) (fun it s₂ => LoopAtV prog w A h₀ env x body Q E it s₂) E s := by
  refine for_bytes (fun i m nx => ∃ c : σ, nx = Led c ∧ FrOk (x :: xs) (ps c) m₀ m ∧ P i c) hh F N ⟨c₀, rfl, ⟨hk, fun _ _ _ => rfl⟩, hp⟩ ?_ ?_
  · rintro i c u₁ m₁ nx I oI h tk hc ⟨c₁, rfl, k, hp'⟩ off F₁ N₁
    exact wpAny_mono (turn i c c₁ u₁ m₁ I oI h tk hc hp' off (k.frX F₁) N₁) (fun f s₂ p => p.toPost) fun _ _ e => e
  · rintro m₁ nx h tk ⟨c₁, rfl, k, hp'⟩ F₁ N₁
    exact done c₁ m₁ h tk hp' (k.fr F₁) N₁
theorem for_range_st {r : Addr} {n : Nat} {t₀ u₀ v₀ : Tok} (Led : σ → List (Addr × Obj)) (ps : σ → List (Str × Value)) (xs : List Str) (P : Nat → σ → Prop) (c₀ : σ) (hh : A.handled = none) (hr : IsRange s.heap r 0 n 1 t₀ u₀ v₀) (hn : n ≤ 1000000) (F : Fr h₀ env.locals s.heap m₀) (N : News h₀ env.locals s.heap (Led c₀)) (hk : ∀ p ∈ ps c₀, m₀ p.1 = some p.2) (hp : P 0 c₀)
    (turn : ∀ (i : Nat) (c₁ : σ) u₁ u I oI h tk, i < n → P i c₁ → (∀ p ∈ Led c₁, p.1 ≠ I) → Fr h₀ env.locals h (fun y => if y = x then some (.int (i : Int) u₁) else frB (x :: xs) (ps c₁) u m₀ y) → News h₀ env.locals h ((I, oI) :: Led c₁) →
      wpAny (model prog w) A (execs body env) (ForPostS h₀ env.locals I oI Led ps (x :: xs) m₀ (P (i + 1)) { s with heap := h, toks := tk } Q) E { s with heap := h, toks := tk })
    (done : ∀ (c₁ : σ) u h tk, P n c₁ → Fr h₀ env.locals h (frB (x :: xs) (ps c₁) u m₀) → News h₀ env.locals h (Led c₁) → Q .next { s with heap := h, toks := tk }) :
    wpAny (model prog w) A (pyIter (.ref r)) (fun it s₂ => LoopAtV prog w A h₀ env x body Q E it s₂) E s := by
  refine for_range (fun i m nx => ∃ c : σ, nx = Led c ∧ FrOk (x :: xs) (ps c) m₀ m ∧ P i c) hh hr hn F N ⟨c₀, rfl, ⟨hk, fun _ _ _ => rfl⟩, hp⟩ ?_ ?_
  · rintro i u₁ m₁ nx I oI h tk hc ⟨c₁, rfl, k, hp'⟩ off F₁ N₁
    exact wpAny_mono (turn i c₁ u₁ m₁ I oI h tk hc hp' off (k.frX F₁) N₁) (fun f s₂ p => p.toPost) fun _ _ e => e
  · rintro m₁ nx h tk ⟨c₁, rfl, k, hp'⟩ F₁ N₁
    exact done c₁ m₁ h tk hp' (k.fr F₁) N₁
theorem for_led_st {ax : Addr} {its : List Value} {nl : Nat} (Led : σ → List (Addr × Obj)) (ps : σ → List (Str × Value)) (xs : List Str) (P : Nat → σ → Prop) (c₀ : σ) (hh : A.handled = none) (hsrc : ∀ c, (ax, ({ cls := .type "list", data := .seq its.toArray nl } : Obj)) ∈ Led c) (F : Fr h₀ env.locals s.heap m₀) (N : News h₀ env.locals s.heap (Led c₀)) (hk : ∀ p ∈ ps c₀, m₀ p.1 = some p.2) (hp : P 0 c₀)
    (turn : ∀ i v (c₁ : σ) u I oI h tk, its[i]? = some v → P i c₁ → (∀ p ∈ Led c₁, p.1 ≠ I) → Fr h₀ env.locals h (fun y => if y = x then some v else frB (x :: xs) (ps c₁) u m₀ y) → News h₀ env.locals h ((I, oI) :: Led c₁) →
      wpAny (model prog w) A (execs body env) (ForPostS h₀ env.locals I oI Led ps (x :: xs) m₀ (P (i + 1)) { s with heap := h, toks := tk } Q) E { s with heap := h, toks := tk })
    (done : ∀ (c₁ : σ) u h tk, P its.length c₁ → Fr h₀ env.locals h (frB (x :: xs) (ps c₁) u m₀) → News h₀ env.locals h (Led c₁) → Q .next { s with heap := h, toks := tk }) :
    wpAny (model prog w) A (pyIter (.ref ax)) (fun it s₂ => LoopAtV prog w A h₀ env x body Q E it s₂) E s := by
  refine for_led (fun i m nx => ∃ c : σ, nx = Led c ∧ FrOk (x :: xs) (ps c) m₀ m ∧ P i c) hh (fun i m₁ nw hJ => by (refine Mine.ex_1_2 (hJ) ?_; (try clear hJ); intro c eq1 _; subst eq1); exact hsrc c) F N ⟨c₀, rfl, ⟨hk, fun _ _ _ => rfl⟩, hp⟩ ?_ ?_
  · rintro i v m₁ nx I oI h tk hc ⟨c₁, rfl, k, hp'⟩ off F₁ N₁
    exact wpAny_mono (turn i v c₁ m₁ I oI h tk hc hp' off (k.frX F₁) N₁) (fun f s₂ p => p.toPost) fun _ _ e => e
  · rintro m₁ nx h tk ⟨c₁, rfl, k, hp'⟩ F₁ N₁
    exact done c₁ m₁ h tk hp' (k.fr F₁) N₁

noncomputable def WhPost (h₀ : Heap) (L : Addr) (Led : σ → List (Addr × Obj)) (ps : σ → List (Str × Value)) (xs : List Str) (m₀ : Str → Option Value) (P : σ → Prop) (μ : σ → Nat) (n : Nat) (s : Shared) (Q : Flow → Shared → Prop) (f : Flow) (s₂ : Shared) : Prop :=
  match f with
  | .ret v => Q (.ret v) s₂
  | .brk => Q .next s₂
  | _ => ∃ c' h' tk m' news', s₂ = { s with heap := h', toks := tk } ∧ Fr h₀ L h' m' ∧ News h₀ L h' news' ∧ (∀ p ∈ Led c', p ∈ news') ∧ FrOk xs (ps c') m₀ m' ∧ P c' ∧ μ c' < n
theorem WhPost.next {Led : σ → List (Addr × Obj)} {ps : σ → List (Str × Value)} {xs : List Str} {P : σ → Prop} {μ : σ → Nat} {n : Nat} {s₁ : Shared} {h' : Heap} {tk : Nat} {m' : Str → Option Value} {news' : List (Addr × Obj)} (c' : σ) (F : Fr h₀ L h' m') (N : News h₀ L h' news') (sub : ∀ p ∈ Led c', p ∈ news')
    (k : FrOk xs (ps c') m₀ m') (hp : P c') (hm : μ c' < n) : WhPost h₀ L Led ps xs m₀ P μ n s₁ Q .next { s₁ with heap := h', toks := tk } := ⟨c', h', tk, m', news', rfl, F, N, sub, k, hp, hm⟩
theorem while_st {test : Expr} {pos : Pos} (Led : σ → List (Addr × Obj)) (ps : σ → List (Str × Value)) (xs : List Str) (P : σ → Prop) (μ : σ → Nat) (c₀ : σ) (F : Fr h₀ L s.heap m₀) (N : News h₀ L s.heap (Led c₀)) (hk : ∀ p ∈ ps c₀, m₀ p.1 = some p.2) (hp : P c₀)
    (turn : ∀ (c₁ : σ) u h tk, P c₁ → Fr h₀ L h (frB xs (ps c₁) u m₀) → News h₀ L h (Led c₁) →
      wpAny (model prog w) A (isTrue test env (eval test env)) (fun b s₂ =>
        if b = true then wpAny (model prog w) A (execs body env) (WhPost h₀ L Led ps xs m₀ P μ (μ c₁) s Q) E s₂ else Q .next s₂) E { s with heap := h, toks := tk })
    (hE : PassesOwn (model prog w) A env E := by passes_own) :
    wpAny (model prog w) A (exec (.While test body [] pos) env) Q E s := by
  refine While_inv2 (fun n m nx => ∃ c : σ, nx = Led c ∧ μ c = n ∧ FrOk xs (ps c) m₀ m ∧ P c) F N ⟨c₀, rfl, rfl, ⟨hk, fun _ _ _ => rfl⟩, hp⟩ ?_ hE
  rintro n m₁ nx h tk F₁ N₁ ⟨c, rfl, rfl, k, hp'⟩
  refine wpAny_mono (turn c m₁ h tk hp' (k.fr F₁) N₁) (fun b s₂ p => ?_) fun _ _ x => x
  cases b with
  | false => simpa using p
  | true =>
    simp only [if_true] at p ⊢
    refine wpAny_mono p (fun f s₃ q => ?_) fun _ _ x => x
    cases f with
    | ret v => exact q
    | brk => exact q
    | next =>
      (refine Mine.ex_5_7 (q) ?_; (try clear q); intro c' h' tk' m' news' eq5 F' N' sub k' hp9 hm9; subst eq5)
      exact ⟨h', tk', m', Led c', μ c', rfl, F', fun p hp => N' p (sub p hp), hm9, c', rfl, rfl, k', hp9⟩
    | cont =>
      (refine Mine.ex_5_7 (q) ?_; (try clear q); intro c' h' tk' m' news' eq5 F' N' sub k' hp9 hm9; subst eq5)
      exact ⟨h', tk', m', Led c', μ c', rfl, F', fun p hp => N' p (sub p hp), hm9, c', rfl, rfl, k', hp9⟩
end

end
/-! B6 -/
section
open PySem.Spec
section
variable {prog : Program} {w : World} {A : Around} {E : Value → Shared → Prop} {s : Shared} {env : Env} {h₀ : Heap} {L : Addr} {Q : Flow → Shared → Prop} {m₀ : Str → Option Value} {news : List (Addr × Obj)}
/-- a while whose test falls at once -/
theorem while_none {test : Expr} {body : List Stmt} {pos : Pos} (F : Fr h₀ L s.heap m₀) (N : News h₀ L s.heap news)
    (turn : ∀ h tk, Fr h₀ L h m₀ → News h₀ L h news → wpAny (model prog w) A (isTrue test env (eval test env)) (fun b s₂ => if b = true then False else Q .next s₂) E { s with heap := h, toks := tk })
    (hE : PassesOwn (model prog w) A env E := by passes_own) :
    wpAny (model prog w) A (exec (.While test body [] pos) env) Q E s := by
  refine while_st (σ := Unit) (fun _ => news) (fun _ => []) [] (fun _ => True) (fun _ => 0) () F N allp_nil trivial ?_ hE
  intro _ u h tk _ F₁ N₁
  have F₂ : Fr h₀ L h m₀ := by
    have e : frB [] [] u m₀ = m₀ := by funext z; simp [frB, kstB]
    rw [e] at F₁; exact F₁
  refine wpAny_mono (turn h tk F₂ N₁) (fun b s₂ p => ?_) fun _ _ x => x
  cases b with
  | false => simpa using p
  | true => simp at p
end
/-- item by item -/
inductive Two {α β : Type} (R : α → β → Prop) : List α → List β → Prop
  | nil : Two R [] []
  | cons {a : α} {b : β} {l : List α} {k : List β} : R a b → Two R l k → Two R (a :: l) (b :: k)
namespace Two
variable {α β : Type} {R R' : α → β → Prop}
theorem mono (h : ∀ a b, R a b → R' a b) {l : List α} {k : List β} (t : Two R l k) : Two R' l k := by
  induction t with
  | nil => exact .nil
  | cons r _ ih => exact .cons (h _ _ r) ih
theorem snoc {a : α} {b : β} (r : R a b) {l : List α} {k : List β} (t : Two R l k) : Two R (l ++ [a]) (k ++ [b]) := by
  induction t with
  | nil => exact .cons r .nil
  | cons r' _ ih => exact .cons r' ih
theorem length {l : List α} {k : List β} (t : Two R l k) : l.length = k.length := by
  induction t with
  | nil => rfl
  | cons _ _ ih => rw [List.length_cons, List.length_cons, ih]
theorem get {l : List α} {k : List β} (t : Two R l k) : ∀ {i : Nat} {a : α}, l[i]? = some a → ∃ b, k[i]? = some b ∧ R a b := by
  induction t with
  | nil => intro i a h; exact nomatch h
  | cons r _ ih =>
    intro i a h
    cases i with
    | zero => exact ⟨_, rfl, Option.some.inj h ▸ r⟩
    | succ i => exact ih h
end Two
section
variable {a b : Addr} {o o' : Obj} {news tl tl' : List (Addr × Obj)}
theorem lt_one (h : ∀ q ∈ news, ∀ p ∈ [(a, o)], q.1 < p.1) : AllLt a news := allLt_of fun q hq => h q hq _ (.head _)
theorem lt_two (h : ∀ q ∈ news, ∀ p ∈ [(a, o), (b, o')], q.1 < p.1) : AllLt a news ∧ AllLt b news := ⟨allLt_of fun q hq => h q hq _ (.head _), allLt_of fun q hq => h q hq _ (.tail _ (.head _))⟩
theorem allLt_mem {d : Addr} : ∀ {l : List (Addr × Obj)}, AllLt d l → ∀ p ∈ l, p.1 < d
  | [], _, _, hp => (nomatch hp)
  | q :: r, h, p, hp => by
    rcases List.mem_cons.mp hp with rfl | hp
    · exact h.1
    · exact allLt_mem h.2 p hp
theorem allLt_app {d : Addr} {l k : List (Addr × Obj)} (h : AllLt d l) (h' : AllLt d k) : AllLt d (l ++ k) := allLt_of fun p hp => (List.mem_append.mp hp).elim (allLt_mem h p) (allLt_mem h' p)
theorem allLt_left {d : Addr} {l k : List (Addr × Obj)} (h : AllLt d (l ++ k)) : AllLt d l := allLt_of fun p hp => allLt_mem h p (List.mem_append_left _ hp)
theorem allLt_right {d : Addr} {l k : List (Addr × Obj)} (h : AllLt d (l ++ k)) : AllLt d k := allLt_of fun p hp => allLt_mem h p (List.mem_append_right _ hp)
theorem ord_nil : ∀ q ∈ news, ∀ p ∈ ([] : List (Addr × Obj)), q.1 < p.1 := fun _ _ _ h => nomatch h
theorem ord_cons (h : AllLt a news) (k : ∀ q ∈ news, ∀ p ∈ tl, q.1 < p.1) : ∀ q ∈ news, ∀ p ∈ (a, o) :: tl, q.1 < p.1 := fun q hq p hp => by
  rcases List.mem_cons.mp hp with rfl | hp
  · exact allLt_mem h q hq
  · exact k q hq p hp
theorem ord_app (h : ∀ q ∈ news, ∀ p ∈ tl, q.1 < p.1) (k : ∀ q ∈ news, ∀ p ∈ tl', q.1 < p.1) : ∀ q ∈ news, ∀ p ∈ tl ++ tl', q.1 < p.1 := fun q hq p hp => (List.mem_append.mp hp).elim (h q hq p) (k q hq p)
theorem off_cons {d : Addr} (h : a ≠ d) (k : ∀ p ∈ tl, p.1 ≠ d) : ∀ p ∈ (a, o) :: tl, p.1 ≠ d := fun p hp => by
  rcases List.mem_cons.mp hp with rfl | hp
  · exact h
  · exact k p hp
theorem off_app {d : Addr} (h : ∀ p ∈ tl, p.1 ≠ d) (k : ∀ p ∈ tl', p.1 ≠ d) : ∀ p ∈ tl ++ tl', p.1 ≠ d := fun p hp => (List.mem_append.mp hp).elim (h p) (k p)
theorem off_lt {d : Addr} (h : AllLt d tl) : ∀ p ∈ tl, p.1 ≠ d := fun p hp => Nat.ne_of_lt (allLt_mem h p hp)
theorem news_app {h₀ h : Heap} {L : Addr} (N : News h₀ L h ((a, o) :: tl ++ news)) : News h₀ L h ((a, o) :: (tl ++ news)) := N
end

end
/-! B7 -/
section
open PySem.Spec SeqAt
section
variable {prog : Program} {w : World} {A : Around} {E : Value → Shared → Prop} {s : Shared} {K : Frag} {h₀ : Heap} {L a : Addr} {m : Str → Option Value} {d : Option Addr} {sl : Array (Option Value)} {n : Nat} {v : Int} {t : Tok} {Q : Value → Shared → Prop}
noncomputable def isInt (v : Int) : Value → Bool
  | .int i _ => i == v
  | _ => false
theorem in_ints {its : List Value} (X : K.In s.heap) (ho : K.lookup a = some ⟨.type "tuple", d, .seq its.toArray n, sl⟩) (hi : ∀ y ∈ its, ∃ i u, y = Value.int i u) (h : Q (.bool (its.any (isInt v))) s) :
    wpAny (model prog w) A (compareOp .In (.int v t) (.ref a)) Q E s := by
  refine in_tupleAt (isInt v) ⟨_, X _ _ ho, rfl, _, rfl⟩ (fun y hy => ?_) (by simpa using h)
  (refine Mine.ex_2_1 (hi y (by simpa using hy)) ?_; intro i u eq2; subst eq2)
  exact EqAt.int_int i u v t
theorem in_ints2 {x y : Int} {tx ty : Tok} (X : K.In s.heap) (ho : K.lookup a = some ⟨.type "tuple", d, .seq [Value.int x tx, Value.int y ty].toArray n, sl⟩) (h : Q (.bool (decide (v = x ∨ v = y))) s) :
    wpAny (model prog w) A (compareOp .In (.int v t) (.ref a)) Q E s := by
  refine in_ints X ho (fun z hz => ?_) ?_
  · simp only [List.mem_cons, List.not_mem_nil, or_false] at hz
    rcases hz with rfl | rfl <;> exact ⟨_, _, rfl⟩
  · have e : ([Value.int x tx, Value.int y ty].any (isInt v)) = decide (v = x ∨ v = y) := by
      rw [Bool.eq_iff_iff]
      simp only [List.any_cons, List.any_nil, isInt, Bool.or_false, Bool.or_eq_true, beq_iff_eq, decide_eq_true_eq]
      (first | lia | omega)
    rw [e]; exact h
theorem in_ints4 {x y z u : Int} {tx ty tz tu : Tok} (X : K.In s.heap) (ho : K.lookup a = some ⟨.type "tuple", d, .seq [Value.int x tx, Value.int y ty, Value.int z tz, Value.int u tu].toArray n, sl⟩) (h : Q (.bool (decide (v = x ∨ v = y ∨ v = z ∨ v = u))) s) :
    wpAny (model prog w) A (compareOp .In (.int v t) (.ref a)) Q E s := by
  refine in_ints X ho (fun z hz => ?_) ?_
  · simp only [List.mem_cons, List.not_mem_nil, or_false] at hz
    rcases hz with rfl | rfl | rfl | rfl <;> exact ⟨_, _, rfl⟩
  · have e : ([Value.int x tx, Value.int y ty, Value.int z tz, Value.int u tu].any (isInt v)) = decide (v = x ∨ v = y ∨ v = z ∨ v = u) := by
      rw [Bool.eq_iff_iff]
      simp only [List.any_cons, List.any_nil, isInt, Bool.or_false, Bool.or_eq_true, beq_iff_eq, decide_eq_true_eq]
      (first | lia | omega)
    rw [e]; exact h
end

end
/-! B8 -/
section
open PySem.Spec PyProof.Rows.LCg PyProof.Rows.LCt
section
variable {prog : Program} {w : World} {A : Around} {E : Value → Shared → Prop} {s s₁ : Shared} {h₀ : Heap} {L : Addr} {m : Str → Option Value} {env : Env} {elt iter ct : Expr} {x x₂ : Str} {px px₂ tp : Pos} {tk₀} {scope : Scope} {cl : List (Str × Addr)} {pos : Pos} {Q : Value → Shared → Prop} {Fin : Shared → List Value → List (Addr × Obj) → Prop}

/-- what a comprehension's iterator brings -/
noncomputable def IterG (prog : Program) (w : World) (A : Around) (h₀ : Heap) (L : Addr) (m : Str → Option Value) (Rest : Shared → (List (Addr × Obj) → Prop) → (Nat → Value → Prop) → Nat → List (Addr × Obj) → Prop) (it : Value) (s₂ : Shared) : Prop :=
  ∃ (I : Addr) (fp : List Addr) (n : Nat) (P : Nat → Value → Prop) (St : Nat → Heap → Prop) (S : List (Addr × Obj) → Prop) (news : List (Addr × Obj)), it = .ref I ∧ Walks prog w A I fp [I] n P St ∧ n ≤ sizeLine ∧ (∀ i h, St i h → ∃ o, h.get? I = some o) ∧
    (∀ i h h' o nw, St i h → h.get? I = some o → h'.get? I = some o → (∀ b o, h₀.get? b = some o → h'.get? b = some o) → News h₀ L h' nw → S nw → St i h') ∧ St 0 s₂.heap ∧ (∀ b ∈ fp, b < s₂.heap.objs.size) ∧ Fr h₀ L s₂.heap m ∧ News h₀ L s₂.heap news ∧ L ≠ I ∧ h₀.get? I = none ∧ (∀ p ∈ news, p.1 ≠ I) ∧ S news ∧
    Rest s₂ S P n news
noncomputable abbrev RestU (prog : Program) (w : World) (A : Around) (h₀ : Heap) (L : Addr) (m : Str → Option Value) (env : Env) (elt : Expr) (x : Str) (scope : Scope) (cl : List (Str × Addr)) (Fin : Shared → List Value → List (Addr × Obj) → Prop) (s₂ : Shared) (S : List (Addr × Obj) → Prop) (P : Nat → Value → Prop) (n : Nat) (news : List (Addr × Obj)) : Prop :=
  CompRest prog w A h₀ L m env elt x scope cl s₂ S P (Fin s₂) n 0 [] news
noncomputable abbrev RestT (prog : Program) (w : World) (A : Around) (h₀ : Heap) (L : Addr) (m : Str → Option Value) (env : Env) (ct elt : Expr) (x : Str) (scope : Scope) (cl : List (Str × Addr)) (Fin : Shared → List Value → List (Addr × Obj) → Prop) (s₂ : Shared) (S : List (Addr × Obj) → Prop) (P : Nat → Value → Prop) (n : Nat) (news : List (Addr × Obj)) : Prop :=
  CompRestT prog w A h₀ L m env ct elt x scope cl s₂ S P (Fin s₂) n 0 [] news

theorem ListComp_G (F₀ : Fr h₀ L s.heap m) (hclos : closureFor scope env = pure cl) (hcell : ∀ y ∈ scope.names, y.2 ≠ .cell) (hkind : scope.kind = .function)
    (hnames : ∀ y ∈ scope.names, y.2 = .local → scope.names.lookup y.1 = some .local) (hx : scope.names.lookup x = some .local)
    (h : wpAny (model prog w) A (eval iter env) (fun xv s₁ => wpAny (model prog w) A (pyIter xv) (IterG prog w A h₀ L m (RestU prog w A h₀ L m env elt x scope cl (fun s₂ => FinE h₀ L m s₂ Q))) E s₁) E s)
    (hs : ∀ x, foldedSetIterable iter env x = pure x := by intro _; rfl) :
    wpAny (model prog w) A (eval (.ListComp elt [⟨.Name x px, iter, [], 0⟩] scope pos) env) Q E s := by
  rw [eval_ListComp]
  refine wpAny_comprehension_free (use := none) rfl hs hclos hkind hnames (wpAny_mono h (fun xv s₁ h₁ => ?_) fun _ _ e => e)
  refine wpAny_mono h₁ (fun it s₂ h₂ => ?_) fun _ _ e => e
  (refine Mine.ex_7_14 (h₂) ?_; (try clear h₂); intro I fp n P St S news eq7 W hsz hIo hSt hst hfp F N hIL hI₀ off hS R; subst eq7)
  refine block_U W hsz hIo hSt hcell hkind hx hst hfp F N hIL hI₀ off hS R ?_
  intro D C h tk m' ys news' F' N' o1 hn hC₀ hD₀ hCL hDL hCD offC fin
  refine ⟨m', hn, fun h'' hs'' => fin D h'' tk (F'.change hs'' hCL hC₀) (fun p hp => ?_) o1⟩
  refine ⟨hs''.extBut _ _ ?_ (N' p hp).1, (N' p hp).2⟩
  rcases List.mem_cons.mp hp with rfl | hp
  · exact Ne.symm hCD
  · exact offC p hp
theorem ListComp_GT (F₀ : Fr h₀ L s.heap m) (hclos : closureFor scope env = pure cl) (hcell : ∀ y ∈ scope.names, y.2 ≠ .cell) (hkind : scope.kind = .function)
    (hnames : ∀ y ∈ scope.names, y.2 = .local → scope.names.lookup y.1 = some .local) (hx : scope.names.lookup x = some .local)
    (h : wpAny (model prog w) A (eval iter env) (fun xv s₁ => wpAny (model prog w) A (pyIter xv) (IterG prog w A h₀ L m (RestT prog w A h₀ L m env ct elt x scope cl (fun s₂ => FinE h₀ L m s₂ Q))) E s₁) E s)
    (hs : ∀ x, foldedSetIterable iter env x = pure x := by intro _; rfl) :
    wpAny (model prog w) A (eval (.ListComp elt [⟨.Name x px, iter, [ct], 0⟩] scope pos) env) Q E s := by
  rw [eval_ListComp]
  refine wpAny_comprehension_free (use := none) rfl hs hclos hkind hnames (wpAny_mono h (fun xv s₁ h₁ => ?_) fun _ _ e => e)
  refine wpAny_mono h₁ (fun it s₂ h₂ => ?_) fun _ _ e => e
  (refine Mine.ex_7_14 (h₂) ?_; (try clear h₂); intro I fp n P St S news eq7 W hsz hIo hSt hst hfp F N hIL hI₀ off hS R; subst eq7)
  refine block_T W hsz hIo hSt hcell hkind hx hst hfp F N hIL hI₀ off hS R ?_
  intro D C h tk m' ys news' F' N' o1 hn hC₀ hD₀ hCL hDL hCD offC fin
  refine ⟨m', hn, fun h'' hs'' => fin D h'' tk (F'.change hs'' hCL hC₀) (fun p hp => ?_) o1⟩
  refine ⟨hs''.extBut _ _ ?_ (N' p hp).1, (N' p hp).2⟩
  rcases List.mem_cons.mp hp with rfl | hp
  · exact Ne.symm hCD
  · exact offC p hp
/-- the same, handed to a name -/
theorem Assign_ListComp_GT {y : Str} {py spos : Pos} {Q : Flow → Shared → Prop} (F₀ : Fr h₀ L s.heap m) (hLe : env.locals = L)
    (hsw : swapsWith (.ListComp elt [⟨.Name x px, iter, [ct], 0⟩] scope pos) (some (.Name y py)) spos.line env = pure true)
    (hclos : closureFor scope env = pure cl) (hcell : ∀ z ∈ scope.names, z.2 ≠ .cell) (hkind : scope.kind = .function)
    (hnames : ∀ z ∈ scope.names, z.2 = .local → scope.names.lookup z.1 = some .local) (hx : scope.names.lookup x = some .local)
    (hy : env.kindOf y = some .local) (hp : (env.scope.kind == .class || (env.scope.kind == .module && env.locals != env.globals)) = false)
    (h : wpAny (model prog w) A (eval iter env) (fun xv s₁ => wpAny (model prog w) A (pyIter xv) (IterG prog w A h₀ L m (RestT prog w A h₀ L m env ct elt x scope cl (fun s₂ => FinA h₀ L m s₂ y Q))) E s₁) E s)
    (hs : ∀ x, foldedSetIterable iter env x = pure x := by intro _; rfl) :
    wpAny (model prog w) A (exec (.Assign [.Name y py] (.ListComp elt [⟨.Name x px, iter, [ct], 0⟩] scope pos) spos) env) Q E s := by
  subst hLe
  rw [exec_Assign_Name_used _ _ _ _ hsw]
  refine wpAny_bind (wpAny_standAt (wpAny_bind ?_))
  show wpAny _ A (do let _ ← comprehension (.ListComp elt [⟨.Name x px, iter, [ct], 0⟩] scope pos) scope env _ (newList []) false (eval iter env) (some (assign (.Name y py) env))) _ _ s
  refine wpAny_bind (wpAny_mono (wpAny_comprehension_free (use := some (assign (.Name y py) env)) (Q := fun _ s' => Q .next s') rfl hs hclos hkind hnames
    (wpAny_mono h (fun xv s₁ h₁ => ?_) fun _ _ e => e)) (fun _ s' hq => wpAny_pure (wpAny_pure hq)) fun _ _ e => e)
  refine wpAny_mono h₁ (fun it s₂ h₂ => ?_) fun _ _ e => e
  (refine Mine.ex_7_14 (h₂) ?_; (try clear h₂); intro I fp n P St S news eq7 W hsz hIo hSt hst hfp F N hIL hI₀ off hS R; subst eq7)
  refine block_T W hsz hIo hSt hcell hkind hx hst hfp F N hIL hI₀ off hS R ?_
  intro D C h' tk m' ys news' F' N' o1 hn hC₀ hD₀ hCL hDL hCD offC fin
  show wpAny _ A (assign (.Name y py) env (.ref D)) _ _ _
  refine wpAny_assign_Name (wpAny_storeName_local hy F'.ns (fun h₂ hn₂ hs₂ => ?_) hp)
  have hL₀ : h₀.get? env.locals = none := Heap.get?_none_of_le F'.above
  have F₂ : Fr h₀ env.locals h₂ (fun z => if z = y then some (.ref D) else m z) := ⟨hn₂, fun b o e => hs₂.extBut b o (fun q => by rw [q, hL₀] at e; cases e) (F'.keep b o e), F'.above⟩
  refine ⟨m', hn.sameBut hs₂ hCL, fun h'' hs'' => fin D h'' _ (F₂.change hs'' hCL hC₀) (fun p hp => ?_) o1⟩
  have z : h₂.get? p.1 = some p.2 := hs₂.extBut _ _ (N' p hp).2.1 (N' p hp).1
  refine ⟨hs''.extBut _ _ ?_ z, (N' p hp).2⟩
  rcases List.mem_cons.mp hp with rfl | hp
  · exact Ne.symm hCD
  · exact offC p hp

section
variable {Rest : Shared → (List (Addr × Obj) → Prop) → (Nat → Value → Prop) → Nat → List (Addr × Obj) → Prop} {news : List (Addr × Obj)}
theorem iterG_bytes {l : List UInt8} {t : Tok} (hh : A.handled = none) (F : Fr h₀ L s.heap m) (N : News h₀ L s.heap news) (hsz : l.length ≤ sizeLine)
    (R : ∀ h, Rest { s with heap := h } (fun _ => True) (fun i v => ∃ c u, l[i]? = some c ∧ v = .int (c.toNat : Int) u) l.length news) : wpAny (model prog w) A (pyIter (.bytes l.toArray t)) (IterG prog w A h₀ L m Rest) E s := by
  refine KBw.pyIter_bytes ?_
  have W : Walks prog w A s.heap.objs.size [s.heap.objs.size] [s.heap.objs.size] l.length (fun i v => ∃ c u, l[i]? = some c ∧ v = Value.int (c.toNat : Int) u) (fun i h => KBw.IsBytesIter h s.heap.objs.size l.toArray t i) := by
    have := KBw.walks (prog := prog) (w := w) hh s.heap.objs.size l.toArray t
    simpa using this
  have up : ∀ b o, s.heap.get? b = some o → (s.heap.push { cls := .type "bytes_iterator", data := .fields #[.bytes l.toArray t, .int 0 0] }).get? b = some o := fun b o e => Heap.get?_push_of_some _ e
  refine ⟨_, _, l.length, _, _, _, news, rfl, W, hsz, fun i h st => let ⟨o, e, _⟩ := st; ⟨o, e⟩, ?_, ⟨_, Heap.get?_push_size _ rfl, rfl, rfl⟩, fun b hb => ?_, F.keeps up, N.grown up, Nat.ne_of_lt F.ns.lt, next_is_new F, fun p hp => Nat.ne_of_lt (Heap.lt_size (N p hp).1), trivial, R _⟩
  · rintro i h h' o nw ⟨o', e, r⟩ e1 e2 _ _ _
    rw [e] at e1; cases e1
    exact ⟨o, e2, r⟩
  · rw [List.mem_singleton.mp hb]
    show s.heap.objs.size < (s.heap.push _).objs.size
    rw [Heap.size_push]; exact Nat.lt_succ_self _
theorem iterG_list {ax : Addr} {its : List Value} {k : Nat} (hh : A.handled = none) (F : Fr h₀ L s.heap m) (N : News h₀ L s.heap news) (hm : (ax, ({ cls := .type "list", data := .seq its.toArray k } : Obj)) ∈ news) (hsz : its.length ≤ sizeLine)
    (R : ∀ h, Rest { s with heap := h } (fun nw => (ax, ({ cls := .type "list", data := .seq its.toArray k } : Obj)) ∈ nw) (fun i v => its[i]? = some v) its.length news) : wpAny (model prog w) A (pyIter (.ref ax)) (IterG prog w A h₀ L m Rest) E s := by
  have hax := N _ hm
  have hl : s.heap.IsList ax its.toArray := ⟨_, hax.1, rfl, _, rfl⟩
  have hlt : ax < s.heap.objs.size := Heap.lt_size hax.1
  refine wpAny_pyIter_list hl ?_
  have up : ∀ b o, s.heap.get? b = some o → (s.heap.push { cls := .type "list_iterator", data := .fields #[.ref ax, .int 0 0] }).get? b = some o := fun b o e => Heap.get?_push_of_some _ e
  have W : Walks prog w A s.heap.objs.size [s.heap.objs.size, ax] [s.heap.objs.size] its.length (fun i v => its[i]? = some v) (fun i h => h.IsListIter s.heap.objs.size ax i ∧ h.IsList ax its.toArray) := by
    have := Walks.list (prog := prog) (w := w) hh s.heap.objs.size ax (Nat.ne_of_lt hlt) its.toArray
    simpa using this
  refine ⟨_, _, its.length, _, _, _, news, rfl, W, hsz, fun i h st => let ⟨⟨o, e, _⟩, _⟩ := st; ⟨o, e⟩, ?_, ⟨⟨_, Heap.get?_push_size _ rfl, rfl, rfl⟩, hl.push _⟩, fun b hb => ?_, F.keeps up, N.grown up, Nat.ne_of_lt F.ns.lt, next_is_new F, fun p hp => Nat.ne_of_lt (Heap.lt_size (N p hp).1), hm, R _⟩
  · rintro i h h' o nw ⟨⟨o', e, r⟩, _⟩ e1 e2 k N' hS
    rw [e] at e1; cases e1
    exact ⟨⟨o, e2, r⟩, ⟨_, (N' _ hS).1, rfl, _, rfl⟩⟩
  · show b < (s.heap.push _).objs.size
    rw [Heap.size_push]
    rcases List.mem_cons.mp hb with rfl | hb
    · exact Nat.lt_succ_self _
    · rw [List.mem_singleton.mp hb]; exact Nat.lt_succ_of_lt hlt
theorem iterG_tuple {ax : Addr} {its : List Value} (hh : A.handled = none) (F : Fr h₀ L s.heap m) (N : News h₀ L s.heap news) {oax : Obj} (hax : h₀.get? ax = some oax) (hcl : oax.cls = .type "tuple") {k : Nat} (hda : oax.data = .seq its.toArray k) (hsz : its.length ≤ sizeLine)
    (R : ∀ h, Rest { s with heap := h } (fun _ => True) (fun i v => its[i]? = some v) its.length news) : wpAny (model prog w) A (pyIter (.ref ax)) (IterG prog w A h₀ L m Rest) E s := by
  have hl : s.heap.IsTuple ax its.toArray := ⟨_, F.keep _ _ hax, hcl, _, hda⟩
  have hlt : ax < s.heap.objs.size := Heap.lt_size (F.keep _ _ hax)
  refine wpAny_pyIter_tuple hl ?_
  have up : ∀ o b, ∀ o', s.heap.get? b = some o' → (s.heap.push o).get? b = some o' := fun o b o' e => Heap.get?_push_of_some _ e
  have W : Walks prog w A s.heap.objs.size [s.heap.objs.size, ax] [s.heap.objs.size] its.length (fun i v => its[i]? = some v) (fun i h => h.IsTupleIter s.heap.objs.size ax i ∧ h.IsTuple ax its.toArray) := by
    have := Walks.tuple (prog := prog) (w := w) hh s.heap.objs.size ax (Nat.ne_of_lt hlt) its.toArray
    simpa using this
  refine ⟨_, _, its.length, _, _, _, news, rfl, W, hsz, fun i h st => let ⟨⟨o, e, _⟩, _⟩ := st; ⟨o, e⟩, ?_, ⟨⟨_, Heap.get?_push_size _ rfl, rfl, rfl⟩, ⟨_, up _ _ _ (F.keep _ _ hax), hcl, _, hda⟩⟩, fun b hb => ?_, F.keeps (up _), N.grown (up _), Nat.ne_of_lt F.ns.lt, next_is_new F, fun p hp => Nat.ne_of_lt (Heap.lt_size (N p hp).1), trivial, R _⟩
  · rintro i h h' o nw ⟨⟨o', e, r⟩, _⟩ e1 e2 k N' _
    rw [e] at e1; cases e1
    exact ⟨⟨o, e2, r⟩, ⟨_, k _ _ hax, hcl, _, hda⟩⟩
  · show b < (s.heap.push _).objs.size
    rw [Heap.size_push]
    rcases List.mem_cons.mp hb with rfl | hb
    · exact Nat.lt_succ_self _
    · rw [List.mem_singleton.mp hb]; exact Nat.lt_succ_of_lt hlt
end
theorem comp_all {n : Nat} {S : List (Addr × Obj) → Prop} {P : Nat → Value → Prop} {Fin : List Value → List (Addr × Obj) → Prop} (J : Nat → List Value → List (Addr × Obj) → Prop)
    (turn : ∀ i v ys nw I oI C oC D m₂ h tk (E' : Value → Shared → Prop), i < n → P i v → J i ys nw → NsObj oC m₂ → m₂ x = some v → Fr h₀ L h m → News h₀ L h ((I, oI) :: (C, oC) :: (D, lst ys) :: nw) → Off3 I C D nw → ((@Ne Nat I C) ∧ (@Ne Nat I D) ∧ (@Ne Nat C D)) →
      wpAny (model prog w) A (eval elt (compEnvC scope cl C env)) (CompEnd h₀ L m { s with heap := h, toks := tk } I oI C oC D (lst ys) S (fun y nw' => J (i + 1) (ys ++ [y]) nw')) E' { s with heap := h, toks := tk })
    (fin : ∀ ys nw, J n ys nw → Fin ys nw) : ∀ (k i : Nat) (ys : List Value) (nw : List (Addr × Obj)), i + k = n → J i ys nw → CompRest prog w A h₀ L m env elt x scope cl s S P Fin k i ys nw := by
  intro k
  induction k with
  | zero => intro i ys nw hi hJ; rw [show n = i by (first | lia | omega)] at fin; exact fin ys nw hJ
  | succ k ih =>
    intro i ys nw hi hJ
    refine CompRest.succ ?_
    intro v I oI C oC D m₂ h tk E' hv hC hx F N off ne
    refine wpAny_mono (turn i v ys nw I oI C oC D m₂ h tk E' (by (first | lia | omega)) hv hJ hC hx F N off ne) (fun y s₂ hq => ?_) fun _ _ e => e
    (refine Mine.ex_3_6 (hq) ?_; (try clear hq); intro h' tk' nw' e F' N' off' hS hJ')
    exact ⟨h', tk', nw', e, F', N', off', hS, ih (i + 1) _ nw' (by (first | lia | omega)) hJ'⟩
end

end
/-! B9 -/
section
open PySem.Spec PyProof.Rows.LCg PyProof.Rows.LCt
/-- a text by its signs -/
noncomputable def txt (l : List Nat) : Str := ⟨l.toArray⟩
theorem txt_len (l : List Nat) : (txt l).length = l.length := by simp [txt, Str.length]
theorem txt_str (x : String) : Str.ofString x = txt (x.toList.map Char.toNat) := Str.ofString_eq_toList x
theorem join_txt : ∀ l : List Nat, Str.join (txt []) (l.map fun c => txt [c]) = txt l
  | [] => rfl
  | [c] => rfl
  | a :: b :: r => by
    rw [List.map_cons, List.map_cons]
    show txt [a] ++ txt [] ++ Str.join (txt []) (txt [b] :: r.map fun c => txt [c]) = txt (a :: b :: r)
    have := join_txt (b :: r)
    rw [List.map_cons] at this
    rw [this]
    show (⟨(#[a] ++ #[]) ++ (b :: r).toArray⟩ : Str) = ⟨(a :: b :: r).toArray⟩
    congr 1
    simp
noncomputable def Signs : List Value → List Nat → Prop := Two (fun v c => ∃ u, v = .str (txt [c]) u)
noncomputable def Nums : List Value → List Nat → Prop := Two (fun v c => ∃ u, v = .int (c : Int) u)
theorem Signs.pairs {ys : List Value} {l : List Nat} (h : Signs ys l) : ∃ p : List (Str × Tok), strValues p = ys ∧ p.map (·.1) = l.map fun c => txt [c] := by
  induction h with
  | nil => exact ⟨[], rfl, rfl⟩
  | cons r _ ih =>
    (refine Mine.ex_1_1 (r) ?_; (try clear r); intro u eq1; subst eq1)
    (refine Mine.ex_1_2 (ih) ?_; (try clear ih); intro p eq1 hp; subst eq1)
    refine ⟨(_, u) :: p, rfl, ?_⟩
    rw [List.map_cons, List.map_cons, hp]; rfl
theorem Nums.ints {ys : List Value} {l : List Nat} (h : Nums ys l) : IntsAre ys (l.map fun c : Nat => (c : Int)) := by
  induction h with
  | nil => exact .nil
  | cons r _ ih =>
    (refine Mine.ex_1_1 (r) ?_; (try clear r); intro u eq1; subst eq1)
    exact .cons _ u ih
section
variable {prog : Program} {w : World} {A : Around} {E : Value → Shared → Prop} {s : Shared} {h₀ : Heap} {L : Addr} {m : Str → Option Value} {env : Env} {news : List (Addr × Obj)}
theorem join_signs {D : Addr} {ys : List Value} {n : Nat} {l : List Nat} {sep : Str} {t : Tok} {Q : Value → Shared → Prop} (hsep : sep = txt []) (N : News h₀ L s.heap news) (hm : (D, ({ cls := .type "list", data := .seq ys.toArray n } : Obj)) ∈ news) (hs : Signs ys l) (hz : l.length ≤ 524288)
    (hq : ∀ t' k, Q (.str (txt l) t') { s with toks := k }) : wpAny (model prog w) A (call (.builtin "str.join") [.str sep t, .ref D]) Q E s := by
  subst hsep
  (refine Mine.ex_1_2 (hs.pairs) ?_; intro p eq1 hp; subst eq1)
  refine SC.join (l := p) (texts := l.map fun c => txt [c]) ⟨_, (N _ hm).1, rfl, _, rfl⟩ hp (joinOk_of_weight ?_ (by decide)) ?_
  · have : (l.map fun c => txt [c]).map (·.length) = l.map fun _ => 1 := by rw [List.map_map]; exact List.map_congr_left fun a _ => txt_len [a]
    rw [this, List.length_map]
    have : (l.map fun _ => 1).sum = l.length := by
      clear hq hm hs hp N this hz
      induction l with
      | nil => rfl
      | cons a r ih => rw [List.map_cons, List.sum_cons, ih, List.length_cons]; (first | lia | omega)
    (first | lia | omega)
  · rw [show Txt.join (txt []) (l.map fun c => txt [c]) = txt l from (StrLaws.glued_eq_join _ _).trans (join_txt l)]; exact hq
theorem chr_nat {c : Nat} {u : Tok} {Q : Value → Shared → Prop} (hc : c ≤ 1114111) (h : Q (.str (txt [c]) s.toks) { s with toks := s.toks + 1 }) : wpAny (model prog w) A (call (.builtin "chr") [.int (c : Int) u]) Q E s :=
  chr_of_range (by (first | lia | omega)) (by (first | lia | omega)) h
theorem ord_txt {c : Nat} {u : Tok} {Q : Value → Shared → Prop} (h : Q (.int (c : Int) s.toks) { s with toks := s.toks + 1 }) : wpAny (model prog w) A (call (.builtin "ord") [.str (txt [c]) u]) Q E s := P.ord_of_char h
theorem bytes_nums {D : Addr} {ys : List Value} {n : Nat} {l : List Nat} {Q : Value → Shared → Prop} (F : Fr h₀ L s.heap m) (N : News h₀ L s.heap news) (hh : A.handled = none) (hm : (D, ({ cls := .type "list", data := .seq ys.toArray n } : Obj)) ∈ news) (hs : Nums ys l) (hc : ∀ c ∈ l, c < 256) (hz : l.length ≤ 16777216)
    (hq : ∀ h' t' k, Fr h₀ L h' m → News h₀ L h' news → Q (.bytes (l.map Nat.toUInt8).toArray t') { s with heap := h', toks := k }) : wpAny (model prog w) A (call (.type "bytes") [.ref D]) Q E s := by
  refine KBa.make_K F N hh ⟨_, (N _ hm).1, rfl, _, rfl⟩ hs.ints ?_ (by rw [List.length_map]; exact hz) ?_
  · intro k hk
    (refine Mine.ex_1_2 (List.mem_map.mp hk) ?_; intro c h1 eq2; subst eq2)
    have := hc c h1
    (first | lia | omega)
  · intro h' t' k F' N' _
    have : byteArr (l.map fun c : Nat => (c : Int)) = (l.map Nat.toUInt8).toArray := by
      unfold byteArr
      rw [List.map_map]
      rfl
    rw [this]
    exact hq h' t' k F' N'
variable {Rest : Shared → (List (Addr × Obj) → Prop) → (Nat → Value → Prop) → Nat → List (Addr × Obj) → Prop}
theorem iterG_str {l : List Nat} {t : Tok} (hh : A.handled = none) (F : Fr h₀ L s.heap m) (N : News h₀ L s.heap news) (hsz : l.length ≤ sizeLine)
    (R : ∀ h, Rest { s with heap := h } (fun _ => True) (fun i v => ∃ c u, l[i]? = some c ∧ v = .str (txt [c]) u) l.length news) : wpAny (model prog w) A (pyIter (.str (txt l) t)) (IterG prog w A h₀ L m Rest) E s := by
  have key : ∀ T : String, (∀ I, Walks prog w A I [I] [I] (txt l).cps.size (SignAt (txt l)) (fun i h => h.IsStrIter I T (txt l) t i)) →
      IterG prog w A h₀ L m Rest (.ref s.heap.objs.size) { s with heap := s.heap.push { cls := .type T, data := .fields #[.str (txt l) t, .int 0 0] } } := by
    intro T W₀
    have W : Walks prog w A s.heap.objs.size [s.heap.objs.size] [s.heap.objs.size] l.length (fun i v => ∃ c u, l[i]? = some c ∧ v = Value.str (txt [c]) u) (fun i h => h.IsStrIter s.heap.objs.size T (txt l) t i) := by
      have := W₀ s.heap.objs.size
      have e : SignAt (txt l) = (fun i v => ∃ c u, l[i]? = some c ∧ v = Value.str (txt [c]) u) := by
        funext i v
        unfold SignAt
        simp [txt]
      rw [e] at this
      exact this
    have up : ∀ b o, s.heap.get? b = some o → (s.heap.push { cls := .type T, data := .fields #[.str (txt l) t, .int 0 0] }).get? b = some o := fun b o e => Heap.get?_push_of_some _ e
    refine ⟨_, _, l.length, _, _, _, news, rfl, W, hsz, fun i h st => let ⟨o, e, _⟩ := st; ⟨o, e⟩, ?_, ⟨_, Heap.get?_push_size _ rfl, rfl, rfl⟩, fun b hb => ?_, F.keeps up, N.grown up, Nat.ne_of_lt F.ns.lt, next_is_new F, fun p hp => Nat.ne_of_lt (Heap.lt_size (N p hp).1), trivial, R _⟩
    · rintro i h h' o nw ⟨o', e, r⟩ e1 e2 _ _ _
      rw [e] at e1; cases e1
      exact ⟨o, e2, r⟩
    · rw [List.mem_singleton.mp hb]
      show s.heap.objs.size < (s.heap.push _).objs.size
      rw [Heap.size_push]; exact Nat.lt_succ_self _
  cases ha : (txt l).cps.all (· < 128)
  · exact wpAny_pyIter_wide ha (key _ fun I => Walks.strWide hh I _ _)
  · exact wpAny_pyIter_ascii ha (key _ fun I => Walks.strAscii hh I _ _)
end
/-- how a turn of a comprehension ends, its ledger unchanged -/
noncomputable def TurnEnd {β : Type} (h₀ : Heap) (L : Addr) (m : Str → Option Value) (s₁ : Shared) (I : Addr) (oI : Obj) (C : Addr) (oC : Obj) (D : Addr) (oD : Obj) (led : List (Addr × Obj)) (R : Value → β → Prop) (b : β) (y : Value) (s₂ : Shared) : Prop :=
  ∃ h' tk all, s₂ = { s₁ with heap := h', toks := tk } ∧ Fr h₀ L h' m ∧ News h₀ L h' (all ++ (I, oI) :: (C, oC) :: (D, oD) :: led) ∧ R y b
theorem TurnEnd.intro {β : Type} {h₀ : Heap} {L : Addr} {m : Str → Option Value} {s₁ : Shared} {I : Addr} {oI : Obj} {C : Addr} {oC : Obj} {D : Addr} {oD : Obj} {led : List (Addr × Obj)} {R : Value → β → Prop} {b : β} {y : Value} {h' : Heap} {tk : Nat} (all : List (Addr × Obj))
    (F : Fr h₀ L h' m) (N : News h₀ L h' (all ++ (I, oI) :: (C, oC) :: (D, oD) :: led)) (r : R y b) : TurnEnd h₀ L m s₁ I oI C oC D oD led R b y { s₁ with heap := h', toks := tk } := ⟨h', tk, all, rfl, F, N, r⟩
theorem comp_two {β : Type} {prog : Program} {w : World} {A : Around} {s : Shared} {h₀ : Heap} {L : Addr} {m : Str → Option Value} {env : Env} {elt : Expr} {x : Str} {scope : Scope} {cl : List (Str × Addr)} {n : Nat} {S : List (Addr × Obj) → Prop} {P : Nat → Value → Prop} {Fin : List Value → List (Addr × Obj) → Prop}
    {R : Value → β → Prop} {xs : List β} {led : List (Addr × Obj)} (hn : xs.length = n) (hS : S led)
    (turn : ∀ i v b ys I oI C oC D m₂ h tk (E' : Value → Shared → Prop), P i v → xs[i]? = some b → NsObj oC m₂ → m₂ x = some v → Fr h₀ L h m → News h₀ L h ((I, oI) :: (C, oC) :: (D, lst ys) :: led) → Off3 I C D led → ((@Ne Nat I C) ∧ (@Ne Nat I D) ∧ (@Ne Nat C D)) →
      wpAny (model prog w) A (eval elt (compEnvC scope cl C env)) (TurnEnd h₀ L m { s with heap := h, toks := tk } I oI C oC D (lst ys) led R b) E' { s with heap := h, toks := tk })
    (fin : ∀ ys, Two R ys xs → Fin ys led) : CompRest prog w A h₀ L m env elt x scope cl s S P Fin n 0 [] led := by
  refine comp_all (fun i ys nw => nw = led ∧ Two R ys (xs.take i)) ?_ ?_ n 0 [] led (Nat.zero_add _) ⟨rfl, .nil⟩
  · rintro i v ys nw I oI C oC D m₂ h tk E' hi hv ⟨rfl, two⟩ hC hx F N off ne
    have hb : xs[i]? = some (xs[i]'(by (first | lia | omega))) := by simp [show i < xs.length by (first | lia | omega)]
    refine wpAny_mono (turn i v _ ys I oI C oC D m₂ h tk E' hv hb hC hx F N off ne) (fun y s₂ hq => ?_) fun _ _ e => e
    (refine Mine.ex_3_4 (hq) ?_; (try clear hq); intro h' tk' all eq3 F' N' r; subst eq3)
    refine CompEnd.intro F' N' nw (fun p hp => List.mem_append_right _ hp) off hS ⟨rfl, ?_⟩
    rw [List.take_add_one, hb]
    exact two.snoc r
  · rintro ys nw ⟨rfl, two⟩
    rw [List.take_of_length_le (by (first | lia | omega))] at two
    exact fin ys two

end
/-! B10 -/
section
open PySem.Builtin
theorem gives_contains {b : Array UInt8} {t u : Tok} {x : UInt8} : Gives («bytes.__contains__» ⟨[.bytes b t, .int (x.toNat : Int) u], []⟩) (.val (.bool (b.contains x))) := by
  refine .of_eq ?_
  show (do let r ← Bytes.containsIn "bytes.__contains__" (.bytes b t) (.int (x.toNat : Int) u); ret (.bool r)) = _
  unfold Bytes.containsIn
  rw [buffer_full]
  have hx := UInt8.toNat_lt x
  have e1 : (decide ((x.toNat : Int) < 0) || decide ((x.toNat : Int) ≥ 256)) = false := by simp; (first | lia | omega)
  have e2 : ((x.toNat : Int)).toNat.toUInt8 = x := by simp
  show (do let r ← (if (decide ((x.toNat : Int) < 0) || decide ((x.toNat : Int) ≥ 256)) = true then _ else pure (b.contains ((x.toNat : Int)).toNat.toUInt8)); ret (.bool r)) = _
  rw [e1, e2]
  rfl
section
variable {prog : Program} {w : World} {A : Around} {E : Value → Shared → Prop} {s : Shared} {l : List UInt8} {x : UInt8} {t u : Tok} {Q : Value → Shared → Prop}
theorem in_B (h : Q (.bool (l.contains x)) s) : wpAny (model prog w) A (compareOp .In (.int (x.toNat : Int) u) (.bytes l.toArray t)) Q E s :=
  in_gives (typeIs_bytes s _ t) FB.slot_bytes_contains FB.entry_bytes_contains (FB.args_bytes_contains_2 _ _) gives_contains (by simpa using h)
theorem notin_B (h : Q (.bool (!l.contains x)) s) : wpAny (model prog w) A (compareOp .NotIn (.int (x.toNat : Int) u) (.bytes l.toArray t)) Q E s :=
  notIn_gives (typeIs_bytes s _ t) FB.slot_bytes_contains FB.entry_bytes_contains (FB.args_bytes_contains_2 _ _) gives_contains (by simpa using h)
end

end
/-! B11 -/
section
open PySem.Spec PyProof.V
section
variable {prog : Program} {w : World} {A : Around} {E : Value → Shared → Prop} {s : Shared} {h₀ h : Heap} {L D : Addr} {m : Str → Option Value} {news : List (Addr × Obj)} {n : Nat} {Q : Value → Shared → Prop}
/-- a list of one text, sorted -/
theorem sort_one {x : Str} {u : Tok} {g : Obj → List (Addr × Obj)} (F : Fr h₀ L s.heap m) (N : News h₀ L s.heap news) (U : UpdF D (listOf #[Value.str x u] n) news g)
    (h : ∀ h' c, Fr h₀ L h' m → News h₀ L h' (g (listOf #[Value.str x u] c)) → Q .none { s with heap := h' }) :
    wpAny (model prog w) A (call (.builtin "list.sort") [.ref D]) Q E s := by
  (refine Mine.ex_2_4 (U.split) ?_; intro pre post e0 hg x1 x2)
  rw [e0] at N
  have z := N (D, listOf #[Value.str x u] n) (List.mem_append_right _ (.head _))
  have ho : s.heap.get? D = some (seqObj "list" [Value.str x u].toArray n) := z.1
  refine wpAny_call_entry PyProof.Rows.slot_list_sort ⟨_, z.1, rfl⟩ PyProof.Rows.entry_list_sort (list_sort_treeK strKind_oneLt ho ?_ (fun v1 v2 r e => by cases e) (by rw [List.length_singleton]; decide) fun st' hp _ => ⟨.none, rfl, ?_⟩) (PyProof.Rows.args_list_sort _)
  · intro p hp
    have : p = (Value.str x u, Value.str x u) := by simpa [pairsOf] using hp
    rw [this]
    exact ⟨_, rfl⟩
  have ho2 : (arrOf st').map (·.2) = #[Value.str x u] := by
    have h1 := hp.toList
    have h2 : (pairsOf [Value.str x u]).toList = [(Value.str x u, Value.str x u)] := by simp [pairsOf]
    rw [h2] at h1
    have h3 := List.perm_singleton.mp h1
    apply Array.ext'
    rw [Array.toList_map, h3]
    rfl
  rw [ho2]
  (refine Mine.ex_1_1 (sortedHeap_at (vs := [Value.str x u]) (out := #[Value.str x u]) ho) ?_; intro c hc)
  have F4 : Fr h₀ L (sortedHeap s.heap D [Value.str x u] #[Value.str x u]) m :=
    ksk_fr (((ksk_fr F (Heap.SameBut.update s.heap D (Obj.mapSeq fun _ => #[])) z.2.1 z.2.2).push (seqObj "tuple" [Value.str x u].toArray 0)).push (seqObj "list" #[] 0)) (Heap.SameBut.update _ D (Obj.mapSeq fun _ => #[Value.str x u])) z.2.1 z.2.2
  refine h _ c F4 ?_
  rw [hg]
  intro p hq
  rcases List.mem_append.mp hq with hq | hq
  · have y := N p (List.mem_append_left _ hq)
    exact ⟨(sortedHeap_old (x1 p hq) (Heap.lt_size y.1)).trans y.1, y.2⟩
  · rcases List.mem_cons.mp hq with rfl | hq
    · exact ⟨hc, z.2⟩
    · have y := N p (List.mem_append_right _ (.tail _ hq))
      exact ⟨(sortedHeap_old (x2 p hq) (Heap.lt_size y.1)).trans y.1, y.2⟩
end

end
/-! B12 -/
section
section
variable {prog : Program} {w : World} {A : Around} {E : Value → Shared → Prop} {s : Shared} {l k : List UInt8} {t u : Tok} {Q : Value → Shared → Prop}
theorem eq_B (h : Q (.bool (l == k)) s) : wpAny (model prog w) A (compareOp .Eq (.bytes l.toArray t) (.bytes k.toArray u)) Q E s := eq_bytes (by simpa using h)
theorem ne_B (h : Q (.bool (l != k)) s) : wpAny (model prog w) A (compareOp .NotEq (.bytes l.toArray t) (.bytes k.toArray u)) Q E s := ne_bytes (by simpa using h)
end
section
variable {prog : Program} {w : World} {A : Around} {E : Value → Shared → Prop} {s : Shared} {K : Frag} {h₀ : Heap} {L a : Addr} {d : Option Addr} {sl : Array (Option Value)} {n : Nat} {v : Int} {t : Tok} {Q : Value → Shared → Prop}
theorem in_ints3 {x y z : Int} {tx ty tz : Tok} (X : K.In s.heap) (ho : K.lookup a = some ⟨.type "tuple", d, .seq [Value.int x tx, Value.int y ty, Value.int z tz].toArray n, sl⟩) (h : Q (.bool (decide (v = x ∨ v = y ∨ v = z))) s) :
    wpAny (model prog w) A (compareOp .In (.int v t) (.ref a)) Q E s := by
  refine in_ints X ho (fun z hz => ?_) ?_
  · simp only [List.mem_cons, List.not_mem_nil, or_false] at hz
    rcases hz with rfl | rfl | rfl <;> exact ⟨_, _, rfl⟩
  · have e : ([Value.int x tx, Value.int y ty, Value.int z tz].any (isInt v)) = decide (v = x ∨ v = y ∨ v = z) := by
      rw [Bool.eq_iff_iff]
      simp only [List.any_cons, List.any_nil, isInt, Bool.or_false, Bool.or_eq_true, beq_iff_eq, decide_eq_true_eq]
      (first | lia | omega)
    rw [e]; exact h
end
section
open SeqAt
variable {prog : Program} {w : World} {A : Around} {E : Value → Shared → Prop} {s : Shared} {K : Frag} {a : Addr} {d : Option Addr} {sl : Array (Option Value)} {n : Nat} {v : Str} {t : Tok} {Q : Value → Shared → Prop}
noncomputable def isStrV (v : Str) : Value → Bool
  | .str x _ => x == v
  | _ => false
theorem any_strs3 {x y z : Str} {tx ty tz : Tok} : ([Value.str x tx, Value.str y ty, Value.str z tz].any (isStrV v)) = (x == v || (y == v || z == v)) := by
  simp only [List.any_cons, List.any_nil, isStrV, Bool.or_false]
theorem in_strs3 {x y z : Str} {tx ty tz : Tok} (X : K.In s.heap) (ho : K.lookup a = some ⟨.type "tuple", d, .seq [Value.str x tx, Value.str y ty, Value.str z tz].toArray n, sl⟩) (h : Q (.bool (x == v || (y == v || z == v))) s) :
    wpAny (model prog w) A (compareOp .In (.str v t) (.ref a)) Q E s := by
  refine in_tupleAt (isStrV v) ⟨_, X _ _ ho, rfl, _, rfl⟩ (fun y hy => ?_) (by simpa [isStrV] using h)
  have hy' := hy
  simp only [List.mem_toArray, List.mem_cons, List.not_mem_nil, or_false] at hy'
  rcases hy' with e | e | e <;> (rw [e]; exact EqAt.str_str _ _ _ _)
theorem notin_strs3 {x y z : Str} {tx ty tz : Tok} (X : K.In s.heap) (ho : K.lookup a = some ⟨.type "tuple", d, .seq [Value.str x tx, Value.str y ty, Value.str z tz].toArray n, sl⟩) (h : Q (.bool (!(x == v || (y == v || z == v)))) s) :
    wpAny (model prog w) A (compareOp .NotIn (.str v t) (.ref a)) Q E s := by
  refine notIn_tupleAt (isStrV v) ⟨_, X _ _ ho, rfl, _, rfl⟩ (fun y hy => ?_) (by simpa [isStrV] using h)
  have hy' := hy
  simp only [List.mem_toArray, List.mem_cons, List.not_mem_nil, or_false] at hy'
  rcases hy' with e | e | e <;> (rw [e]; exact EqAt.str_str _ _ _ _)
end

end
/-! B13 -/
section
open PySem.Spec

section
variable {prog : Program} {w : World} {A : Around} {E : Value → Shared → Prop} {s : Shared} {env : Env} {h₀ : Heap} {target : Expr} {body : List Stmt} {Q : Flow → Shared → Prop} {m₀ : Str → Option Value} {news : List (Addr × Obj)} {σ : Type}
theorem turns_walks {I : Addr} {fp : List Addr} {n : Nat} {P : Nat → Value → Prop} {St : Nat → Heap → Prop} (J : Nat → (Str → Option Value) → List (Addr × Obj) → Prop)
    (W : KTurns prog w A target I fp [I] n (fun i v _ => P i v) (fun i v h => P i v ∧ St (i + 1) h) St) (hIo : ∀ i h, St i h → ∃ o, h.get? I = some o) (src : List (Addr × Obj)) (hfp : ∀ b ∈ fp, b = I ∨ (∃ o, h₀.get? b = some o) ∨ ∃ o, (b, o) ∈ src) (hsrc : ∀ i m₁ nw, J i m₁ nw → ∀ p ∈ src, p ∈ nw)
    (hLf : env.locals ∉ fp) (hI0 : h₀.get? I = none) (hoff : ∀ p ∈ news, p.1 ≠ I) (hst : St 0 s.heap) (F : Fr h₀ env.locals s.heap m₀) (N : News h₀ env.locals s.heap news) (hj : J 0 m₀ news)
    (turn : ∀ i v m₁ news₁ oI h tk, i < n → P i v → J i m₁ news₁ → (∀ p ∈ news₁, p.1 ≠ I) → Fr h₀ env.locals h m₁ → News h₀ env.locals h ((I, oI) :: news₁) →
      wpAny (model prog w) A (assign target env v) (fun _ s₃ => wpAny (model prog w) A (execs body env) (ForPost h₀ env.locals I oI (J (i + 1)) { s with heap := h, toks := tk } Q) E s₃) E { s with heap := h, toks := tk })
    (done : ∀ m₁ news₁ h tk, J n m₁ news₁ → Fr h₀ env.locals h m₁ → News h₀ env.locals h news₁ → Q .next { s with heap := h, toks := tk }) :
    TurnsAt prog w A h₀ env target body Q E (.ref I) s := by
  refine ⟨I, fp, [I], n, _, _, St, m₀, news, J, rfl, W, hLf, ?_, ?_, hst, F, N, hj, ?_, ?_⟩
  · intro b hb; rw [List.mem_singleton.mp hb]; exact hI0
  · intro p hp hb; exact hoff p hp (List.mem_singleton.mp hb)
  · rintro i v m₁ news₁ h tk own hi hP hJ hoff₁ hown hownAt hall hst₁ F₁ N₁
    (refine Mine.ex_1_1 (hIo _ _ hst₁) ?_; intro oI hoI)
    have hIf : I ∈ fp := W.sub I List.mem_cons_self
    have hIown : (I, oI) ∈ own := hall I hIf hI0 oI hoI
    have off : ∀ p ∈ news₁, p.1 ≠ I := fun p hp e => hoff₁ p hp (by rw [e]; exact List.mem_cons_self)
    have N₁r : News h₀ env.locals h news₁ := fun p hp => N₁ p (List.mem_append_right _ hp)
    have N₁' : News h₀ env.locals h ((I, oI) :: news₁) := fun p hp => by
      rcases List.mem_cons.mp hp with rfl | hp
      · exact N₁ _ (List.mem_append_left _ hIown)
      · exact N₁r p hp
    refine wpAny_mono (turn i v m₁ news₁ oI h tk hi hP hJ off F₁ N₁') (fun _ s₃ p₃ => wpAny_mono p₃ (fun f s₂ p => ?_) fun _ _ e => e) fun _ _ e => e
    have fin : (∃ h' tk' m₂ news₂, s₂ = { s with heap := h', toks := tk' } ∧ Fr h₀ env.locals h' m₂ ∧ News h₀ env.locals h' ((I, oI) :: news₂) ∧ (∀ p ∈ news₂, p.1 ≠ I) ∧ J (i + 1) m₂ news₂) →
        LoopStepU h₀ env.locals [I] own (J (i + 1)) { s with heap := h, toks := tk } .next s₂ := by
      rintro ⟨h', tk', m₂, news₂, rfl, F₂, N₂, off₂, hJ₂⟩
      refine ⟨rfl, h', tk', m₂, news₂, rfl, F₂, fun p hp => ?_, fun p hp hb => off₂ p hp (List.mem_singleton.mp hb), hJ₂⟩
      have N₂r : News h₀ env.locals h' news₂ := fun p hp => N₂ p (List.mem_cons_of_mem _ hp)
      rcases List.mem_append.mp hp with hp | hp
      · have h3 := N₁ p (List.mem_append_left _ hp)
        rcases hfp p.1 (hown p hp) with e | ⟨o, e⟩ | ⟨o, ho⟩
        · have h4 : p.2 = oI := by
            have h5 := h3.1
            rw [e] at h5
            have h6 : h.get? I = some oI := hoI
            rw [h6] at h5
            exact (Option.some.inj h5).symm
          have : p = (I, oI) := Prod.ext e h4
          rw [this]
          exact N₂ _ List.mem_cons_self
        · have h5 := h3.2.2
          rw [e] at h5
          cases h5
        · have h5 := (N₁r _ (hsrc _ _ _ hJ _ ho)).1
          rw [h3.1] at h5
          have : p = (p.1, o) := Prod.ext rfl (Option.some.inj h5)
          rw [this]
          exact N₂r _ (hsrc _ _ _ hJ₂ _ ho)
      · exact N₂r p hp
    cases f with
    | ret v => exact .ret p
    | brk => exact .brk p
    | next => exact .next (fin p)
    | cont => exact .cont (fin p)
  · intro h' tk m' news' F' N' _ hJ
    exact done m' news' h' tk hJ F' N'
/-- over a list of the ledger, any target -/
theorem turns_led_st {ax : Addr} {its : List Value} {nl : Nat} (Led : σ → List (Addr × Obj)) (ps : σ → List (Str × Value)) (xs : List Str) (P : Nat → σ → Prop) (c₀ : σ) (hh : A.handled = none) (hsrc : ∀ c, (ax, ({ cls := .type "list", data := .seq its.toArray nl } : Obj)) ∈ Led c) (F : Fr h₀ env.locals s.heap m₀) (N : News h₀ env.locals s.heap (Led c₀)) (hk : ∀ p ∈ ps c₀, m₀ p.1 = some p.2) (hp : P 0 c₀)
    (turn : ∀ i v (c₁ : σ) u I oI h tk, its[i]? = some v → P i c₁ → (∀ p ∈ Led c₁, p.1 ≠ I) → Fr h₀ env.locals h (frB xs (ps c₁) u m₀) → News h₀ env.locals h ((I, oI) :: Led c₁) →
      wpAny (model prog w) A (assign target env v) (fun _ s₃ => wpAny (model prog w) A (execs body env) (ForPostS h₀ env.locals I oI Led ps xs m₀ (P (i + 1)) { s with heap := h, toks := tk } Q) E s₃) E { s with heap := h, toks := tk })
    (done : ∀ (c₁ : σ) u h tk, P its.length c₁ → Fr h₀ env.locals h (frB xs (ps c₁) u m₀) → News h₀ env.locals h (Led c₁) → Q .next { s with heap := h, toks := tk }) :
    wpAny (model prog w) A (pyIter (.ref ax)) (fun it s₂ => TurnsAt prog w A h₀ env target body Q E it s₂) E s := by
  have hsrc' : ∀ i m₁ nw, (∃ c : σ, nw = Led c ∧ FrOk xs (ps c) m₀ m₁ ∧ P i c) → (ax, ({ cls := .type "list", data := .seq its.toArray nl } : Obj)) ∈ nw := fun i m₁ nw hJ => by (refine Mine.ex_1_2 (hJ) ?_; (try clear hJ); intro c eq1 _; subst eq1); exact hsrc c
  have hax := N _ (hsrc c₀)
  have hls : s.heap.IsList ax its.toArray := ⟨_, hax.1, rfl, _, rfl⟩
  have hlt : ax < s.heap.objs.size := Heap.lt_size hax.1
  refine wpAny_pyIter_list hls ?_
  have W := KTurns.ofWalks (target := target) (Walks.list (prog := prog) (w := w) hh s.heap.objs.size ax (Nat.ne_of_lt hlt) its.toArray) (fun i v s Q E st q => letGo_listiter st.1 q)
  refine turns_walks (P := fun i v => its.toArray[i]? = some v) (St := fun i h => h.IsListIter s.heap.objs.size ax i ∧ h.IsList ax its.toArray) (fun i m nx => ∃ c : σ, nx = Led c ∧ FrOk xs (ps c) m₀ m ∧ P i c) W (fun i h st => let ⟨⟨o, e, _⟩, _⟩ := st; ⟨o, e⟩) [(ax, { cls := .type "list", data := .seq its.toArray nl })] (fun b hb => ?_) (fun i m₁ nw hJ p hp => by rw [List.mem_singleton.mp hp]; exact hsrc' i m₁ nw hJ) ?_ (next_is_new F)
    (fun p hp => Nat.ne_of_lt (Heap.lt_size (N p hp).1)) ⟨⟨_, Heap.get?_push_size _ rfl, rfl, rfl⟩, hls.at fun o e => Heap.get?_push_of_some _ e⟩ (F.push _)
    (fun p hp => ⟨Heap.get?_push_of_some _ (N p hp).1, (N p hp).2⟩) ⟨c₀, rfl, ⟨hk, fun _ _ _ => rfl⟩, hp⟩ ?_ ?_
  · rcases List.mem_cons.mp hb with rfl | hb
    · exact .inl rfl
    · rw [List.mem_singleton.mp hb]; exact .inr (.inr ⟨_, List.mem_cons_self⟩)
  · intro hm
    rcases List.mem_cons.mp hm with e | hm
    · exact absurd F.ns.lt (e ▸ Nat.lt_irrefl _)
    · exact hax.2.1 (List.mem_singleton.mp hm).symm
  · rintro i v m₁ nx oI h tk hi hv ⟨c₁, rfl, k, hp'⟩ off F₁ N₁
    refine wpAny_mono (turn i v c₁ m₁ _ oI h tk (by simpa using hv) hp' off (k.fr F₁) N₁) (fun _ s₃ p₃ => wpAny_mono p₃ (fun f s₂ p => p.toPost) fun _ _ e => e) fun _ _ e => e
  · rintro m₁ nx h tk ⟨c₁, rfl, k, hp'⟩ F₁ N₁
    rw [List.size_toArray] at hp'
    exact done c₁ m₁ h tk hp' (k.fr F₁) N₁
end

end
/-! B14 -/
section
section
variable {prog : Program} {w : World} {A : Around} {E : Value → Shared → Prop} {s : Shared} {l k : List UInt8} {t u : Tok} {Q : Value → Shared → Prop}
theorem add_B (hz : l.length + k.length ≤ 16777216) (h : ∀ t' j, Q (.bytes (l ++ k).toArray t') { s with toks := j }) : wpAny (model prog w) A (binaryOp .Add (.bytes l.toArray t) (.bytes k.toArray u)) Q E s :=
  KBy.add_bytes (by simpa using hz) (by simpa using h)
theorem len_B (hz : l.length ≤ 16777216) (h : ∀ t' j, Q (.int (l.length : Int) t') { s with toks := j }) : wpAny (model prog w) A (call (.builtin "len") [.bytes l.toArray t]) Q E s := by
  refine len_bytes (by rw [List.size_toArray]; (first | lia | omega)) ?_
  have := h (s.toks + 1) (s.toks + 1 + 1)
  rw [List.size_toArray]; exact this
end

end
/-! B15 -/
section
open PySem.Spec SeqAt PyProof.Rows.LCg PyProof.Rows.LCt
section
variable {A : Around} {s : Shared}
theorem eqAt_bytes (a : Array UInt8) (t : Tok) (b : Array UInt8) (u : Tok) : EqAt A s (.bytes a t) (.bytes b u) (a.toList == b.toList) := fun prog w E Q h => by
  unfold eqBool
  refine wpAny_holding ?_
  refine wpAny_ite_split (fun hab => ?_) (fun _ => ?_)
  · have e := eq_of_beq hab
    injection e with e1 e2
    subst e1
    rw [beq_self_eq_true] at h
    exact wpAny_bind (wpAny_rule (wpAny_pure h))
  · exact wpAny_bind (show wpAny (model prog w) A (compareOp .Eq (.bytes a t) (.bytes b u)) _ E s from eq_bytes (wpAny_truthy_bool h))
end
section
variable {prog : Program} {w : World} {A : Around} {E : Value → Shared → Prop} {s : Shared} {K : Frag} {h₀ : Heap} {L a b : Addr} {m : PySem.Str → Option Value} {news : List (Addr × Obj)} {d : Option Addr} {sl : Array (Option Value)} {n n1 n2 : Nat} {v : List UInt8} {t : Tok} {Q : Value → Shared → Prop}
noncomputable def isOctV (v : List UInt8) : Value → Bool
  | .bytes x _ => x.toList == v
  | _ => false
theorem in_octs2 {x y : Array UInt8} {tx ty : Tok} (X : K.In s.heap) (ho : K.lookup a = some ⟨.type "tuple", d, .seq [Value.bytes x tx, Value.bytes y ty].toArray n, sl⟩) (h : Q (.bool (x.toList == v || y.toList == v)) s) :
    wpAny (model prog w) A (compareOp .In (.bytes v.toArray t) (.ref a)) Q E s := by
  refine in_tupleAt (isOctV v) ⟨_, X _ _ ho, rfl, _, rfl⟩ (fun y hy => ?_) (by simpa [isOctV] using h)
  have hy' := hy
  simp only [List.mem_toArray, List.mem_cons, List.not_mem_nil, or_false] at hy'
  rcases hy' with e | e <;> (rw [e]; exact eqAt_bytes _ _ _ _)
theorem in_strs2 {v x y : PySem.Str} {tx ty : Tok} (X : K.In s.heap) (ho : K.lookup a = some ⟨.type "tuple", d, .seq [Value.str x tx, Value.str y ty].toArray n, sl⟩) (h : Q (.bool (x == v || y == v)) s) :
    wpAny (model prog w) A (compareOp .In (.str v t) (.ref a)) Q E s := by
  refine in_tupleAt (isStrV v) ⟨_, X _ _ ho, rfl, _, rfl⟩ (fun y hy => ?_) (by simpa [isStrV] using h)
  have hy' := hy
  simp only [List.mem_toArray, List.mem_cons, List.not_mem_nil, or_false] at hy'
  rcases hy' with e | e <;> (rw [e]; exact EqAt.str_str _ _ _ _)
open PySem.Builtin in
theorem mul_B {b : List UInt8} {k : Nat} {t u : Tok} (hb : b ≠ []) (hk : k ≤ 1000) (hs : b.length ≤ 1000) (h : ∀ t' j, Q (.bytes ((List.replicate k b).flatten).toArray t') { s with toks := j }) : wpAny (model prog w) A (binaryOp .Mult (.bytes b.toArray t) (.int (k : Int) u)) Q E s := by
  have hsz : b.toArray.size = b.length := by simp
  have hpos : 0 < b.length := List.length_pos_iff.mpr hb
  match k, hk with
  | 0, _ =>
    have hz : b.toArray.size * ((0 : Nat) : Int).toNat = 0 := Nat.mul_zero _
    refine wpAny_binaryOp_repeat (T := "bytes") (U := "int") (by decide) (fun s' => typeIs_bytes s' _ t) (fun s' => typeIs_int s' _ u) BMul.noFill F.fills_int_mul F.slot_int_rmul BMul.repeats F.slot_int_index.lookup
      (call_gives F.slot_int_rmul (typeIs_int s _ u) F.entry_int_rmul (F.args_int_rmul_2 _ _) (BMul.int_declines _ u _ t)
        ⟨rfl, call_gives BMul.slot_mul (typeIs_bytes s _ t) BMul.entry_mul (BMul.args_mul _ _) (BMul.gives_mul (by decide) (by rw [hz]; decide) (by rw [hz, hsz]; exact beq_false_of_ne (by (first | lia | omega))) (by rw [hz]; exact KBy.tooLong_not (by decide))) ?_⟩)
    rw [BMul.repeated_list hb]
    exact ⟨by rw [sizeLine_eq]; simp, h _ _⟩
  | 1, _ =>
    refine wpAny_binaryOp_repeat (T := "bytes") (U := "int") (by decide) (fun s' => typeIs_bytes s' _ t) (fun s' => typeIs_int s' _ u) BMul.noFill F.fills_int_mul F.slot_int_rmul BMul.repeats F.slot_int_index.lookup
      (call_gives F.slot_int_rmul (typeIs_int s _ u) F.entry_int_rmul (F.args_int_rmul_2 _ _) (BMul.int_declines _ u _ t)
        ⟨rfl, call_gives BMul.slot_mul (typeIs_bytes s _ t) BMul.entry_mul (BMul.args_mul _ _) (BMul.gives_mul1 (by rw [hsz]; (first | lia | omega))) ?_⟩)
    have h' := h t s.toks
    have e : (List.replicate 1 b).flatten = b := by simp
    rw [e] at h'
    exact h'
  | k + 2, hk =>
    refine bytes_mul_K hb (by (first | lia | omega)) (by (first | lia | omega)) ?_ rfl h
    have : b.length * (k + 2) ≤ 1000 * 1000 := Nat.mul_le_mul hs hk
    show b.length * (k + 2) ≤ 16777216
    (first | lia | omega)
/-- a list beside an empty one -/
theorem eq_nilL {ys : List Value} (N : News h₀ L s.heap news) (ma : (a, listOf ys.toArray n1) ∈ news) (mb : (b, listOf #[] n2) ∈ news) (hu : A.units < cLine) (h : Q (.bool ys.isEmpty) s) : wpAny (model prog w) A (compareOp .Eq (.ref a) (.ref b)) Q E s := by
  have la : s.heap.IsList a ys.toArray := ⟨_, (N _ ma).1, rfl, _, rfl⟩
  have lb : s.heap.IsList b #[] := ⟨_, (N _ mb).1, rfl, _, rfl⟩
  cases ys with
  | nil => exact PySem.EqBoolInt.of_rc (RcAt.lists (e := fun _ => true) la lb rfl hu (fun j h1 _ => absurd h1 (by simp))) (by simpa using h)
  | cons y r => exact PySem.EqBoolInt.of_rc (RcAt.lists_lengths la lb (by simp) hu) h
end
section
variable {prog : Program} {w : World} {A : Around} {E : Value → Shared → Prop} {s : Shared} {h₀ : Heap} {L : Addr} {m : PySem.Str → Option Value} {news : List (Addr × Obj)} {value slice : PySem.Expr} {d : List UInt8} {t tl : Tok} {Q : Value → Shared → Prop}
theorem slice_last1 (hF : Fr h₀ L s.heap m) (hN : News h₀ L s.heap news) (hz : d.length ≤ 16777216)
    (h : ∀ h' t' k, Fr h₀ L h' m → News h₀ L h' news → Q (.bytes (d.drop (d.length - 1)).toArray t') { s with heap := h', toks := k })
    (hs : isSl slice = true := by rfl) :
    wpAny (model prog w) A (subscriptTail value slice (.bytes d.toArray t) (.ref s.heap.objs.size)) Q E { s with heap := s.heap.push { cls := .type "slice", data := .fields #[.int (-1) tl, .none, .none] } } :=
  slice_L hF hN (.int _ _) .none hz (picked_last d 1 (by decide)) h hs
theorem slice_but1 (hF : Fr h₀ L s.heap m) (hN : News h₀ L s.heap news) (hz : d.length ≤ 16777216)
    (h : ∀ h' t' k, Fr h₀ L h' m → News h₀ L h' news → Q (.bytes (d.take (d.length - 1)).toArray t') { s with heap := h', toks := k })
    (hs : isSl slice = true := by rfl) :
    wpAny (model prog w) A (subscriptTail value slice (.bytes d.toArray t) (.ref s.heap.objs.size)) Q E { s with heap := s.heap.push { cls := .type "slice", data := .fields #[.none, .int (-1) tl, .none] } } :=
  slice_L hF hN .none (.int _ _) hz (picked_but d 1 (by decide)) h hs
theorem slice_last2 (hF : Fr h₀ L s.heap m) (hN : News h₀ L s.heap news) (hz : d.length ≤ 16777216)
    (h : ∀ h' t' k, Fr h₀ L h' m → News h₀ L h' news → Q (.bytes (d.drop (d.length - 2)).toArray t') { s with heap := h', toks := k })
    (hs : isSl slice = true := by rfl) :
    wpAny (model prog w) A (subscriptTail value slice (.bytes d.toArray t) (.ref s.heap.objs.size)) Q E { s with heap := s.heap.push { cls := .type "slice", data := .fields #[.int (-2) tl, .none, .none] } } :=
  slice_L hF hN (.int _ _) .none hz (picked_last d 2 (by decide)) h hs
theorem slice_but2 (hF : Fr h₀ L s.heap m) (hN : News h₀ L s.heap news) (hz : d.length ≤ 16777216)
    (h : ∀ h' t' k, Fr h₀ L h' m → News h₀ L h' news → Q (.bytes (d.take (d.length - 2)).toArray t') { s with heap := h', toks := k })
    (hs : isSl slice = true := by rfl) :
    wpAny (model prog w) A (subscriptTail value slice (.bytes d.toArray t) (.ref s.heap.objs.size)) Q E { s with heap := s.heap.push { cls := .type "slice", data := .fields #[.none, .int (-2) tl, .none] } } :=
  slice_L hF hN .none (.int _ _) hz (picked_but d 2 (by decide)) h hs
end

end
/-! S0 -/
section

/-- a line: where its signs end, where the next one begins -/
noncomputable def lineAt (d : List UInt8) (a e : Nat) : Nat × Nat := match findN d 10 a e with
  | none => (e, e)
  | some i => (if a < i ∧ d.getD (i - 1) 0 = 13 then i - 1 else i, i + 1)
section
variable {d : List UInt8} {a e i : Nat}
theorem lineAt_none (h : findN d 10 a e = none) : lineAt d a e = (e, e) := by unfold lineAt; rw [h]
theorem lineAt_cr (h : findN d 10 a e = some i) (h1 : (a : Int) < i) (h2 : ((d.getD (i - 1) 0).toNat : Int) = 13) : lineAt d a e = (i - 1, i + 1) := by
  unfold lineAt
  rw [h]
  dsimp only
  have h4 : d.getD (i - 1) 0 = 13 := UInt8.toNat_inj.mp (by have : (13 : UInt8).toNat = 13 := rfl; (first | lia | omega))
  rw [if_pos ⟨by (first | lia | omega), h4⟩]
theorem lineAt_lf (h : findN d 10 a e = some i) (h1 : ¬ ((a : Int) < i)) : lineAt d a e = (i, i + 1) := by
  unfold lineAt
  rw [h]
  dsimp only
  rw [if_neg (fun h2 => h1 (by (first | lia | omega)))]
theorem lineAt_lf2 (h : findN d 10 a e = some i) (h2 : ¬ (((d.getD (i - 1) 0).toNat : Int) = 13)) : lineAt d a e = (i, i + 1) := by
  unfold lineAt
  rw [h]
  dsimp only
  rw [if_neg (fun h3 => h2 (by rw [h3.2]; rfl))]
end
noncomputable abbrev tup (vs : List Value) : Obj := { cls := .type "tuple", data := .seq vs.toArray }
noncomputable def PairOut (z : Nat × Nat) (tl : List (Addr × Obj)) (r : Value) : Prop := ∃ p t1 t2, r = .ref p ∧ tl = [(p, tup [.int (z.1 : Int) t1, .int (z.2 : Int) t2])]
theorem end_pair {h₀ h' : Heap} {L D : Addr} {m : Str → Option Value} {news : List (Addr × Obj)} {s : Shared} {Q : Value → Shared → Prop} {z : Nat × Nat} {x y : Nat} {t1 t2 tk' : Tok}
    (hret : ∀ r tl h' tk', Fr h₀ L h' m → News h₀ L h' (tl ++ news) → (∀ q ∈ news, ∀ p ∈ tl, q.1 < p.1) → PairOut z tl r → Q r { s with heap := h', toks := tk' })
    (F : Fr h₀ L h' m) (N : News h₀ L h' ((D, tup [.int (x : Int) t1, .int (y : Int) t2]) :: news)) (l : ∀ p ∈ news, p.1 < D) (hz : z = (x, y)) : Q (.ref D) { s with heap := h', toks := tk' } := by
  subst hz
  exact hret _ [_] _ _ F N (fun q hq p hp => by rw [List.mem_singleton.mp hp]; exact l q hq) ⟨D, t1, t2, rfl, rfl⟩

noncomputable def isNameC (c : UInt8) : Bool := !(c.toNat < 33 || c.toNat > 126 || c.toNat == 58)
noncomputable def isName (l : List UInt8) : Bool := l.all isNameC && !l.isEmpty
theorem isName_step {l : List UInt8} {i : Nat} {c : UInt8} (hc : l[i]? = some c) (hP : (l.take i).all isNameC = true) (h1 : ¬ (c.toNat : Int) < 33) (h2 : ¬ (c.toNat : Int) > 126) (h3 : ¬ (c.toNat : Int) = 58) : (l.take (i + 1)).all isNameC = true := by
  rw [List.take_add_one, hc, List.all_append, hP]
  simp only [Option.toList, List.all_cons, List.all_nil, Bool.and_true, Bool.true_and, isNameC, Bool.not_eq_true', Bool.or_eq_false_iff, decide_eq_false_iff_not, beq_eq_false_iff_ne]
  (first | lia | omega)
theorem isName_not {l : List UInt8} {i : Nat} {c : UInt8} (hc : l[i]? = some c) (h : (c.toNat : Int) < 33 ∨ (c.toNat : Int) > 126 ∨ (c.toNat : Int) = 58) : isName l = false := by
  unfold isName
  have hm := List.mem_of_getElem? hc
  have : l.all isNameC = false := by
    rw [List.all_eq_false]
    refine ⟨c, hm, ?_⟩
    simp only [isNameC, Bool.not_eq_true, Bool.not_eq_false', Bool.or_eq_true, decide_eq_true_eq, beq_iff_eq]
    (first | lia | omega)
  rw [this]; rfl
theorem isName_end {l : List UInt8} (hP : (l.take l.length).all isNameC = true) : isName l = decide ((0 : Int) < (l.toArray.size : Int)) := by
  rw [List.take_length] at hP
  unfold isName
  rw [hP, Bool.true_and, List.size_toArray]
  cases l with
  | nil => rfl
  | cons a r => simp
/-- the colon of a field's row -/
noncomputable def colonAt (d : List UInt8) (a e : Nat) : Option Nat := (findN d 58 a e).filter fun i => isName (seg d a i)
noncomputable def natZ : Option Nat → Int
  | some i => i
  | none => -1
theorem colon_none {d : List UInt8} {a e : Nat} (h : findN d 58 a e = none) : (-1 : Int) = natZ (colonAt d a e) := by unfold colonAt; rw [h]; rfl
theorem colon_yes {d : List UInt8} {a e i : Nat} (h : findN d 58 a e = some i) (h2 : isName (seg d a i) = true) : (i : Int) = natZ (colonAt d a e) := by unfold colonAt; rw [h]; simp [Option.filter, h2, natZ]
theorem colon_no {d : List UInt8} {a e i : Nat} (h : findN d 58 a e = some i) (h2 : isName (seg d a i) = false) : (-1 : Int) = natZ (colonAt d a e) := by unfold colonAt; rw [h]; simp [Option.filter, h2, natZ]
noncomputable def lowC (c : Nat) : Nat := if 65 ≤ c ∧ c ≤ 90 then c + 32 else c

end
/-! S1 -/
section

/-- a text as octets -/
noncomputable def oct (x : String) : List UInt8 := x.toList.map fun c => c.toNat.toUInt8
/-- what a row may hold: the ten heads, the twelve lines -/
noncomputable def menu : List (List UInt8) := [oct "Content-Type: multipart/mixed; boundary=a", oct "content-type: Multipart/Digest; boundary=\"b\"", oct "Content-Type: message/rfc822", oct "Content-Type: multipart/alternative", oct "CONTENT-TYPE: image/png",
  oct "Content-Transfer-Encoding: Base64", oct "content-transfer-encoding: 8BIT (as it is)", oct "Content-Transfer-Encoding:", [], oct "Subject: --a",
  oct "--a", oct "--a--", oct "--b", oct "x", oct "--b--\t ", oct "--a \t", oct "--ab", oct "--a--x", oct "-- a", oct "--a -", oct "a"]
/-- every line from here on holds a row of the menu -/
inductive Good (d : List UInt8) (e : Nat) : Nat → Prop
  | stop (a : Nat) : e ≤ a → Good d e a
  | line (a : Nat) : a < e → seg d a (lineAt d a e).1 ∈ menu → Good d e (lineAt d a e).2 → Good d e a
theorem lineAt_le {d : List UInt8} {a e : Nat} (h : a ≤ e) : a ≤ (lineAt d a e).1 ∧ (lineAt d a e).1 ≤ (lineAt d a e).2 ∧ (lineAt d a e).2 ≤ e := by
  unfold lineAt
  cases hf : findN d 10 a e with
  | none => exact ⟨h, Nat.le_refl _, Nat.le_refl _⟩
  | some i =>
    have := findN_some hf
    dsimp only
    split <;> (first | lia | omega)
theorem lineAt_lt {d : List UInt8} {a e : Nat} (h : a < e) : a < (lineAt d a e).2 := by
  unfold lineAt
  cases hf : findN d 10 a e with
  | none => exact h
  | some i =>
    have := findN_some hf
    dsimp only
    (first | lia | omega)
theorem Good.step {d : List UInt8} {e a : Nat} (G : Good d e a) (h : a < e) : seg d a (lineAt d a e).1 ∈ menu ∧ Good d e (lineAt d a e).2 := by
  cases G with
  | stop _ h' => (first | lia | omega)
  | line _ _ h1 h2 => exact ⟨h1, h2⟩
theorem menu_first : ∀ c ∈ menu, ∀ x, c[0]? = some x → x ≠ 32 ∧ x ≠ 9 := by decide +kernel
/-- no row opens with a blank -/
theorem Good.first {d : List UInt8} {e a : Nat} (G : Good d e a) (h : a < e) (he : e ≤ d.length) : d.getD a 0 ≠ 32 ∧ d.getD a 0 ≠ 9 := by
  have hm := (G.step h).1
  have hl := lineAt_le (d := d) (Nat.le_of_lt h)
  have hget : d.getD a 0 = d[a]'(by (first | lia | omega)) := by simp [List.getD_eq_getElem?_getD, show a < d.length by (first | lia | omega)]
  by_cases hc : a < (lineAt d a e).1
  · have h1 : (seg d a (lineAt d a e).1)[0]? = some (d[a]'(by (first | lia | omega))) := by
      rw [seg_get (by (first | lia | omega))]
      simp [show a < d.length by (first | lia | omega)]
    rw [hget]
    exact menu_first _ hm _ h1
  · rw [hget]
    have hx : (lineAt d a e).1 = a := by (first | lia | omega)
    unfold lineAt at hx
    cases hf : findN d 10 a e with
    | none => rw [hf] at hx; dsimp only at hx; (first | lia | omega)
    | some i =>
      rw [hf] at hx
      have hi := findN_some hf
      dsimp only at hx
      split at hx
      · rename_i hcr
        have h13 : i - 1 = a := hx
        rw [h13, hget] at hcr
        rw [hcr.2]
        decide
      · subst hx
        have : d[i]? = some (d[i]'(by (first | lia | omega))) := by simp [show i < d.length by (first | lia | omega)]
        have h10 : d[i]'(by (first | lia | omega)) = 10 := by
          have := hi.2.2.1
          simpa [show i < d.length by (first | lia | omega)] using this
        rw [h10]; decide

theorem Good.first_int {d : List UInt8} {e a : Nat} (G : Good d e a) (he : e ≤ d.length) (h : a < e) : ((d.getD a 0).toNat : Int) ≠ 32 ∧ ((d.getD a 0).toNat : Int) ≠ 9 := by
  have := G.first h he
  constructor
  · intro e'; exact this.1 (UInt8.toNat_inj.mp (by have : (32 : UInt8).toNat = 32 := rfl; (first | lia | omega)))
  · intro e'; exact this.2 (UInt8.toNat_inj.mp (by have : (9 : UInt8).toNat = 9 := rfl; (first | lia | omega)))
noncomputable abbrev FieldD := List UInt8 × List UInt8
/-- the fields of a head, with their places, and where the body begins -/
noncomputable def headRun (d : List UInt8) (e : Nat) : Nat → Nat → List (FieldD × Nat × Nat) × Nat
  | 0, _ => ([], e)
  | n + 1, a => if a < e then
      if (lineAt d a e).1 = a then ([], (lineAt d a e).2)
      else match colonAt d a (lineAt d a e).1 with
        | none => ([], a)
        | some c => (((seg d a c, seg d (c + 1) (lineAt d a e).1), a, (lineAt d a e).2) :: (headRun d e n (lineAt d a e).2).1, (headRun d e n (lineAt d a e).2).2)
    else ([], e)
theorem headRun_more {d : List UInt8} {e : Nat} : ∀ {n k a : Nat}, e - a ≤ n → e - a ≤ k → headRun d e n a = headRun d e k a := by
  intro n
  induction n with
  | zero =>
    intro k a h _
    cases k with
    | zero => rfl
    | succ k => unfold headRun; rw [if_neg (by (first | lia | omega))]
  | succ n ih =>
    intro k a h hk
    cases k with
    | zero => unfold headRun; rw [if_neg (by (first | lia | omega))]
    | succ k =>
      unfold headRun
      by_cases ha : a < e
      · have := lineAt_lt (d := d) ha
        rw [if_pos ha, if_pos ha, ih (k := k) (a := (lineAt d a e).2) (by (first | lia | omega)) (by (first | lia | omega))]
      · rw [if_neg ha, if_neg ha]
/-- the head from a place on -/
noncomputable def headAt (d : List UInt8) (e a : Nat) : List (FieldD × Nat × Nat) × Nat := headRun d e (e - a) a
theorem headAt_end {d : List UInt8} {e a : Nat} (h : e ≤ a) : headAt d e a = ([], e) := by
  unfold headAt
  rw [show e - a = 0 by (first | lia | omega)]; rfl
theorem headAt_blank {d : List UInt8} {e a : Nat} (h : a < e) (h1 : (lineAt d a e).1 = a) : headAt d e a = ([], (lineAt d a e).2) := by
  unfold headAt
  obtain ⟨k, hk⟩ : ∃ k, e - a = k + 1 := ⟨e - a - 1, by (first | lia | omega)⟩
  rw [hk]; unfold headRun; rw [if_pos h, if_pos h1]
theorem headAt_no {d : List UInt8} {e a : Nat} (h : a < e) (h1 : ¬ (lineAt d a e).1 = a) (h2 : colonAt d a (lineAt d a e).1 = none) : headAt d e a = ([], a) := by
  unfold headAt
  obtain ⟨k, hk⟩ : ∃ k, e - a = k + 1 := ⟨e - a - 1, by (first | lia | omega)⟩
  rw [hk]; unfold headRun; rw [if_pos h, if_neg h1, h2]
theorem headAt_field {d : List UInt8} {e a c : Nat} (h : a < e) (h1 : ¬ (lineAt d a e).1 = a) (h2 : colonAt d a (lineAt d a e).1 = some c) :
    headAt d e a = (((seg d a c, seg d (c + 1) (lineAt d a e).1), a, (lineAt d a e).2) :: (headAt d e (lineAt d a e).2).1, (headAt d e (lineAt d a e).2).2) := by
  unfold headAt
  obtain ⟨k, hk⟩ : ∃ k, e - a = k + 1 := ⟨e - a - 1, by (first | lia | omega)⟩
  have := lineAt_lt (d := d) h
  rw [hk]
  rw [headRun_more (n := e - (lineAt d a e).2) (k := k) (a := (lineAt d a e).2) (by (first | lia | omega)) (by (first | lia | omega))]
  conv => lhs; unfold headRun
  rw [if_pos h, if_neg h1, h2]
theorem colonAt_le {d : List UInt8} {a e c : Nat} (h : colonAt d a e = some c) : a ≤ c ∧ c < e := by
  unfold colonAt at h
  rw [Option.filter_eq_some_iff] at h
  have := findN_some h.1
  (first | lia | omega)

end
/-! S2 -/
section
/-- the lines from a place on: begin, end of its signs, next begin -/
noncomputable def spansRun (d : List UInt8) (e : Nat) : Nat → Nat → List (Nat × Nat × Nat)
  | 0, _ => []
  | n + 1, a => if a < e then (a, lineAt d a e) :: spansRun d e n (lineAt d a e).2 else []
theorem spansRun_more {d : List UInt8} {e : Nat} : ∀ {n k a : Nat}, e - a ≤ n → e - a ≤ k → spansRun d e n a = spansRun d e k a := by
  intro n
  induction n with
  | zero =>
    intro k a h _
    cases k with
    | zero => rfl
    | succ k => unfold spansRun; rw [if_neg (by (first | lia | omega))]
  | succ n ih =>
    intro k a h hk
    cases k with
    | zero => unfold spansRun; rw [if_neg (by (first | lia | omega))]
    | succ k =>
      unfold spansRun
      by_cases ha : a < e
      · have := lineAt_lt (d := d) ha
        rw [if_pos ha, if_pos ha, ih (k := k) (a := (lineAt d a e).2) (by (first | lia | omega)) (by (first | lia | omega))]
      · rw [if_neg ha, if_neg ha]
noncomputable def spansAt (d : List UInt8) (e a : Nat) : List (Nat × Nat × Nat) := spansRun d e (e - a) a
theorem spansAt_end {d : List UInt8} {e a : Nat} (h : e ≤ a) : spansAt d e a = [] := by
  unfold spansAt
  rw [show e - a = 0 by (first | lia | omega)]; rfl
theorem spansAt_line {d : List UInt8} {e a : Nat} (h : a < e) : spansAt d e a = (a, lineAt d a e) :: spansAt d e (lineAt d a e).2 := by
  unfold spansAt
  obtain ⟨k, hk⟩ : ∃ k, e - a = k + 1 := ⟨e - a - 1, by (first | lia | omega)⟩
  have := lineAt_lt (d := d) h
  rw [hk, spansRun_more (n := e - (lineAt d a e).2) (k := k) (a := (lineAt d a e).2) (by (first | lia | omega)) (by (first | lia | omega))]
  conv => lhs; unfold spansRun
  rw [if_pos h]

end
/-! C0 -/
section


noncomputable abbrev VP : Program := Mine.H.view_1_42
/-- a call that hands back an immediate value and leaves nothing -/
noncomputable def CtrV (w : World) (f : Addr) (need : Nat) (vs : List Value) (R : Tok → Value) : Prop :=
  ∀ (prog : Program) (dp un : Nat) (gd : Option (List Code)) (cn : Str) (cs : Scope) (a : Addr) (ccd : Value) (cl : List (Str × Addr)) (outer : List Env) (A₀ : Around) (base h₀ : Heap) (L : Addr) (m : Str → Option Value) (news : List (Addr × Obj)) (s : Shared)
    (loose : List Str) (mean : ExcName → Option Value) (mg mb : Str → Option Value) (Q E : Value → Shared → Prop),
    Below A₀ base outer h₀ → Fr h₀ L s.heap m → (Mine.H.heap_1_41 w.params).In h₀ → News h₀ L s.heap news → Top VP loose mean mg mb h₀ → cs.kind = .function → dp + need < recursionLimit → un + 8 * need < cLine →
    (∀ t h' tk', Fr h₀ L h' m → News h₀ L h' news → Q (R t) { s with heap := h', toks := tk' }) →
    wpAny (model prog w) (ktrTop dp un gd cn cs L a ccd cl outer) (call (.ref f) vs) Q E s
/-- a call that makes objects -/
noncomputable def CtrA (w : World) (f : Addr) (need : Nat) (vs : List Value) (news : List (Addr × Obj)) (Out : List (Addr × Obj) → Value → Prop) : Prop :=
  ∀ (prog : Program) (dp un : Nat) (gd : Option (List Code)) (cn : Str) (cs : Scope) (a : Addr) (ccd : Value) (cl : List (Str × Addr)) (outer : List Env) (A₀ : Around) (base h₀ : Heap) (L : Addr) (m : Str → Option Value) (s : Shared)
    (loose : List Str) (mean : ExcName → Option Value) (mg mb : Str → Option Value) (Q E : Value → Shared → Prop),
    Below A₀ base outer h₀ → Fr h₀ L s.heap m → (Mine.H.heap_1_41 w.params).In h₀ → News h₀ L s.heap news → Top VP loose mean mg mb h₀ → cs.kind = .function → dp + need < recursionLimit → un + 8 * need < cLine →
    (∀ r tl h' tk', Fr h₀ L h' m → News h₀ L h' (tl ++ news) → (∀ q ∈ news, ∀ p ∈ tl, q.1 < p.1) → Out tl r → Q r { s with heap := h', toks := tk' }) →
    wpAny (model prog w) (ktrTop dp un gd cn cs L a ccd cl outer) (call (.ref f) vs) Q E s
theorem CtrA.imp {w : World} {f : Addr} {need : Nat} {vs : List Value} {news : List (Addr × Obj)} {Out Out' : List (Addr × Obj) → Value → Prop} (C : CtrA w f need vs news Out) (i : ∀ tl v, Out tl v → Out' tl v) : CtrA w f need vs news Out' := by
  intro prog dp un gd cn cs a ccd cl outer A₀ base h₀ L m s loose mean mg mb Q E B F X N T hk hdp hu hret
  exact C prog dp un gd cn cs a ccd cl outer A₀ base h₀ L m s loose mean mg mb Q E B F X N T hk hdp hu fun r tl h' tk' F' N' l ho => hret r tl h' tk' F' N' l (i tl r ho)
section
variable {prog : Program} {w : World} {f : Addr} {need : Nat} {vs : List Value} {dp un : Nat} {gd : Option (List Code)} {cn : Str} {cs : Scope} {a : Addr} {ccd : Value} {cl : List (Str × Addr)} {outer : List Env} {A₀ : Around} {base h₀ : Heap} {L : Addr} {m : Str → Option Value} {news : List (Addr × Obj)} {s : Shared}
    {loose : List Str} {mean : ExcName → Option Value} {mg mb : Str → Option Value} {Q E : Value → Shared → Prop}
theorem CtrV.use {R : Tok → Value} (C : CtrV w f need vs R)
    (B : Below A₀ base outer h₀) (F : Fr h₀ L s.heap m) (X : (Mine.H.heap_1_41 w.params).In h₀) (N : News h₀ L s.heap news) (T : Top VP loose mean mg mb h₀) (hk : cs.kind = .function) (hdp : dp + need < recursionLimit) (hu : un + 8 * need < cLine)
    (hret : ∀ t h' tk', Fr h₀ L h' m → News h₀ L h' news → Q (R t) { s with heap := h', toks := tk' }) :
    wpAny (model prog w) (ktrTop dp un gd cn cs L a ccd cl outer) (call (.ref f) vs) Q E s := C _ _ _ _ _ _ _ _ _ _ _ _ _ _ _ _ _ _ _ _ _ _ _ B F X N T hk hdp hu hret
theorem CtrA.use {Out : List (Addr × Obj) → Value → Prop} (C : CtrA w f need vs news Out)
    (B : Below A₀ base outer h₀) (F : Fr h₀ L s.heap m) (X : (Mine.H.heap_1_41 w.params).In h₀) (N : News h₀ L s.heap news) (T : Top VP loose mean mg mb h₀) (hk : cs.kind = .function) (hdp : dp + need < recursionLimit) (hu : un + 8 * need < cLine)
    (hret : ∀ r tl h' tk', Fr h₀ L h' m → News h₀ L h' (tl ++ news) → (∀ q ∈ news, ∀ p ∈ tl, q.1 < p.1) → Out tl r → Q r { s with heap := h', toks := tk' }) :
    wpAny (model prog w) (ktrTop dp un gd cn cs L a ccd cl outer) (call (.ref f) vs) Q E s := C _ _ _ _ _ _ _ _ _ _ _ _ _ _ _ _ _ _ _ _ _ _ B F X N T hk hdp hu hret
theorem CtrV.useS {h : Heap} {k : Nat} {R : Tok → Value} (C : CtrV w f need vs R)
    (B : Below A₀ base outer h₀) (F : Fr h₀ L h m) (X : (Mine.H.heap_1_41 w.params).In h₀) (N : News h₀ L h news) (T : Top VP loose mean mg mb h₀) (hk : cs.kind = .function) (hdp : dp + need < recursionLimit) (hu : un + 8 * need < cLine)
    (hret : ∀ t h' tk', Fr h₀ L h' m → News h₀ L h' news → Q (R t) ⟨h', s.gens, s.drawn, tk', s.os⟩) :
    wpAny (model prog w) (ktrTop dp un gd cn cs L a ccd cl outer) (call (.ref f) vs) Q E ⟨h, s.gens, s.drawn, k, s.os⟩ := CtrV.use (s := ⟨h, s.gens, s.drawn, k, s.os⟩) C B F X N T hk hdp hu hret
theorem CtrA.useS {h : Heap} {k : Nat} {Out : List (Addr × Obj) → Value → Prop} (C : CtrA w f need vs news Out)
    (B : Below A₀ base outer h₀) (F : Fr h₀ L h m) (X : (Mine.H.heap_1_41 w.params).In h₀) (N : News h₀ L h news) (T : Top VP loose mean mg mb h₀) (hk : cs.kind = .function) (hdp : dp + need < recursionLimit) (hu : un + 8 * need < cLine)
    (hret : ∀ r tl h' tk', Fr h₀ L h' m → News h₀ L h' (tl ++ news) → (∀ q ∈ news, ∀ p ∈ tl, q.1 < p.1) → Out tl r → Q r ⟨h', s.gens, s.drawn, tk', s.os⟩) :
    wpAny (model prog w) (ktrTop dp un gd cn cs L a ccd cl outer) (call (.ref f) vs) Q E ⟨h, s.gens, s.drawn, k, s.os⟩ := CtrA.use (s := ⟨h, s.gens, s.drawn, k, s.os⟩) C B F X N T hk hdp hu hret
end
section
variable {h₀ h' : Heap} {L : Addr} {m : Str → Option Value} {news : List (Addr × Obj)} {s : Shared} {Q : Value → Shared → Prop} {t : Tok} {tk' : Nat}
theorem end_I {x y : Int} (hret : ∀ t h' tk', Fr h₀ L h' m → News h₀ L h' news → Q (.int x t) { s with heap := h', toks := tk' }) (F : Fr h₀ L h' m) (N : News h₀ L h' news) (e : y = x) : Q (.int y t) { s with heap := h', toks := tk' } := by
  subst e; exact hret _ _ _ F N
theorem end_S {x y : Str} (hret : ∀ t h' tk', Fr h₀ L h' m → News h₀ L h' news → Q (.str x t) { s with heap := h', toks := tk' }) (F : Fr h₀ L h' m) (N : News h₀ L h' news) (e : y = x) : Q (.str y t) { s with heap := h', toks := tk' } := by
  subst e; exact hret _ _ _ F N
theorem end_Y {x y : Array UInt8} (hret : ∀ t h' tk', Fr h₀ L h' m → News h₀ L h' news → Q (.bytes x t) { s with heap := h', toks := tk' }) (F : Fr h₀ L h' m) (N : News h₀ L h' news) (e : y = x) : Q (.bytes y t) { s with heap := h', toks := tk' } := by
  subst e; exact hret _ _ _ F N
theorem end_B {x y : Bool} (hret : ∀ (_ : Tok) h' tk', Fr h₀ L h' m → News h₀ L h' news → Q (.bool x) { s with heap := h', toks := tk' }) (F : Fr h₀ L h' m) (N : News h₀ L h' news) (e : y = x) : Q (.bool y) { s with heap := h', toks := tk' } := by
  subst e; exact hret 0 _ _ F N
end

end
/-! C1 -/
section

theorem line_at_ok (w : World) (d : List UInt8) (t : Tok) (a : Nat) (ta : Tok) (e : Nat) (te : Tok) (hz : d.length ≤ 16777216) (ha : a ≤ e) (he : e ≤ d.length) (news : List (Addr × Obj)) :
   CtrA w 173 1 [.bytes d.toArray t, .int a ta, .int e te] news (PairOut (lineAt d a e)) := by
  have hLoops : True := trivial
  unfold CtrA
  intro prog dp un gd cn cs aF ccd cl outer A₀ base h₀ L m s loose mean mg mb Q E B F X N T hk hdp hu hret
  refine wpAny_call ?_
  k_dflt (refine' code_def (binds := [(Str.ofString "data", .bytes d.toArray t), (Str.ofString "at", .int a ta), (Str.ofString "end", .int e te)]) ?k1 ?k2 ?k3 ?k4 ?k5 ?kA ?kF ?kK ?k6 ?k7 ?k8 ?k9 ?kB ?_ ?c2 ?c3 ?c4 ?c5; (case kA => exact rfl); (case kF => exact rfl); (case kK => assumption); (case k1 => exact B); (case k2 => exact F); (case k3 => exact X); (case k4 => exact N); (case k5 => exact T); (case k6 => k_is); (case k7 => k_is); (case k8 => ktr_room); (case k9 => first | exact BindsTo.of_eq rfl | exact binds_K (Frag.In.keeps X F.keep) rfl (by k_is) rfl rfl rfl); (case c5 => decide); (case kB => exact locs rfl); (case c2 => exact rfl); (case c3 => exact rfl); (case c4 => exact rfl); k_whole; intro g L₁ h₁ FG F₁ N₁ B₁ X₁ T₁; (try dsimp only); (try walk_at "m_fold"))
  replace F₁ : Fr g L₁ h₁ (fun y => List.lookup y [(Str.ofString "end", .int e te), (Str.ofString "at", .int a ta), (Str.ofString "data", .bytes d.toArray t)]) := F₁
  k_steps
  all_goals (first
    | exact end_pair hret (by k_asm) (by k_asm) (by k_asm) (lineAt_none (by assumption))
    | exact end_pair hret (by k_asm) (by k_asm) (by k_asm) (lineAt_cr (by assumption) (by assumption) (by assumption))
    | exact end_pair hret (by k_asm) (by k_asm) (by k_asm) (lineAt_lf (by assumption) (by assumption))
    | exact end_pair hret (by k_asm) (by k_asm) (by k_asm) (lineAt_lf2 (by assumption) (by assumption)))
theorem law_line_ok (w : World) (d : List UInt8) (t : Tok) (a : Nat) (ta : Tok) (e : Nat) (te : Tok) (hz : d.length ≤ 16777216) (ha : a ≤ e) (he : e ≤ d.length) (news : List (Addr × Obj)) :
   CtrA w 646 1 [.bytes d.toArray t, .int a ta, .int e te] news (PairOut (lineAt d a e)) := by
  have hLoops : True := trivial
  unfold CtrA
  intro prog dp un gd cn cs aF ccd cl outer A₀ base h₀ L m s loose mean mg mb Q E B F X N T hk hdp hu hret
  refine wpAny_call ?_
  k_dflt (refine' code_def (binds := [(Str.ofString "data", .bytes d.toArray t), (Str.ofString "at", .int a ta), (Str.ofString "end", .int e te)]) ?k1 ?k2 ?k3 ?k4 ?k5 ?kA ?kF ?kK ?k6 ?k7 ?k8 ?k9 ?kB ?_ ?c2 ?c3 ?c4 ?c5; (case kA => exact rfl); (case kF => exact rfl); (case kK => assumption); (case k1 => exact B); (case k2 => exact F); (case k3 => exact X); (case k4 => exact N); (case k5 => exact T); (case k6 => k_is); (case k7 => k_is); (case k8 => ktr_room); (case k9 => first | exact BindsTo.of_eq rfl | exact binds_K (Frag.In.keeps X F.keep) rfl (by k_is) rfl rfl rfl); (case c5 => decide); (case kB => exact locs rfl); (case c2 => exact rfl); (case c3 => exact rfl); (case c4 => exact rfl); k_whole; intro g L₁ h₁ FG F₁ N₁ B₁ X₁ T₁; (try dsimp only); (try walk_at "m_fold"))
  replace F₁ : Fr g L₁ h₁ (fun y => List.lookup y [(Str.ofString "end", .int e te), (Str.ofString "at", .int a ta), (Str.ofString "data", .bytes d.toArray t)]) := F₁
  k_steps
  all_goals (first
    | exact end_pair hret (by k_asm) (by k_asm) (by k_asm) (lineAt_none (by assumption))
    | exact end_pair hret (by k_asm) (by k_asm) (by k_asm) (lineAt_cr (by assumption) (by assumption) (by assumption))
    | exact end_pair hret (by k_asm) (by k_asm) (by k_asm) (lineAt_lf (by assumption) (by assumption))
    | exact end_pair hret (by k_asm) (by k_asm) (by k_asm) (lineAt_lf2 (by assumption) (by assumption)))
theorem is_name_ok (w : World) (l : List UInt8) (t : Tok) (hz : l.length ≤ 16777216) : CtrV w 180 1 [.bytes l.toArray t] (fun _ => .bool (isName l)) := by
  have hLoops : True := trivial
  unfold CtrV
  intro prog dp un gd cn cs aF ccd cl outer A₀ base h₀ L m news s loose mean mg mb Q E B F X N T hk hdp hu hret
  refine wpAny_call ?_
  k_dflt (refine' code_def (binds := [(Str.ofString "octets", .bytes l.toArray t)]) ?k1 ?k2 ?k3 ?k4 ?k5 ?kA ?kF ?kK ?k6 ?k7 ?k8 ?k9 ?kB ?_ ?c2 ?c3 ?c4 ?c5; (case kA => exact rfl); (case kF => exact rfl); (case kK => assumption); (case k1 => exact B); (case k2 => exact F); (case k3 => exact X); (case k4 => exact N); (case k5 => exact T); (case k6 => k_is); (case k7 => k_is); (case k8 => ktr_room); (case k9 => first | exact BindsTo.of_eq rfl | exact binds_K (Frag.In.keeps X F.keep) rfl (by k_is) rfl rfl rfl); (case c5 => decide); (case kB => exact locs rfl); (case c2 => exact rfl); (case c3 => exact rfl); (case c4 => exact rfl); k_whole; intro g L₁ h₁ FG F₁ N₁ B₁ X₁ T₁; (try dsimp only); (try walk_at "m_fold"))
  replace F₁ : Fr g L₁ h₁ (fun y => List.lookup y [(Str.ofString "octets", .bytes l.toArray t)]) := F₁
  k_steps
  unfold Stop
  refine for_bytes_st (σ := Unit) (fun _ => news) (fun _ => []) [] (fun i _ => (l.take i).all isNameC = true) () rfl (by k_asm) (by k_asm) allp_nil rfl ?_ ?_
  · intro i c c₁ u₁ u I oI h tk hc hP off F₂ N₂
    k_steps
    all_goals (first
      | exact ForPostS.next () (by k_asm) (by k_asm) (fun _ hp => hp) off (by walk_at "m_frok") (isName_step hc hP (by (first | lia | omega)) (by (first | lia | omega)) (by (first | lia | omega)))
      | (rw [isName_not hc (by (first | lia | omega))] at hret; exact hret 0 _ _ (by k_asm) (by walk_at "m_news")))
  · intro c₁ u h tk hP F₂ N₂
    k_steps
    rw [isName_end hP] at hret
    exact hret 0 _ _ (by k_asm) (by k_asm)

end
/-! C2 -/
section
theorem reg_1 : True := by
  k_with "my call ref" => (((fail_if_success (fail_if_success (have z9 := hsC2))); ((k_here; (with_reducible show wpAny _ _ (call (Value.ref 180) _) _ _ _); (try walk_at "m_fold"); k_dflt (refine' CtrV.useS ?k0ₘ ?k1ₘ ?k2ₘ ?k3ₘ ?k4ₘ ?k5ₘ ?kKₘ ?kdₘ ?kuₘ ?_; (case k1ₘ => k_asm); (case k2ₘ => k_asm); (case k3ₘ => k_asm); (case k4ₘ => k_asm); (case k5ₘ => k_asm); (case k0ₘ => exact (is_name_ok _ _ _ (by walk_at "m_om"))); (case kKₘ => first | exact rfl | assumption); (case kdₘ => ktr_room); (case kuₘ => ktr_units); k_whole); intro _ _ _ _ _; (try k_unfold); (try dsimp only); (try walk_at "m_fold")))))
  trivial
theorem colon_in_ok (w : World) (d : List UInt8) (t : Tok) (a : Nat) (ta : Tok) (e : Nat) (te : Tok) (hz : d.length ≤ 16777216) (ha : a ≤ e) (he : e ≤ d.length) : CtrV w 187 2 [.bytes d.toArray t, .int a ta, .int e te] (fun t => .int (natZ (colonAt d a e)) t) := by
  have hsC2 : True := trivial
  unfold CtrV
  intro prog dp un gd cn cs aF ccd cl outer A₀ base h₀ L m news s loose mean mg mb Q E B F X N T hk hdp hu hret
  refine wpAny_call ?_
  k_dflt (refine' code_def (binds := [(Str.ofString "data", .bytes d.toArray t), (Str.ofString "at", .int a ta), (Str.ofString "end", .int e te)]) ?k1 ?k2 ?k3 ?k4 ?k5 ?kA ?kF ?kK ?k6 ?k7 ?k8 ?k9 ?kB ?_ ?c2 ?c3 ?c4 ?c5; (case kA => exact rfl); (case kF => exact rfl); (case kK => assumption); (case k1 => exact B); (case k2 => exact F); (case k3 => exact X); (case k4 => exact N); (case k5 => exact T); (case k6 => k_is); (case k7 => k_is); (case k8 => ktr_room); (case k9 => first | exact BindsTo.of_eq rfl | exact binds_K (Frag.In.keeps X F.keep) rfl (by k_is) rfl rfl rfl); (case c5 => decide); (case kB => exact locs rfl); (case c2 => exact rfl); (case c3 => exact rfl); (case c4 => exact rfl); k_whole; intro g L₁ h₁ FG F₁ N₁ B₁ X₁ T₁; (try dsimp only); (try walk_at "m_fold"))
  replace F₁ : Fr g L₁ h₁ (fun y => List.lookup y [(Str.ofString "end", .int e te), (Str.ofString "at", .int a ta), (Str.ofString "data", .bytes d.toArray t)]) := F₁
  k_steps
  all_goals (first | exact end_I hret (by k_asm) (by walk_at "m_news") (by exact colon_none (by assumption)) | exact end_I hret (by k_asm) (by walk_at "m_news") (by exact colon_yes (by assumption) (by assumption)) | exact end_I hret (by k_asm) (by walk_at "m_news") (by exact colon_no (by assumption) (by assumption)))
theorem lower_code_ok (w : World) (c : Nat) (t : Tok) : CtrV w 114 1 [.int c t] (fun t => .int (lowC c : Nat) t) := by
  have hsC2 : True := trivial
  unfold CtrV
  intro prog dp un gd cn cs aF ccd cl outer A₀ base h₀ L m news s loose mean mg mb Q E B F X N T hk hdp hu hret
  refine wpAny_call ?_
  k_dflt (refine' code_def (binds := [(Str.ofString "code", .int c t)]) ?k1 ?k2 ?k3 ?k4 ?k5 ?kA ?kF ?kK ?k6 ?k7 ?k8 ?k9 ?kB ?_ ?c2 ?c3 ?c4 ?c5; (case kA => exact rfl); (case kF => exact rfl); (case kK => assumption); (case k1 => exact B); (case k2 => exact F); (case k3 => exact X); (case k4 => exact N); (case k5 => exact T); (case k6 => k_is); (case k7 => k_is); (case k8 => ktr_room); (case k9 => first | exact BindsTo.of_eq rfl | exact binds_K (Frag.In.keeps X F.keep) rfl (by k_is) rfl rfl rfl); (case c5 => decide); (case kB => exact locs rfl); (case c2 => exact rfl); (case c3 => exact rfl); (case c4 => exact rfl); k_whole; intro g L₁ h₁ FG F₁ N₁ B₁ X₁ T₁; (try dsimp only); (try walk_at "m_fold"))
  replace F₁ : Fr g L₁ h₁ (fun y => List.lookup y [(Str.ofString "code", .int c t)]) := F₁
  k_steps
  all_goals (first | exact end_I hret (by k_asm) (by walk_at "m_news") (by unfold lowC; split <;> (first | lia | omega)))

end
/-! C3 -/
section
noncomputable def FieldIn (P : Params) (led : List (Addr × Obj)) (f : Addr) (x : FieldD) : Prop := ∃ dx t1 t2 t3 t4, (f, instObj 162 dx) ∈ led ∧
  (dx, dictOf [⟨PyData.keyHash P "name", .str "name" t1, .bytes x.1.toArray t2⟩, ⟨PyData.keyHash P "raw", .str "raw" t3, .bytes x.2.toArray t4⟩] 2) ∈ led
theorem field_ok (w : World) (n r : List UInt8) (tn tr : Tok) (news : List (Addr × Obj)) :
   CtrA w 162 3 [.bytes n.toArray tn, .bytes r.toArray tr] news (fun tl v => ∃ f dx t1 t3, v = .ref f ∧ tl = [(f, instObj 162 dx), (dx, dictOf [⟨PyData.keyHash w.params "name", .str "name" t1, .bytes n.toArray tn⟩, ⟨PyData.keyHash w.params "raw", .str "raw" t3, .bytes r.toArray tr⟩] 2)]) := by
  have hsC3 : True := trivial
  unfold CtrA
  intro prog dp un gd cn cs aF ccd cl outer A₀ base h₀ L m s loose mean mg mb Q E B F X N T hk hdp hu hret
  k_dflt (refine' call_cls ?k1 ?k2 ?k3 ?k4 ?k5 ?k6 ?_; (case k1 => exact F); (case k2 => exact X); (case k3 => exact N); (case k4 => k_is); (case k5 => k_is); (case k6 => k_is); intro x dx hx₁ Fx Nx l1 l2)
  replace l1 := allLt_of l1
  replace l2 := ltN l2
  k_dflt (refine' code_def (s := ⟨hx₁, s.gens, s.drawn, s.toks, s.os⟩) (binds := [(Str.ofString "self", .ref x), (Str.ofString "name", .bytes n.toArray tn), (Str.ofString "raw", .bytes r.toArray tr)]) ?k1 ?k2 ?k3 ?k4 ?k5 ?kA ?kF ?kK ?k6 ?k7 ?k8 ?k9 ?kB ?_ ?c2 ?c3 ?c4 ?c5; (case kA => exact rfl); (case kF => exact rfl); (case kK => assumption); (case k1 => exact B); (case k2 => exact Fx); (case k3 => exact X); (case k4 => exact Nx); (case k5 => exact T); (case k6 => k_is); (case k7 => k_is); (case k8 => ktr_room); (case k9 => first | exact BindsTo.of_eq rfl | exact binds_K (Frag.In.keeps X Fx.keep) rfl (by k_is) rfl rfl rfl); (case c5 => decide); (case kB => exact locs rfl); (case c2 => exact rfl); (case c3 => exact rfl); (case c4 => exact rfl); k_whole; intro g L₁ h₁ FG F₁ N₁ B₁ X₁ T₁; (try dsimp only); (try walk_at "m_fold"))
  replace F₁ : Fr g L₁ h₁ (fun y => List.lookup y [(Str.ofString "raw", .bytes r.toArray tr), (Str.ofString "name", .bytes n.toArray tn), (Str.ofString "self", .ref x)]) := F₁
  k_steps
  exact hret _ [(x, _), (dx, _)] _ _ (by k_asm) (by k_asm) (ord_cons (allLt_of fun q hq => Nat.lt_trans (allLt_mem l1 q hq) l2) (ord_cons l1 ord_nil)) ⟨x, dx, _, _, rfl, rfl⟩
theorem reg_2 : True := by
  k_with "my call ref" => (((fail_if_success (fail_if_success (have z9 := hsC3))); ((k_here; (with_reducible show wpAny _ _ (call (Value.ref 173) _) _ _ _); (try walk_at "m_fold"); k_dflt (refine' CtrA.useS ?k0ₘ ?k1ₘ ?k2ₘ ?k3ₘ ?k4ₘ ?k5ₘ ?kKₘ ?kdₘ ?kuₘ ?_; (case k1ₘ => k_asm); (case k2ₘ => k_asm); (case k3ₘ => k_asm); (case k4ₘ => k_asm); (case k5ₘ => k_asm); (case k0ₘ => exact (line_at_ok _ _ _ _ _ _ _ (by walk_at "m_om") (by walk_at "m_om") (by walk_at "m_om") _)); (case kKₘ => first | exact rfl | assumption); (case kdₘ => ktr_room); (case kuₘ => ktr_units); k_whole); intro r9ₘ tl9ₘ h9ₘ tk9ₘ F9ₘ N9ₘ hl9ₘ ho9ₘ; (refine Mine.ex_3_2 (ho9ₘ) ?_; (try clear ho9ₘ); intro p9ₘ t8ₘ t9ₘ e8ₘ e9ₘ); subst e8ₘ; subst e9ₘ; replace hl9ₘ := Mine.lt_one hl9ₘ; (try simp only [AllLt, and_true] at hl9ₘ); (try simp only [List.cons_append, List.nil_append] at N9ₘ); (try k_sweep); (try k_unfold); (try dsimp only); (try walk_at "m_fold")))))
  trivial
theorem colon_in_some (w : World) (d : List UInt8) (t : Tok) (a : Nat) (ta : Tok) (e : Nat) (te : Tok) {c : Nat} (hc : colonAt d a e = some c) (hz : d.length ≤ 16777216) (ha : a ≤ e) (he : e ≤ d.length) : CtrV w 187 2 [.bytes d.toArray t, .int a ta, .int e te] (fun t => .int (c : Int) t) := by
  have := colon_in_ok w d t a ta e te hz ha he
  rw [hc] at this
  exact this
theorem colon_in_none (w : World) (d : List UInt8) (t : Tok) (a : Nat) (ta : Tok) (e : Nat) (te : Tok) (hc : colonAt d a e = none) (hz : d.length ≤ 16777216) (ha : a ≤ e) (he : e ≤ d.length) : CtrV w 187 2 [.bytes d.toArray t, .int a ta, .int e te] (fun t => .int (-1) t) := by
  have := colon_in_ok w d t a ta e te hz ha he
  rw [hc] at this
  exact this
theorem reg_3 : True := by
  k_with "my call ref" => (((fail_if_success (fail_if_success (have z9 := hsC3))); ((k_here; (with_reducible show wpAny _ _ (call (Value.ref 187) _) _ _ _); (try walk_at "m_fold"); k_dflt (refine' CtrV.useS ?k0ₘ ?k1ₘ ?k2ₘ ?k3ₘ ?k4ₘ ?k5ₘ ?kKₘ ?kdₘ ?kuₘ ?_; (case k1ₘ => k_asm); (case k2ₘ => k_asm); (case k3ₘ => k_asm); (case k4ₘ => k_asm); (case k5ₘ => k_asm); (case k0ₘ => exact (colon_in_some _ _ _ _ _ _ _ (by assumption) (by walk_at "m_om") (by walk_at "m_om") (by walk_at "m_om"))); (case kKₘ => first | exact rfl | assumption); (case kdₘ => ktr_room); (case kuₘ => ktr_units); k_whole); intro _ _ _ _ _; (try k_unfold); (try dsimp only); (try walk_at "m_fold")))))
  k_with "my call ref" => (((fail_if_success (fail_if_success (have z9 := hsC3))); ((k_here; (with_reducible show wpAny _ _ (call (Value.ref 187) _) _ _ _); (try walk_at "m_fold"); k_dflt (refine' CtrV.useS ?k0ₘ ?k1ₘ ?k2ₘ ?k3ₘ ?k4ₘ ?k5ₘ ?kKₘ ?kdₘ ?kuₘ ?_; (case k1ₘ => k_asm); (case k2ₘ => k_asm); (case k3ₘ => k_asm); (case k4ₘ => k_asm); (case k5ₘ => k_asm); (case k0ₘ => exact (colon_in_none _ _ _ _ _ _ _ (by assumption) (by walk_at "m_om") (by walk_at "m_om") (by walk_at "m_om"))); (case kKₘ => first | exact rfl | assumption); (case kdₘ => ktr_room); (case kuₘ => ktr_units); k_whole); intro _ _ _ _ _; (try k_unfold); (try dsimp only); (try walk_at "m_fold")))))
  k_with "my call ref" => (((fail_if_success (fail_if_success (have z9 := hsC3))); ((k_here; (with_reducible show wpAny _ _ (call (Value.ref 162) _) _ _ _); (try walk_at "m_fold"); k_dflt (refine' CtrA.useS ?k0ₘ ?k1ₘ ?k2ₘ ?k3ₘ ?k4ₘ ?k5ₘ ?kKₘ ?kdₘ ?kuₘ ?_; (case k1ₘ => k_asm); (case k2ₘ => k_asm); (case k3ₘ => k_asm); (case k4ₘ => k_asm); (case k5ₘ => k_asm); (case k0ₘ => exact (field_ok _ _ _ _ _ _)); (case kKₘ => first | exact rfl | assumption); (case kdₘ => ktr_room); (case kuₘ => ktr_units); k_whole); intro r9ₘ tl9ₘ h9ₘ tk9ₘ F9ₘ N9ₘ hl9ₘ ho9ₘ; (refine Mine.ex_4_2 (ho9ₘ) ?_; (try clear ho9ₘ); intro p9ₘ q9ₘ t8ₘ t9ₘ e8ₘ e9ₘ); subst e8ₘ; subst e9ₘ; replace hl9ₘ := Mine.lt_two hl9ₘ; (try simp only [AllLt, and_true] at hl9ₘ); (try simp only [List.cons_append, List.nil_append] at N9ₘ); (try k_sweep); (try k_unfold); (try dsimp only); (try walk_at "m_fold")))))
  trivial
noncomputable def RowIn (P : Params) (led : List (Addr × Obj)) (v : Value) (x : FieldD × Nat × Nat) : Prop := ∃ p f t1 t2, v = .ref p ∧ (p, tup [.ref f, .int (x.2.1 : Int) t1, .int (x.2.2 : Int) t2]) ∈ led ∧ FieldIn P led f x.1
theorem FieldIn.mono {P : Params} {led led' : List (Addr × Obj)} {f : Addr} {x : FieldD} (h : FieldIn P led f x) (s : ∀ p ∈ led, p ∈ led') : FieldIn P led' f x := by
  (refine Mine.ex_5_2 (h) ?_; (try clear h); intro dx t1 t2 t3 t4 a b)
  exact ⟨dx, t1, t2, t3, t4, s _ a, s _ b⟩
theorem RowIn.mono {P : Params} {led led' : List (Addr × Obj)} {v : Value} {x : FieldD × Nat × Nat} (h : RowIn P led v x) (s : ∀ p ∈ led, p ∈ led') : RowIn P led' v x := by
  (refine Mine.ex_4_3 (h) ?_; (try clear h); intro p f t1 t2 e a b)
  exact ⟨p, f, t1, t2, e, s _ a, b.mono s⟩
noncomputable def RowsOut (P : Params) (z : List (FieldD × Nat × Nat) × Nat) (tl : List (Addr × Obj)) (r : Value) : Prop := ∃ p D ys n t, r = .ref p ∧ (p, tup [.ref D, .int (z.2 : Int) t]) ∈ tl ∧ (D, listOf (List.toArray ys) n) ∈ tl ∧ Two (RowIn P tl) ys z.1
theorem sub_all {l : List (Addr × Obj)} : ∀ p ∈ l, p ∈ l := fun _ h => h
theorem sub_skip {a b : Addr × Obj} {l : List (Addr × Obj)} : ∀ p ∈ a :: l, p ∈ a :: b :: l := fun p hp => by
  rcases List.mem_cons.mp hp with rfl | hp
  · exact .head _
  · exact .tail _ (.tail _ hp)
theorem end_rows {P : Params} {h₀ h' : Heap} {L D D' : Addr} {m : Str → Option Value} {news all tl : List (Addr × Obj)} {s : Shared} {Q : Value → Shared → Prop} {z : List (FieldD × Nat × Nat) × Nat} {ys : List Value} {n y : Nat} {t tk' : Tok}
    (hret : ∀ r tl h' tk', Fr h₀ L h' m → News h₀ L h' (tl ++ news) → (∀ q ∈ news, ∀ p ∈ tl, q.1 < p.1) → RowsOut P z tl r → Q r { s with heap := h', toks := tk' })
    (F : Fr h₀ L h' m) (N : News h₀ L h' all) (sub : ∀ p ∈ (D', tup [.ref D, .int (y : Int) t]) :: (D, listOf ys.toArray n) :: (tl ++ news), p ∈ all) (l1 : AllLt D' (tl ++ news)) (hord : ∀ q ∈ news, ∀ p ∈ (D, listOf ys.toArray n) :: tl, q.1 < p.1)
    {done : List (FieldD × Nat × Nat)} {zh : List (FieldD × Nat × Nat) × Nat} (hz : z = (done ++ zh.1, zh.2)) (hzh : zh = ([], y)) (htwo : Two (RowIn P tl) ys done) : Q (.ref D') { s with heap := h', toks := tk' } := by
  subst hzh
  subst hz
  refine hret _ ((D', tup [.ref D, .int (y : Int) t]) :: (D, listOf ys.toArray n) :: tl) _ _ F (fun p hp => N p (sub p hp)) (ord_cons (allLt_right l1) hord) ⟨D', D, ys, n, t, rfl, .head _, .tail _ (.head _), ?_⟩
  rw [List.append_nil]
  exact htwo.mono fun _ _ h => h.mono fun _ hp => .tail _ (.tail _ hp)
structure RS where
  done : List (FieldD × Nat × Nat)
  ys : List Value
  n : Nat
  tl : List (Addr × Obj)
  here : Nat
  th : Tok
noncomputable abbrev rsLed (D : Addr) (news : List (Addr × Obj)) (c : RS) : List (Addr × Obj) := (D, listOf c.ys.toArray c.n) :: (c.tl ++ news)
noncomputable abbrev rsPs (c : RS) : List (Str × Value) := [(Str.ofString "here", .int (c.here : Int) c.th)]
noncomputable abbrev rsP (P : Params) (d : List UInt8) (e a : Nat) (D : Addr) (news : List (Addr × Obj)) (c : RS) : Prop := c.here ≤ e ∧ Good d e c.here ∧ headAt d e a = (c.done ++ (headAt d e c.here).1, (headAt d e c.here).2) ∧ Two (RowIn P c.tl) c.ys c.done ∧ (∀ p ∈ c.tl ++ news, p.1 ≠ D) ∧ (∀ q ∈ news, ∀ p ∈ (D, listOf c.ys.toArray c.n) :: c.tl, q.1 < p.1) ∧ c.ys.length ≤ c.here
theorem step_rows {P : Params} {g h' : Heap} {L D D' p q p1 : Addr} {m' m₀ : Str → Option Value} {news tl : List (Addr × Obj)} {s₁ : Shared} {Q : Flow → Shared → Prop} {xs : List Str} {tk' : Nat} {d : List UInt8} {e a here c n : Nat} {th t9 t1 t2 t3 t4 : Tok} {o1 : Obj} {ys : List Value} {done : List (FieldD × Nat × Nat)}
    (F : Fr g L h' m') (N : News g L h' ((D', tup [.ref p, .int (here : Int) th, .int ((lineAt d here e).2 : Int) t9]) :: (p, instObj 162 q) :: (q, dictOf [⟨PyData.keyHash P "name", .str "name" t1, .bytes (seg d here c).toArray t2⟩, ⟨PyData.keyHash P "raw", .str "raw" t3, .bytes (seg d (c + 1) (lineAt d here e).1).toArray t4⟩] 2) ::
      (p1, o1) :: (D, listOf (ys.toArray.push (.ref D')) (n + 1)) :: (tl ++ news)))
    (hl : (p1 < p ∧ D < p ∧ AllLt p (tl ++ news)) ∧ p1 < q ∧ D < q ∧ AllLt q (tl ++ news)) (l1 : p < D' ∧ q < D' ∧ p1 < D' ∧ D < D' ∧ AllLt D' (tl ++ news))
    (k : FrOk xs [(Str.ofString "here", .int ((lineAt d here e).2 : Int) t9)] m₀ m') (hlt : here < e) (hx : ¬ (lineAt d here e).1 = here) (hc : colonAt d here (lineAt d here e).1 = some c)
    (hi : rsP P d e a D news ⟨done, ys, n, tl, here, th⟩) :
    WhPost g L (rsLed D news) rsPs xs m₀ (rsP P d e a D news) (fun c => e - c.here) (e - here) s₁ Q .next { s₁ with heap := h', toks := tk' } := by
  (refine Mine.ex_0_7 (hi) ?_; (try clear hi); intro hhe Gh hhead htwo hoff hord hys)
  dsimp only at hhe Gh hhead htwo hoff hord hys
  have hlt2 := lineAt_lt (d := d) hlt
  have hle2 := lineAt_le (d := d) hhe
  have hD : ∀ x : Addr, x < D' → x ≠ D' := fun x h => Nat.ne_of_lt h
  rw [List.push_toArray] at N
  have inc : ∀ x ∈ tl, x ∈ (D', tup [.ref p, .int (here : Int) th, .int ((lineAt d here e).2 : Int) t9]) :: (p, instObj 162 q) :: (q, dictOf [⟨PyData.keyHash P "name", .str "name" t1, .bytes (seg d here c).toArray t2⟩, ⟨PyData.keyHash P "raw", .str "raw" t3, .bytes (seg d (c + 1) (lineAt d here e).1).toArray t4⟩] 2) :: tl := fun x hx => .tail _ (.tail _ (.tail _ hx))
  refine WhPost.next ⟨done ++ [((seg d here c, seg d (c + 1) (lineAt d here e).1), here, (lineAt d here e).2)], ys ++ [.ref D'], n + 1, (D', tup [.ref p, .int (here : Int) th, .int ((lineAt d here e).2 : Int) t9]) :: (p, instObj 162 q) :: (q, dictOf [⟨PyData.keyHash P "name", .str "name" t1, .bytes (seg d here c).toArray t2⟩, ⟨PyData.keyHash P "raw", .str "raw" t3, .bytes (seg d (c + 1) (lineAt d here e).1).toArray t4⟩] 2) :: tl, (lineAt d here e).2, t9⟩ F N ?_ k ⟨hle2.2.2, (Gh.step hlt).2, ?_, ?_, ?_, ?_, ?_⟩ ?_
  · intro x hx
    dsimp only [rsLed] at hx
    simp only [List.cons_append, List.mem_cons, List.mem_append] at hx ⊢
    rcases hx with h | h | h | h | h | h <;> simp [h]
  · dsimp only
    rw [hhead, headAt_field hlt hx hc]
    simp
  · exact (htwo.mono fun _ _ h => h.mono inc).snoc ⟨D', p, th, t9, rfl, .head _, q, t1, t2, t3, t4, .tail _ (.head _), .tail _ (.tail _ (.head _))⟩
  · dsimp only [List.cons_append]
    refine off_cons (Nat.ne_of_gt l1.2.2.2.1) (off_cons (Nat.ne_of_gt hl.1.2.1) (off_cons (Nat.ne_of_gt hl.2.2.1) hoff))
  · dsimp only
    refine ord_cons (allLt_of fun x hx => hord x hx _ (.head _)) (ord_cons (allLt_right l1.2.2.2.2) (ord_cons (allLt_right hl.1.2.2) (ord_cons (allLt_right hl.2.2.2) fun x hx y hy => hord x hx y (.tail _ hy))))
  · dsimp only
    rw [List.length_append]
    simp only [List.length_cons, List.length_nil]
    (first | lia | omega)
  · dsimp only
    (first | lia | omega)
theorem read_spans_ok (w : World) (d : List UInt8) (t : Tok) (a : Nat) (ta : Tok) (e : Nat) (te : Tok) (hz : d.length ≤ 16777216) (ha : a ≤ e) (he : e ≤ d.length) (G : Good d e a) (news : List (Addr × Obj)) :
   CtrA w 195 5 [.bytes d.toArray t, .int a ta, .int e te] news (RowsOut w.params (headAt d e a)) := by
  have hsC3 : True := trivial
  unfold CtrA
  intro prog dp un gd cn cs aF ccd cl outer A₀ base h₀ L m s loose mean mg mb Q E B F X N T hk hdp hu hret
  refine wpAny_call ?_
  k_dflt (refine' code_def (binds := [(Str.ofString "data", .bytes d.toArray t), (Str.ofString "at", .int a ta), (Str.ofString "end", .int e te)]) ?k1 ?k2 ?k3 ?k4 ?k5 ?kA ?kF ?kK ?k6 ?k7 ?k8 ?k9 ?kB ?_ ?c2 ?c3 ?c4 ?c5; (case kA => exact rfl); (case kF => exact rfl); (case kK => assumption); (case k1 => exact B); (case k2 => exact F); (case k3 => exact X); (case k4 => exact N); (case k5 => exact T); (case k6 => k_is); (case k7 => k_is); (case k8 => ktr_room); (case k9 => first | exact BindsTo.of_eq rfl | exact binds_K (Frag.In.keeps X F.keep) rfl (by k_is) rfl rfl rfl); (case c5 => decide); (case kB => exact locs rfl); (case c2 => exact rfl); (case c3 => exact rfl); (case c4 => exact rfl); k_whole; intro g L₁ h₁ FG F₁ N₁ B₁ X₁ T₁; (try dsimp only); (try walk_at "m_fold"))
  replace F₁ : Fr g L₁ h₁ (fun y => List.lookup y [(Str.ofString "end", .int e te), (Str.ofString "at", .int a ta), (Str.ofString "data", .bytes d.toArray t)]) := F₁
  k_steps
  unfold Stop
  rename News _ _ _ _ => Nw
  rename_i D _ l1 _ _ _ Fw _
  refine while_st (σ := RS) (rsLed D news) rsPs [Str.ofString "last", Str.ofString "later", Str.ofString "colon"] (rsP w.params d e a D news)
    (fun c => e - c.here) ⟨[], [], 0, [], a, ta⟩ Fw Nw (by walk_at "m_all") ⟨ha, G, rfl, .nil, fun p hp => Nat.ne_of_lt (l1 p hp), ord_cons (allLt_of l1) ord_nil, Nat.zero_le _⟩ ?_
  clear Fw Nw
  rintro ⟨done, ys, n, tl, here, th⟩ u h tk hi F₂ N₂
  have hhe := hi.1
  have Gh := hi.2.1
  have hhead := hi.2.2.1
  have htwo := hi.2.2.2.1
  have hoff := hi.2.2.2.2.1
  have hord := hi.2.2.2.2.2.1
  have hys := hi.2.2.2.2.2.2
  dsimp only [rsLed, rsPs] at hhe Gh hhead htwo hoff hord hys F₂ N₂ ⊢
  dsimp only [frB, kstB] at F₂
  have hl := lineAt_le (d := d) hhe
  k_steps
  · exact end_rows hret (by k_asm) (by k_asm) sub_skip (And.right (And.right (by assumption))) hord hhead (headAt_blank (by (first | lia | omega)) (by (first | lia | omega))) htwo
  · cases hc : colonAt d here (lineAt d here e).1 with
    | none =>
      k_steps
      exact end_rows hret (by k_asm) (by k_asm) sub_skip (And.right (And.right (by assumption))) hord hhead (headAt_no (by (first | lia | omega)) (by (first | lia | omega)) hc) htwo
    | some c =>
      have hcl := colonAt_le hc
      k_steps
      unfold Stop
      rename Fr _ _ _ _ => Fw
      rename News _ _ _ _ => Nw
      have hhe2 : here < e := by (first | lia | omega)
      have Gh2 := (Gh.step hhe2).2
      refine while_none Fw Nw ?_
      clear Fw Nw
      intro h3 tk3 F3 N3
      have hfi := Gh2.first_int he
      k_steps
      all_goals exact step_rows (by k_asm) (by k_asm) (by assumption) (by assumption) (by walk_at "m_frok") hhe2 (by (first | lia | omega)) hc hi
  · exact end_rows hret (by k_asm) (by k_asm) sub_all (And.right (by assumption)) hord hhead (headAt_end (by (first | lia | omega))) htwo

end
/-! C4 -/
section
open PySem.Spec PyProof.Rows.LCg
/-- a call that makes objects, told apart only -/
noncomputable def CtrN (w : World) (f : Addr) (need : Nat) (vs : List Value) (news : List (Addr × Obj)) (Out : List (Addr × Obj) → Value → Prop) : Prop :=
  ∀ (prog : Program) (dp un : Nat) (gd : Option (List Code)) (cn : Str) (cs : Scope) (a : Addr) (ccd : Value) (cl : List (Str × Addr)) (outer : List Env) (A₀ : Around) (base h₀ : Heap) (L : Addr) (m : Str → Option Value) (s : Shared)
    (loose : List Str) (mean : ExcName → Option Value) (mg mb : Str → Option Value) (Q E : Value → Shared → Prop),
    Below A₀ base outer h₀ → Fr h₀ L s.heap m → (Mine.H.heap_1_41 w.params).In h₀ → News h₀ L s.heap news → Top VP loose mean mg mb h₀ → cs.kind = .function → dp + need < recursionLimit → un + 8 * need < cLine →
    (∀ r tl h' tk', Fr h₀ L h' m → News h₀ L h' (tl ++ news) → (∀ q ∈ news, ∀ p ∈ tl, q.1 ≠ p.1) → Out tl r → Q r { s with heap := h', toks := tk' }) →
    wpAny (model prog w) (ktrTop dp un gd cn cs L a ccd cl outer) (call (.ref f) vs) Q E s
theorem CtrN.use {prog : Program} {w : World} {f : Addr} {need : Nat} {vs : List Value} {dp un : Nat} {gd : Option (List Code)} {cn : Str} {cs : Scope} {a : Addr} {ccd : Value} {cl : List (Str × Addr)} {outer : List Env} {A₀ : Around} {base h₀ : Heap} {L : Addr} {m : Str → Option Value} {news : List (Addr × Obj)} {s : Shared}
    {loose : List Str} {mean : ExcName → Option Value} {mg mb : Str → Option Value} {Q E : Value → Shared → Prop} {Out : List (Addr × Obj) → Value → Prop} (C : CtrN w f need vs news Out)
    (B : Below A₀ base outer h₀) (F : Fr h₀ L s.heap m) (X : (Mine.H.heap_1_41 w.params).In h₀) (N : News h₀ L s.heap news) (T : Top VP loose mean mg mb h₀) (hk : cs.kind = .function) (hdp : dp + need < recursionLimit) (hu : un + 8 * need < cLine)
    (hret : ∀ r tl h' tk', Fr h₀ L h' m → News h₀ L h' (tl ++ news) → (∀ q ∈ news, ∀ p ∈ tl, q.1 ≠ p.1) → Out tl r → Q r { s with heap := h', toks := tk' }) :
    wpAny (model prog w) (ktrTop dp un gd cn cs L a ccd cl outer) (call (.ref f) vs) Q E s := C _ _ _ _ _ _ _ _ _ _ _ _ _ _ _ _ _ _ _ _ _ _ B F X N T hk hdp hu hret
theorem CtrN.useS {prog : Program} {w : World} {f : Addr} {need : Nat} {vs : List Value} {dp un : Nat} {gd : Option (List Code)} {cn : Str} {cs : Scope} {a : Addr} {ccd : Value} {cl : List (Str × Addr)} {outer : List Env} {A₀ : Around} {base h₀ : Heap} {L : Addr} {m : Str → Option Value} {news : List (Addr × Obj)} {s : Shared} {h : Heap} {k : Nat}
    {loose : List Str} {mean : ExcName → Option Value} {mg mb : Str → Option Value} {Q E : Value → Shared → Prop} {Out : List (Addr × Obj) → Value → Prop} (C : CtrN w f need vs news Out)
    (B : Below A₀ base outer h₀) (F : Fr h₀ L h m) (X : (Mine.H.heap_1_41 w.params).In h₀) (N : News h₀ L h news) (T : Top VP loose mean mg mb h₀) (hk : cs.kind = .function) (hdp : dp + need < recursionLimit) (hu : un + 8 * need < cLine)
    (hret : ∀ r tl h' tk', Fr h₀ L h' m → News h₀ L h' (tl ++ news) → (∀ q ∈ news, ∀ p ∈ tl, q.1 ≠ p.1) → Out tl r → Q r ⟨h', s.gens, s.drawn, tk', s.os⟩) :
    wpAny (model prog w) (ktrTop dp un gd cn cs L a ccd cl outer) (call (.ref f) vs) Q E ⟨h, s.gens, s.drawn, k, s.os⟩ := CtrN.use (s := ⟨h, s.gens, s.drawn, k, s.os⟩) C B F X N T hk hdp hu hret
section
variable {a : Addr} {o : Obj} {news tl : List (Addr × Obj)}
theorem ap_nil : ∀ q ∈ news, ∀ p ∈ ([] : List (Addr × Obj)), q.1 ≠ p.1 := fun _ _ _ h => nomatch h
theorem ap_lt (h : ∀ q ∈ news, ∀ p ∈ tl, q.1 < p.1) : ∀ q ∈ news, ∀ p ∈ tl, q.1 ≠ p.1 := fun q hq p hp => Nat.ne_of_lt (h q hq p hp)
theorem ap_cons (h : AllLt a news) (k : ∀ q ∈ news, ∀ p ∈ tl, q.1 ≠ p.1) : ∀ q ∈ news, ∀ p ∈ (a, o) :: tl, q.1 ≠ p.1 := fun q hq p hp => by
  rcases List.mem_cons.mp hp with rfl | hp
  · exact Nat.ne_of_lt (allLt_mem h q hq)
  · exact k q hq p hp
theorem off1_mem {D : Addr} : ∀ {l : List (Addr × Obj)}, LCg.Off1 D l → ∀ p ∈ l, p.1 ≠ D
  | [], _, _, h => nomatch h
  | q :: r, ⟨a, b⟩, p, h => by
    rcases List.mem_cons.mp h with rfl | h
    · exact a
    · exact off1_mem b p h
theorem ap_off (h : LCg.Off1 a news) (k : ∀ q ∈ news, ∀ p ∈ tl, q.1 ≠ p.1) : ∀ q ∈ news, ∀ p ∈ (a, o) :: tl, q.1 ≠ p.1 := fun q hq p hp => by
  rcases List.mem_cons.mp hp with rfl | hp
  · exact off1_mem h q hq
  · exact k q hq p hp
theorem off1_right {D : Addr} : ∀ {l k : List (Addr × Obj)}, LCg.Off1 D (l ++ k) → LCg.Off1 D k
  | [], _, h => h
  | _ :: _, _, h => off1_right h.2
end
theorem news_more {h₀ h : Heap} {L : Addr} {l : List (Addr × Obj)} {x : Addr × Obj} (N : News h₀ L h l) (hm : x ∈ l) : News h₀ L h (x :: l) := fun p hp => (List.mem_cons.mp hp).elim (fun e => e ▸ N _ hm) (N p)
noncomputable def FldRef (P : Params) (led : List (Addr × Obj)) (v : Value) (x : FieldD) : Prop := ∃ f, v = .ref f ∧ FieldIn P led f x
theorem FldRef.mono {P : Params} {led led' : List (Addr × Obj)} {v : Value} {x : FieldD} (h : FldRef P led v x) (s : ∀ p ∈ led, p ∈ led') : FldRef P led' v x := let ⟨f, e, k⟩ := h; ⟨f, e, k.mono s⟩
noncomputable def FieldsOut (P : Params) (fs : List FieldD) (b : Nat) (tl : List (Addr × Obj)) (r : Value) : Prop := ∃ p D ys n t, r = .ref p ∧ (p, tup [.ref D, .int (b : Int) t]) ∈ tl ∧ (D, listOf (List.toArray ys) n) ∈ tl ∧ Two (FldRef P tl) ys fs
/-- the fields of the head from a place on -/
noncomputable def fieldsAt (d : List UInt8) (e a : Nat) : List FieldD := (headAt d e a).1.map Prod.fst
theorem headRun_len {d : List UInt8} {e : Nat} : ∀ (n a : Nat), (headRun d e n a).1.length ≤ n := by
  intro n
  induction n with
  | zero => intro a; exact Nat.zero_le _
  | succ n ih =>
    intro a
    unfold headRun
    split
    · split
      · simp
      · split
        · simp
        · simp only [List.length_cons]; have := ih (lineAt d a e).2; (first | lia | omega)
    · simp
theorem fld_turn {P : Params} {h₀ h' : Heap} {L I C D : Addr} {m : Str → Option Value} {s₁ : Shared} {oI oC oD : Obj} {x : Addr × Obj} {all led ld : List (Addr × Obj)} {f : Addr} {tk i : Nat} {rows : List (FieldD × Nat × Nat)} {r : FieldD × Nat × Nat} {ys : List Value}
    (F : Fr h₀ L h' m) (N : News h₀ L h' (all ++ (I, oI) :: (C, oC) :: (D, oD) :: led)) (off : Off3 I C D led) (hS : x ∈ led) (hr : rows[i]? = some r) (hf : FieldIn P ld f r.1) (htwo : Two (FldRef P ld) ys ((rows.map Prod.fst).take i)) :
    CompEnd h₀ L m s₁ I oI C oC D oD (fun nw => x ∈ nw) (fun y nw => nw = led ∧ Two (FldRef P ld) (ys ++ [y]) ((rows.map Prod.fst).take (i + 1))) (.ref f) { s₁ with heap := h', toks := tk } := by
  refine CompEnd.intro F N led (fun p hp => List.mem_append_right _ hp) off hS ⟨rfl, ?_⟩
  rw [List.take_add_one, List.getElem?_map, hr]
  exact htwo.snoc ⟨f, rfl, hf⟩
theorem reg_4 : True := by
  k_with "my call ref" => (((fail_if_success (fail_if_success (have z9 := hsC4))); ((k_here; (with_reducible show wpAny _ _ (call (Value.ref 195) _) _ _ _); (try walk_at "m_fold"); k_dflt (refine' CtrA.useS ?k0ₘ ?k1ₘ ?k2ₘ ?k3ₘ ?k4ₘ ?k5ₘ ?kKₘ ?kdₘ ?kuₘ ?_; (case k1ₘ => k_asm); (case k2ₘ => k_asm); (case k3ₘ => k_asm); (case k4ₘ => k_asm); (case k5ₘ => k_asm); (case k0ₘ => exact (read_spans_ok _ _ _ _ _ _ _ (by walk_at "m_om") (by walk_at "m_om") (by walk_at "m_om") (by assumption) _)); (case kKₘ => first | exact rfl | assumption); (case kdₘ => ktr_room); (case kuₘ => ktr_units); k_whole); intro r9 tl9 h9 tk9 F9 N9 hl9 ho9; (refine Mine.ex_5_4 (ho9) ?_; (try clear ho9); intro p9 D9 ys9 n9 t9 e9 hp9 hD9 two9); subst e9; replace N9 := news_more (news_more N9 (List.mem_append_left _ hD9)) (.tail _ (List.mem_append_left _ hp9)); (try k_unfold); (try dsimp only); (try walk_at "m_fold")))))
  trivial
theorem read_fields_ok (w : World) (d : List UInt8) (t : Tok) (a : Nat) (ta : Tok) (e : Nat) (te : Tok) (hz : d.length ≤ 16777216) (ha : a ≤ e) (he : e ≤ d.length) (G : Good d e a) (news : List (Addr × Obj)) :
   CtrN w 201 6 [.bytes d.toArray t, .int a ta, .int e te] news (FieldsOut w.params (fieldsAt d e a) (headAt d e a).2) := by
  have hsC4 : True := trivial
  unfold CtrN
  intro prog dp un gd cn cs aF ccd cl outer A₀ base h₀ L m s loose mean mg mb Q E B F X N T hk hdp hu hret
  refine wpAny_call ?_
  k_dflt (refine' code_def (binds := [(Str.ofString "data", .bytes d.toArray t), (Str.ofString "at", .int a ta), (Str.ofString "end", .int e te)]) ?k1 ?k2 ?k3 ?k4 ?k5 ?kA ?kF ?kK ?k6 ?k7 ?k8 ?k9 ?kB ?_ ?c2 ?c3 ?c4 ?c5; (case kA => exact rfl); (case kF => exact rfl); (case kK => assumption); (case k1 => exact B); (case k2 => exact F); (case k3 => exact X); (case k4 => exact N); (case k5 => exact T); (case k6 => k_is); (case k7 => k_is); (case k8 => ktr_room); (case k9 => first | exact BindsTo.of_eq rfl | exact binds_K (Frag.In.keeps X F.keep) rfl (by k_is) rfl rfl rfl); (case c5 => decide); (case kB => exact locs rfl); (case c2 => exact rfl); (case c3 => exact rfl); (case c4 => exact rfl); k_whole; intro g L₁ h₁ FG F₁ N₁ B₁ X₁ T₁; (try dsimp only); (try walk_at "m_fold"))
  replace F₁ : Fr g L₁ h₁ (fun y => List.lookup y [(Str.ofString "end", .int e te), (Str.ofString "at", .int a ta), (Str.ofString "data", .bytes d.toArray t)]) := F₁
  k_steps
  unfold Stop
  rename Fr _ _ _ _ => Fw
  rename News _ _ _ _ => Nw
  have hlen : ys9.length ≤ 16777216 := by
    have h1 := two9.length
    have h2 := headRun_len (d := d) (e := e) (e - a) a
    have h3 : (headAt d e a).1.length = (headRun d e (e - a) a).1.length := rfl
    (first | lia | omega)
  refine iterG_list (ax := D9) (its := ys9) (k := n9) (news := tl9 ++ news) rfl Fw (fun p hp => Nw _ (.tail _ (.tail _ hp))) (List.mem_append_left _ hD9) (by rw [sizeLine_eq]; (first | lia | omega)) ?_
  intro hg
  refine comp_all (fun i ys nw => nw = tl9 ++ news ∧ Two (FldRef w.params tl9) ys (((headAt d e a).1.map Prod.fst).take i)) ?_ ?_ _ 0 [] _ (Nat.zero_add _) ⟨rfl, .nil⟩
  · intro i v ys nw I oI C oC D m₂ h tk E' hi hv hJ hC hx F₂ N₂ off ne
    (try walk_at "m_fold")
    (refine Mine.ex_0_2 (hJ) ?_; (try clear hJ); intro eq0 htwo; subst eq0)
    (try walk_at "m_fold")
    obtain ⟨r, hr, p, f, t1, t2, rfl, hp, hf⟩ := two9.get hv
    replace N₂ := news_more N₂ (.tail _ (.tail _ (.tail _ (List.mem_append_left _ hp))))
    k_steps
    exact fld_turn (all := [_]) (by k_asm) (by k_asm) off (List.mem_append_left _ hD9) hr hf htwo
  · rintro ys nw ⟨rfl, htwo⟩
    k_steps
    rename LCg.Off1 _ _ => o1
    rename _ ∧ AllLt _ _ => l1
    rename News _ _ _ _ => Nx
    refine hret _ ((_, _) :: (_, _) :: tl9) _ _ (by k_asm) Nx (ap_cons (allLt_right l1.2) (ap_off (off1_right o1) (ap_lt hl9))) ⟨_, _, ys, _, _, rfl, .head _, .tail _ (.head _), ?_⟩
    rw [List.take_of_length_le (by rw [List.length_map, two9.length]; exact Nat.le_refl _)] at htwo
    exact htwo.mono fun _ _ h => h.mono fun _ hp => .tail _ (.tail _ hp)

end
/-! C5 -/
section
theorem reg_5 : True := by
  k_with "my call ref" => (((fail_if_success (fail_if_success (have z9 := hsC5))); ((k_here; (with_reducible show wpAny _ _ (call (Value.ref 114) _) _ _ _); (try walk_at "m_fold"); k_dflt (refine' CtrV.useS ?k0ₘ ?k1ₘ ?k2ₘ ?k3ₘ ?k4ₘ ?k5ₘ ?kKₘ ?kdₘ ?kuₘ ?_; (case k1ₘ => k_asm); (case k2ₘ => k_asm); (case k3ₘ => k_asm); (case k4ₘ => k_asm); (case k5ₘ => k_asm); (case k0ₘ => exact (lower_code_ok _ _ _)); (case kKₘ => first | exact rfl | assumption); (case kdₘ => ktr_room); (case kuₘ => ktr_units); k_whole); intro _ _ _ _ _; (try k_unfold); (try dsimp only); (try walk_at "m_fold")))))
  trivial
theorem lowC_le {c : Nat} (h : c ≤ 1114000) : lowC c ≤ 1114111 := by unfold lowC; split <;> (first | lia | omega)
theorem lowC_lt {c : Nat} (h : c < 256) : lowC c < 256 := by unfold lowC; split <;> (first | lia | omega)
theorem lower_ok (w : World) (l : List UInt8) (t : Tok) (hz : l.length ≤ 524288) : CtrV w 119 2 [.bytes l.toArray t] (fun t => .bytes (l.map fun c => (lowC c.toNat).toUInt8).toArray t) := by
  have hsC5 : True := trivial
  unfold CtrV
  intro prog dp un gd cn cs aF ccd cl outer A₀ base h₀ L m news s loose mean mg mb Q E B F X N T hk hdp hu hret
  refine wpAny_call ?_
  k_dflt (refine' code_def (binds := [(Str.ofString "octets", .bytes l.toArray t)]) ?k1 ?k2 ?k3 ?k4 ?k5 ?kA ?kF ?kK ?k6 ?k7 ?k8 ?k9 ?kB ?_ ?c2 ?c3 ?c4 ?c5; (case kA => exact rfl); (case kF => exact rfl); (case kK => assumption); (case k1 => exact B); (case k2 => exact F); (case k3 => exact X); (case k4 => exact N); (case k5 => exact T); (case k6 => k_is); (case k7 => k_is); (case k8 => ktr_room); (case k9 => first | exact BindsTo.of_eq rfl | exact binds_K (Frag.In.keeps X F.keep) rfl (by k_is) rfl rfl rfl); (case c5 => decide); (case kB => exact locs rfl); (case c2 => exact rfl); (case c3 => exact rfl); (case c4 => exact rfl); k_whole; intro g L₁ h₁ FG F₁ N₁ B₁ X₁ T₁; (try dsimp only); (try walk_at "m_fold"))
  replace F₁ : Fr g L₁ h₁ (fun y => List.lookup y [(Str.ofString "octets", .bytes l.toArray t)]) := F₁
  k_steps
  unfold Stop
  rename Fr _ _ _ _ => Fw
  rename News _ _ _ _ => Nw
  refine iterG_bytes rfl Fw Nw (by rw [sizeLine_eq]; (first | lia | omega)) ?_
  intro hg
  refine comp_two (xs := l.map fun c => lowC c.toNat) (R := fun v (c : Nat) => ∃ u, v = .int (c : Int) u) (by rw [List.length_map]) trivial ?_ ?_
  · rintro i v b ys I oI C oC D m₂ h tk E' ⟨c, u, hc, rfl⟩ hb hC hx F₂ N₂ off ne
    rw [List.getElem?_map, hc] at hb
    obtain rfl : lowC c.toNat = b := Option.some.inj hb
    k_steps
    all_goals exact TurnEnd.intro [] (by k_asm) (by k_asm) ⟨_, rfl⟩
  · intro ys two
    have two : Nums ys (l.map fun c => lowC c.toNat) := two
    have h256 : ∀ c ∈ l.map (fun c => lowC c.toNat), c < 256 := by
      intro c hc
      (refine Mine.ex_1_2 (List.mem_map.mp hc) ?_; intro x _ eq2; subst eq2)
      exact lowC_lt (UInt8.toNat_lt x)
    k_steps
    exact end_Y hret (by k_asm) (by walk_at "m_news") (by rw [List.map_map]; rfl)
theorem lower_text_ok (w : World) (l : List Nat) (t : Tok) (hz : l.length ≤ 524288) (hc : ∀ c ∈ l, c ≤ 1114000) : CtrV w 124 2 [.str (txt l) t] (fun t => .str (txt (l.map lowC)) t) := by
  have hsC5 : True := trivial
  unfold CtrV
  intro prog dp un gd cn cs aF ccd cl outer A₀ base h₀ L m news s loose mean mg mb Q E B F X N T hk hdp hu hret
  refine wpAny_call ?_
  k_dflt (refine' code_def (binds := [(Str.ofString "text", .str (txt l) t)]) ?k1 ?k2 ?k3 ?k4 ?k5 ?kA ?kF ?kK ?k6 ?k7 ?k8 ?k9 ?kB ?_ ?c2 ?c3 ?c4 ?c5; (case kA => exact rfl); (case kF => exact rfl); (case kK => assumption); (case k1 => exact B); (case k2 => exact F); (case k3 => exact X); (case k4 => exact N); (case k5 => exact T); (case k6 => k_is); (case k7 => k_is); (case k8 => ktr_room); (case k9 => first | exact BindsTo.of_eq rfl | exact binds_K (Frag.In.keeps X F.keep) rfl (by k_is) rfl rfl rfl); (case c5 => decide); (case kB => exact locs rfl); (case c2 => exact rfl); (case c3 => exact rfl); (case c4 => exact rfl); k_whole; intro g L₁ h₁ FG F₁ N₁ B₁ X₁ T₁; (try dsimp only); (try walk_at "m_fold"))
  replace F₁ : Fr g L₁ h₁ (fun y => List.lookup y [(Str.ofString "text", .str (txt l) t)]) := F₁
  k_steps
  unfold Stop
  rename Fr _ _ _ _ => Fw
  rename News _ _ _ _ => Nw
  refine iterG_str rfl Fw Nw (by rw [sizeLine_eq]; (first | lia | omega)) ?_
  intro hg
  refine comp_two (xs := l.map lowC) (R := fun v (c : Nat) => ∃ u, v = .str (txt [c]) u) (by rw [List.length_map]) trivial ?_ ?_
  · rintro i v b ys I oI C oC D m₂ h tk E' ⟨c, u, hc', rfl⟩ hb hC hx F₂ N₂ off ne
    rw [List.getElem?_map, hc'] at hb
    obtain rfl : lowC c = b := Option.some.inj hb
    have hle := lowC_le (hc c (List.mem_of_getElem? hc'))
    k_steps
    all_goals exact TurnEnd.intro [] (by k_asm) (by k_asm) ⟨_, rfl⟩
  · intro ys two
    have two : Signs ys (l.map lowC) := two
    k_steps
    exact end_S hret (by k_asm) (by walk_at "m_news") rfl

end
/-! C6 -/
section
section
variable {prog : Program} {w : World} {A : Around} {E : Value → Shared → Prop} {s : Shared} {h₀ : Heap} {L : Addr} {news : List (Addr × Obj)} {Q : Value → Shared → Prop}
theorem strip_B {l : List UInt8} {c : Array UInt8} {t u : Tok} (hz : l.length ≤ 16777216) (h : ∀ t' k, Q (.bytes (stripR c (stripL c l)).toArray t') { s with toks := k }) : wpAny (model prog w) A (call (.builtin "bytes.strip") [.bytes l.toArray t, .bytes c u]) Q E s :=
  strip_call (by simpa using hz) h
theorem rstrip_B {l : List UInt8} {c : Array UInt8} {t u : Tok} (hz : l.length ≤ 16777216) (h : ∀ t' k, Q (.bytes (stripR c l).toArray t') { s with toks := k }) : wpAny (model prog w) A (call (.builtin "bytes.rstrip") [.bytes l.toArray t, .bytes c u]) Q E s :=
  rstrip_call (by simpa using hz) h
noncomputable def Octs : List Value → List (List UInt8) → Prop := Two (fun v l => ∃ u, v = .bytes l.toArray u)
theorem Octs.pairs {ys : List Value} {l : List (List UInt8)} (h : Octs ys l) : ∃ p : List (Array UInt8 × Tok), bytesValues p = ys ∧ p.map (·.1.toList) = l := by
  induction h with
  | nil => exact ⟨[], rfl, rfl⟩
  | cons r _ ih =>
    (refine Mine.ex_1_1 (r) ?_; (try clear r); intro u eq1; subst eq1)
    (refine Mine.ex_1_2 (ih) ?_; (try clear ih); intro p eq1 hp; subst eq1)
    exact ⟨(_, u) :: p, rfl, by rw [List.map_cons, hp]⟩
theorem join_B {D : Addr} {ys : List Value} {n : Nat} {l : List (List UInt8)} {t : Tok} (N : News h₀ L s.heap news) (hm : (D, ({ cls := .type "list", data := .seq ys.toArray n } : Obj)) ∈ news) (hs : Octs ys l) (hz : l.flatten.length ≤ 16777216)
    (h : ∀ t' k, Q (.bytes l.flatten.toArray t') { s with toks := k }) : wpAny (model prog w) A (call (.builtin "bytes.join") [.bytes #[] t, .ref D]) Q E s := by
  (refine Mine.ex_1_2 (hs.pairs) ?_; intro p eq1 eq2; subst eq1; subst eq2)
  exact join_call ⟨_, (N _ hm).1, rfl, _, rfl⟩ hz h
end
/-- a name in small letters -/
noncomputable def lowN (l : List UInt8) : List Nat := l.map fun c => lowC c.toNat
/-- a text without blanks at its ends -/
noncomputable def bare (l : List UInt8) : List UInt8 := stripR #[32, 9] (stripL #[32, 9] l)
theorem bare_len (l : List UInt8) : (bare l).length ≤ l.length := Nat.le_trans (stripR_len _ _) (stripL_len _ _)
noncomputable def FOk (x : FieldD) : Prop := x.1.length ≤ 524288 ∧ x.2.length ≤ 524288 ∧ (10 : UInt8) ∉ x.2
noncomputable def firstBody : List FieldD → List Nat → Option (List UInt8)
  | [], _ => none
  | x :: r, q => if lowN x.1 = q then some (bare x.2) else firstBody r q
noncomputable def octV : Option (List UInt8) → Tok → Value
  | none, _ => .none
  | some l, t => .bytes l.toArray t
theorem name_le {l : List UInt8} : ∀ c ∈ l.map UInt8.toNat, c ≤ 1114000 := by
  intro c hc
  (refine Mine.ex_1_2 (List.mem_map.mp hc) ?_; intro x _ eq2; subst eq2)
  have := UInt8.toNat_lt x
  (first | lia | omega)
theorem reg_6 : True := by
  k_with "my call ref" => (((fail_if_success (fail_if_success (have z9 := hsC6))); ((k_here; (with_reducible show wpAny _ _ (call (Value.ref 124) _) _ _ _); (try walk_at "m_fold"); k_dflt (refine' CtrV.useS ?k0ₘ ?k1ₘ ?k2ₘ ?k3ₘ ?k4ₘ ?k5ₘ ?kKₘ ?kdₘ ?kuₘ ?_; (case k1ₘ => k_asm); (case k2ₘ => k_asm); (case k3ₘ => k_asm); (case k4ₘ => k_asm); (case k5ₘ => k_asm); (case k0ₘ => exact (lower_text_ok _ _ _ (by walk_at "m_ln") (by first | assumption | exact name_le))); (case kKₘ => first | exact rfl | assumption); (case kdₘ => ktr_room); (case kuₘ => ktr_units); k_whole); intro _ _ _ _ _; (try k_unfold); (try dsimp only); (try walk_at "m_fold")))))
  trivial
theorem end_L {h₀ h' : Heap} {L : Addr} {m : Str → Option Value} {news : List (Addr × Obj)} {s : Shared} {Q : Value → Shared → Prop} {t tk' : Tok} {R : Tok → Value}
    (hret : ∀ r tl h' tk', Fr h₀ L h' m → News h₀ L h' (tl ++ news) → (∀ q ∈ news, ∀ p ∈ tl, q.1 < p.1) → (tl = [] ∧ ∃ t, r = R t) → Q r { s with heap := h', toks := tk' })
    (F : Fr h₀ L h' m) (N : News h₀ L h' news) : Q (R t) { s with heap := h', toks := tk' } := hret _ [] _ _ F N ord_nil ⟨rfl, _, rfl⟩
theorem end_LS {h₀ h' : Heap} {L : Addr} {m : Str → Option Value} {news : List (Addr × Obj)} {s : Shared} {Q : Value → Shared → Prop} {t tk' : Tok} {x y : Str}
    (hret : ∀ r tl h' tk', Fr h₀ L h' m → News h₀ L h' (tl ++ news) → (∀ q ∈ news, ∀ p ∈ tl, q.1 < p.1) → (tl = [] ∧ ∃ t, r = .str x t) → Q r { s with heap := h', toks := tk' })
    (F : Fr h₀ L h' m) (N : News h₀ L h' news) (e : y = x) : Q (.str y t) { s with heap := h', toks := tk' } := by subst e; exact hret _ [] _ _ F N ord_nil ⟨rfl, _, rfl⟩
theorem field_word_ok (w : World) (f : Addr) (x : FieldD) (news : List (Addr × Obj)) (hf : FieldIn w.params news f x) (hz : x.1.length ≤ 524288) : CtrA w 152 3 [.ref f] news (fun tl v => tl = [] ∧ ∃ t, v = .str (txt (lowN x.1)) t) := by
  have hsC6 : True := trivial
  (refine Mine.ex_5_2 (hf) ?_; (try clear hf); intro dx t1 t2 t3 t4 hf hd)
  unfold CtrA
  intro prog dp un gd cn cs aF ccd cl outer A₀ base h₀ L m s loose mean mg mb Q E B F X N T hk hdp hu hret
  refine wpAny_call ?_
  k_dflt (refine' code_def (binds := [(Str.ofString "self", .ref f)]) ?k1 ?k2 ?k3 ?k4 ?k5 ?kA ?kF ?kK ?k6 ?k7 ?k8 ?k9 ?kB ?_ ?c2 ?c3 ?c4 ?c5; (case kA => exact rfl); (case kF => exact rfl); (case kK => assumption); (case k1 => exact B); (case k2 => exact F); (case k3 => exact X); (case k4 => exact N); (case k5 => exact T); (case k6 => k_is); (case k7 => k_is); (case k8 => ktr_room); (case k9 => first | exact BindsTo.of_eq rfl | exact binds_K (Frag.In.keeps X F.keep) rfl (by k_is) rfl rfl rfl); (case c5 => decide); (case kB => exact locs rfl); (case c2 => exact rfl); (case c3 => exact rfl); (case c4 => exact rfl); k_whole; intro g L₁ h₁ FG F₁ N₁ B₁ X₁ T₁; (try dsimp only); (try walk_at "m_fold"))
  replace F₁ : Fr g L₁ h₁ (fun y => List.lookup y [(Str.ofString "self", .ref f)]) := F₁
  replace N₁ := news_more (news_more N₁ hd) (.tail _ hf)
  k_steps
  unfold Stop
  rename Fr _ _ _ _ => Fw
  rename News _ _ _ _ => Nw
  refine iterG_bytes rfl Fw Nw (by rw [sizeLine_eq]; (first | lia | omega)) ?_
  intro hg
  refine comp_two (xs := x.1.map UInt8.toNat) (R := fun v (c : Nat) => ∃ u, v = .str (txt [c]) u) (by rw [List.length_map]) trivial ?_ ?_
  · rintro i v b ys I oI C oC D m₂ h tk E' ⟨c, u, hc, rfl⟩ hb hC hx F₂ N₂ off ne
    rw [List.getElem?_map, hc] at hb
    obtain rfl : c.toNat = b := Option.some.inj hb
    have := UInt8.toNat_lt c
    k_steps
    all_goals exact TurnEnd.intro [] (by k_asm) (by k_asm) ⟨_, rfl⟩
  · intro ys two
    have two : Signs ys (x.1.map UInt8.toNat) := two
    k_steps
    refine end_LS hret (by k_asm) (by walk_at "m_news") (congrArg txt ?_)
    rw [List.map_map]; rfl

end
/-! C7 -/
section
open PySem.Spec in
/-- a loop that leaves in its first turn -/
noncomputable def RetOnly (Q : Flow → Shared → Prop) (f : Flow) (s₂ : Shared) : Prop :=
  match f with
  | .ret v => Q (.ret v) s₂
  | .brk => Q .next s₂
  | _ => False
theorem while_once {prog : Program} {w : World} {A : Around} {E : Value → Shared → Prop} {s : Shared} {env : Env} {h₀ : Heap} {L : Addr} {Q : Flow → Shared → Prop} {m₀ : Str → Option Value} {news : List (Addr × Obj)} {test : Expr} {body : List Stmt} {pos : Pos} (F : Fr h₀ L s.heap m₀) (N : News h₀ L s.heap news)
    (turn : ∀ h tk, Fr h₀ L h m₀ → News h₀ L h news → wpAny (model prog w) A (isTrue test env (eval test env)) (fun b s₂ => if b = true then wpAny (model prog w) A (execs body env) (RetOnly Q) E s₂ else Q .next s₂) E { s with heap := h, toks := tk })
    (hE : PassesOwn (model prog w) A env E := by passes_own) :
    wpAny (model prog w) A (exec (.While test body [] pos) env) Q E s := by
  refine while_st (σ := Unit) (fun _ => news) (fun _ => []) [] (fun _ => True) (fun _ => 0) () F N allp_nil trivial ?_ hE
  intro _ u h tk _ F₁ N₁
  have F₂ : Fr h₀ L h m₀ := by
    have e : frB [] [] u m₀ = m₀ := by funext z; simp [frB, kstB]
    rw [e] at F₁; exact F₁
  refine wpAny_mono (turn h tk F₂ N₁) (fun b s₂ p => ?_) fun _ _ x => x
  cases b with
  | false => simpa using p
  | true =>
    simp only [if_true] at p ⊢
    refine wpAny_mono p (fun f s₃ q => ?_) fun _ _ x => x
    cases f with
    | ret v => exact q
    | brk => exact q
    | next => exact q.elim
    | cont => exact q.elim
theorem findN_nope {l : List UInt8} {c : UInt8} (h : c ∉ l) (a e : Nat) : findN l c a e = none := by
  cases hf : findN l c a e with
  | none => rfl
  | some i =>
    have := findN_some hf
    exact absurd (List.mem_of_getElem? this.2.2.1) h
theorem octs_one {l : List UInt8} {t : Tok} : Octs [.bytes l.toArray t] [l] := .cons ⟨_, rfl⟩ .nil
theorem line_at_whole (w : World) (d : List UInt8) (t : Tok) (a : Nat) (ta : Tok) (te : Tok) (hz : d.length ≤ 16777216) (ha : a ≤ d.length) (h : (10 : UInt8) ∉ d) (news : List (Addr × Obj)) :
   CtrA w 173 1 [.bytes d.toArray t, .int a ta, .int (d.length : Int) te] news (PairOut (d.length, d.length)) := by
  have := line_at_ok w d t a ta d.length te hz ha (Nat.le_refl _) news
  rw [lineAt_none (findN_nope h _ _)] at this
  exact this
theorem reg_7 : True := by
  k_with "my call ref" => (((fail_if_success (fail_if_success (have z9 := hsC7))); ((k_here; (with_reducible show wpAny _ _ (call (Value.ref 173) _) _ _ _); (try walk_at "m_fold"); k_dflt (refine' CtrA.useS ?k0ₘ ?k1ₘ ?k2ₘ ?k3ₘ ?k4ₘ ?k5ₘ ?kKₘ ?kdₘ ?kuₘ ?_; (case k1ₘ => k_asm); (case k2ₘ => k_asm); (case k3ₘ => k_asm); (case k4ₘ => k_asm); (case k5ₘ => k_asm); (case k0ₘ => exact (line_at_whole _ _ _ 0 _ _ (by walk_at "m_om") (Nat.zero_le _) (by assumption) _)); (case kKₘ => first | exact rfl | assumption); (case kdₘ => ktr_room); (case kuₘ => ktr_units); k_whole); intro r9ₘ tl9ₘ h9ₘ tk9ₘ F9ₘ N9ₘ hl9ₘ ho9ₘ; (refine Mine.ex_3_2 (ho9ₘ) ?_; (try clear ho9ₘ); intro p9ₘ t8ₘ t9ₘ e8ₘ e9ₘ); subst e8ₘ; subst e9ₘ; replace hl9ₘ := Mine.lt_one hl9ₘ; (try simp only [AllLt, and_true] at hl9ₘ); (try simp only [List.cons_append, List.nil_append] at N9ₘ); (try k_sweep); (try k_unfold); (try dsimp only); (try walk_at "m_fold")))))
  trivial
theorem rows_of_ok (w : World) (d : List UInt8) (t : Tok) (hz : d.length ≤ 16777216) (h : (10 : UInt8) ∉ d) (news : List (Addr × Obj)) :
   CtrA w 208 2 [.bytes d.toArray t] news (fun tl v => ∃ D ys n, v = .ref D ∧ tl = [(D, listOf (List.toArray ys) n)] ∧ Octs ys [d]) := by
  have hsC7 : True := trivial
  unfold CtrA
  intro prog dp un gd cn cs aF ccd cl outer A₀ base h₀ L m s loose mean mg mb Q E B F X N T hk hdp hu hret
  refine wpAny_call ?_
  k_dflt (refine' code_def (binds := [(Str.ofString "raw", .bytes d.toArray t)]) ?k1 ?k2 ?k3 ?k4 ?k5 ?kA ?kF ?kK ?k6 ?k7 ?k8 ?k9 ?kB ?_ ?c2 ?c3 ?c4 ?c5; (case kA => exact rfl); (case kF => exact rfl); (case kK => assumption); (case k1 => exact B); (case k2 => exact F); (case k3 => exact X); (case k4 => exact N); (case k5 => exact T); (case k6 => k_is); (case k7 => k_is); (case k8 => ktr_room); (case k9 => first | exact BindsTo.of_eq rfl | exact binds_K (Frag.In.keeps X F.keep) rfl (by k_is) rfl rfl rfl); (case c5 => decide); (case kB => exact locs rfl); (case c2 => exact rfl); (case c3 => exact rfl); (case c4 => exact rfl); k_whole; intro g L₁ h₁ FG F₁ N₁ B₁ X₁ T₁; (try dsimp only); (try walk_at "m_fold"))
  replace F₁ : Fr g L₁ h₁ (fun y => List.lookup y [(Str.ofString "raw", .bytes d.toArray t)]) := F₁
  k_steps
  unfold Stop
  rename Fr _ _ _ _ => Fw
  rename News _ _ _ _ => Nw
  refine while_once Fw Nw ?_
  clear Fw Nw
  intro h2 tk2 F2 N2
  k_steps
  · rename (∀ p : Addr × Obj, p ∈ news → p.1 < _) => l1
    have e : seg d 0 d.length = d := by simp [seg]
    rename News _ _ _ _ => Nx
    rw [e] at Nx
    exact hret _ [_] _ _ (by k_asm) (fun p hp => Nx p (.tail _ hp)) (ord_cons (allLt_of l1) ord_nil) ⟨_, [_], _, rfl, rfl, octs_one⟩
  · rename (d.length : Int) ≠ _ => hne
    exact absurd (by rw [List.size_toArray]) hne
theorem reg_8 : True := by
  k_with "my call ref" => (((fail_if_success (fail_if_success (have z9 := hsC7))); ((k_here; (with_reducible show wpAny _ _ (call (Value.ref 208) _) _ _ _); (try walk_at "m_fold"); k_dflt (refine' CtrA.useS ?k0ₘ ?k1ₘ ?k2ₘ ?k3ₘ ?k4ₘ ?k5ₘ ?kKₘ ?kdₘ ?kuₘ ?_; (case k1ₘ => k_asm); (case k2ₘ => k_asm); (case k3ₘ => k_asm); (case k4ₘ => k_asm); (case k5ₘ => k_asm); (case k0ₘ => exact (rows_of_ok _ _ _ (by walk_at "m_om") (by assumption) _)); (case kKₘ => first | exact rfl | assumption); (case kdₘ => ktr_room); (case kuₘ => ktr_units); k_whole); intro r9ₘ tl9ₘ h9ₘ tk9ₘ F9ₘ N9ₘ hl9ₘ ho9ₘ; (refine Mine.ex_3_3 (ho9ₘ) ?_; (try clear ho9ₘ); intro D9ₘ ys9ₘ n9ₘ e8ₘ e9ₘ o9ₘ); subst e8ₘ; subst e9ₘ; replace hl9ₘ := Mine.lt_one hl9ₘ; (try simp only [AllLt, and_true] at hl9ₘ); (try simp only [List.cons_append, List.nil_append] at N9ₘ); (try k_sweep); (try k_unfold); (try dsimp only); (try walk_at "m_fold")))))
  trivial
theorem unfolded_ok (w : World) (d : List UInt8) (t : Tok) (hz : d.length ≤ 524288) (h : (10 : UInt8) ∉ d) :
   CtrV w 215 3 [.bytes d.toArray t] (fun t => .bytes (bare d).toArray t) := by
  have hsC7 : True := trivial
  unfold CtrV
  intro prog dp un gd cn cs aF ccd cl outer A₀ base h₀ L m news s loose mean mg mb Q E B F X N T hk hdp hu hret
  refine wpAny_call ?_
  k_dflt (refine' code_def (binds := [(Str.ofString "raw", .bytes d.toArray t)]) ?k1 ?k2 ?k3 ?k4 ?k5 ?kA ?kF ?kK ?k6 ?k7 ?k8 ?k9 ?kB ?_ ?c2 ?c3 ?c4 ?c5; (case kA => exact rfl); (case kF => exact rfl); (case kK => assumption); (case k1 => exact B); (case k2 => exact F); (case k3 => exact X); (case k4 => exact N); (case k5 => exact T); (case k6 => k_is); (case k7 => k_is); (case k8 => ktr_room); (case k9 => first | exact BindsTo.of_eq rfl | exact binds_K (Frag.In.keeps X F.keep) rfl (by k_is) rfl rfl rfl); (case c5 => decide); (case kB => exact locs rfl); (case c2 => exact rfl); (case c3 => exact rfl); (case c4 => exact rfl); k_whole; intro g L₁ h₁ FG F₁ N₁ B₁ X₁ T₁; (try dsimp only); (try walk_at "m_fold"))
  replace F₁ : Fr g L₁ h₁ (fun y => List.lookup y [(Str.ofString "raw", .bytes d.toArray t)]) := F₁
  k_steps
  exact end_Y hret (by k_asm) (by walk_at "m_news") (by simp [bare])

end
/-! C8 -/
section
theorem txt_inj {a b : List Nat} (h : txt a = txt b) : a = b := by
  have : a.toArray = b.toArray := congrArg Str.cps h
  simpa using this
theorem firstBody_yes {fs : List FieldD} {q : List Nat} {i : Nat} {x : FieldD} (hx : fs[i]? = some x) (h : firstBody fs q = firstBody (fs.drop i) q) (hq : (txt (lowN x.1) == txt q) = true) : firstBody fs q = some (bare x.2) := by
  rw [h, List.drop_eq_getElem_cons (by have := List.getElem?_eq_some_iff.mp hx; exact this.1)]
  have : fs[i]'(by have := List.getElem?_eq_some_iff.mp hx; exact this.1) = x := (List.getElem?_eq_some_iff.mp hx).2
  rw [this]
  unfold firstBody
  rw [if_pos (txt_inj (eq_of_beq hq))]
theorem firstBody_no {fs : List FieldD} {q : List Nat} {i : Nat} {x : FieldD} (hx : fs[i]? = some x) (h : firstBody fs q = firstBody (fs.drop i) q) (hq : (txt (lowN x.1) == txt q) = false) : firstBody fs q = firstBody (fs.drop (i + 1)) q := by
  rw [h, List.drop_eq_getElem_cons (by have := List.getElem?_eq_some_iff.mp hx; exact this.1)]
  have : fs[i]'(by have := List.getElem?_eq_some_iff.mp hx; exact this.1) = x := (List.getElem?_eq_some_iff.mp hx).2
  rw [this]
  conv => lhs; unfold firstBody
  rw [if_neg (fun e => by rw [e] at hq; simp at hq)]
theorem reg_9 : True := by
  k_with "my call ref" => (((fail_if_success (fail_if_success (have z9 := hsC8))); ((k_here; (with_reducible show wpAny _ _ (call (Value.ref 152) _) _ _ _); (try walk_at "m_fold"); k_dflt (refine' CtrA.useS ?k0ₘ ?k1ₘ ?k2ₘ ?k3ₘ ?k4ₘ ?k5ₘ ?kKₘ ?kdₘ ?kuₘ ?_; (case k1ₘ => k_asm); (case k2ₘ => k_asm); (case k3ₘ => k_asm); (case k4ₘ => k_asm); (case k5ₘ => k_asm); (case k0ₘ => exact (field_word_ok _ _ _ _ (FieldIn.mono (by assumption) (by walk_at "m_sub")) (by assumption))); (case kKₘ => first | exact rfl | assumption); (case kdₘ => ktr_room); (case kuₘ => ktr_units); k_whole); intro r9ₘ tl9ₘ h9ₘ tk9ₘ F9ₘ N9ₘ hl9ₘ ho9ₘ; obtain ⟨e8ₘ, t9ₘ, e9ₘ⟩ := ho9ₘ; subst e8ₘ; subst e9ₘ; clear hl9ₘ; (try simp only [List.cons_append, List.nil_append] at N9ₘ); (try k_unfold); (try dsimp only); (try walk_at "m_fold")))))
  k_with "my call ref" => (((fail_if_success (fail_if_success (have z9 := hsC8))); ((k_here; (with_reducible show wpAny _ _ (call (Value.ref 124) _) _ _ _); (try walk_at "m_fold"); k_dflt (refine' CtrV.useS ?k0ₘ ?k1ₘ ?k2ₘ ?k3ₘ ?k4ₘ ?k5ₘ ?kKₘ ?kdₘ ?kuₘ ?_; (case k1ₘ => k_asm); (case k2ₘ => k_asm); (case k3ₘ => k_asm); (case k4ₘ => k_asm); (case k5ₘ => k_asm); (case k0ₘ => exact (lower_text_ok _ _ _ (by walk_at "m_ln") (by first | assumption | exact name_le))); (case kKₘ => first | exact rfl | assumption); (case kdₘ => ktr_room); (case kuₘ => ktr_units); k_whole); intro _ _ _ _ _; (try k_unfold); (try dsimp only); (try walk_at "m_fold")))))
  k_with "my call ref" => (((fail_if_success (fail_if_success (have z9 := hsC8))); ((k_here; (with_reducible show wpAny _ _ (call (Value.ref 215) _) _ _ _); (try walk_at "m_fold"); k_dflt (refine' CtrV.useS ?k0ₘ ?k1ₘ ?k2ₘ ?k3ₘ ?k4ₘ ?k5ₘ ?kKₘ ?kdₘ ?kuₘ ?_; (case k1ₘ => k_asm); (case k2ₘ => k_asm); (case k3ₘ => k_asm); (case k4ₘ => k_asm); (case k5ₘ => k_asm); (case k0ₘ => exact (unfolded_ok _ _ _ (by assumption) (by assumption))); (case kKₘ => first | exact rfl | assumption); (case kdₘ => ktr_room); (case kuₘ => ktr_units); k_whole); intro _ _ _ _ _; (try k_unfold); (try dsimp only); (try walk_at "m_fold")))))
  trivial
theorem end_LO {h₀ h' : Heap} {L : Addr} {m : Str → Option Value} {news : List (Addr × Obj)} {s : Shared} {Q : Value → Shared → Prop} {tk' : Tok} {z : Option (List UInt8)} {v : Value}
    (hret : ∀ r tl h' tk', Fr h₀ L h' m → News h₀ L h' (tl ++ news) → (∀ q ∈ news, ∀ p ∈ tl, q.1 < p.1) → (tl = [] ∧ ∃ t, r = octV z t) → Q r { s with heap := h', toks := tk' })
    (F : Fr h₀ L h' m) (N : News h₀ L h' news) (e : ∃ t, v = octV z t) : Q v { s with heap := h', toks := tk' } := hret _ [] _ _ F N ord_nil ⟨rfl, e⟩
/-- a value contract over one ledger -/
noncomputable def CtrV1 (w : World) (f : Addr) (need : Nat) (vs : List Value) (news : List (Addr × Obj)) (R : Tok → Value) : Prop := CtrA w f need vs news (fun tl v => tl = [] ∧ ∃ t, v = R t)
theorem ctrV1_of {w : World} {f : Addr} {need : Nat} {vs : List Value} {news : List (Addr × Obj)} {R : Tok → Value} (h : CtrA w f need vs news (fun tl v => tl = [] ∧ ∃ t, v = R t)) : CtrV1 w f need vs news R := h
theorem CtrV1.use {w : World} {f : Addr} {need : Nat} {vs : List Value} {R : Tok → Value} {prog : Program} {dp un : Nat} {gd : Option (List Code)} {cn : Str} {cs : Scope} {a : Addr} {ccd : Value} {cl : List (Str × Addr)} {outer : List Env} {A₀ : Around} {base h₀ : Heap} {L : Addr} {m : Str → Option Value} {news : List (Addr × Obj)} {s : Shared}
    {loose : List Str} {mean : ExcName → Option Value} {mg mb : Str → Option Value} {Q E : Value → Shared → Prop} (C : CtrV1 w f need vs news R)
    (B : Below A₀ base outer h₀) (F : Fr h₀ L s.heap m) (X : (Mine.H.heap_1_41 w.params).In h₀) (N : News h₀ L s.heap news) (T : Top VP loose mean mg mb h₀) (hk : cs.kind = .function) (hdp : dp + need < recursionLimit) (hu : un + 8 * need < cLine)
    (hret : ∀ t h' tk', Fr h₀ L h' m → News h₀ L h' news → Q (R t) { s with heap := h', toks := tk' }) :
    wpAny (model prog w) (ktrTop dp un gd cn cs L a ccd cl outer) (call (.ref f) vs) Q E s :=
  CtrA.use C B F X N T hk hdp hu fun r tl h' tk' F' N' _ ho => by
    obtain ⟨rfl, t, rfl⟩ := ho
    exact hret t h' tk' F' N'
theorem CtrV1.useS {w : World} {f : Addr} {need : Nat} {vs : List Value} {R : Tok → Value} {prog : Program} {dp un : Nat} {gd : Option (List Code)} {cn : Str} {cs : Scope} {a : Addr} {ccd : Value} {cl : List (Str × Addr)} {outer : List Env} {A₀ : Around} {base h₀ : Heap} {L : Addr} {m : Str → Option Value} {news : List (Addr × Obj)} {s : Shared} {h : Heap} {k : Nat}
    {loose : List Str} {mean : ExcName → Option Value} {mg mb : Str → Option Value} {Q E : Value → Shared → Prop} (C : CtrV1 w f need vs news R)
    (B : Below A₀ base outer h₀) (F : Fr h₀ L h m) (X : (Mine.H.heap_1_41 w.params).In h₀) (N : News h₀ L h news) (T : Top VP loose mean mg mb h₀) (hk : cs.kind = .function) (hdp : dp + need < recursionLimit) (hu : un + 8 * need < cLine)
    (hret : ∀ t h' tk', Fr h₀ L h' m → News h₀ L h' news → Q (R t) ⟨h', s.gens, s.drawn, tk', s.os⟩) :
    wpAny (model prog w) (ktrTop dp un gd cn cs L a ccd cl outer) (call (.ref f) vs) Q E ⟨h, s.gens, s.drawn, k, s.os⟩ := CtrV1.use (s := ⟨h, s.gens, s.drawn, k, s.os⟩) C B F X N T hk hdp hu hret
theorem first_body_ok (w : World) (D : Addr) (ys : List Value) (n : Nat) (fs : List FieldD) (q : List Nat) (t : Tok) (news : List (Addr × Obj)) (hD : (D, listOf ys.toArray n) ∈ news) (hy : Two (FldRef w.params news) ys fs) (hf : ∀ x ∈ fs, FOk x) (hz : q.length ≤ 1000) (hq : ∀ c ∈ q, c ≤ 1114000) :
    CtrA w 222 5 [.ref D, .str (txt q) t] news (fun tl v => tl = [] ∧ ∃ t, v = octV (firstBody fs (q.map lowC)) t) := by
  have hsC8 : True := trivial
  have hLoops : True := trivial
  unfold CtrA
  intro prog dp un gd cn cs aF ccd cl outer A₀ base h₀ L m s loose mean mg mb Q E B F X N T hk hdp hu hret
  refine wpAny_call ?_
  k_dflt (refine' code_def (binds := [(Str.ofString "fields", .ref D), (Str.ofString "word", .str (txt q) t)]) ?k1 ?k2 ?k3 ?k4 ?k5 ?kA ?kF ?kK ?k6 ?k7 ?k8 ?k9 ?kB ?_ ?c2 ?c3 ?c4 ?c5; (case kA => exact rfl); (case kF => exact rfl); (case kK => assumption); (case k1 => exact B); (case k2 => exact F); (case k3 => exact X); (case k4 => exact N); (case k5 => exact T); (case k6 => k_is); (case k7 => k_is); (case k8 => ktr_room); (case k9 => first | exact BindsTo.of_eq rfl | exact binds_K (Frag.In.keeps X F.keep) rfl (by k_is) rfl rfl rfl); (case c5 => decide); (case kB => exact locs rfl); (case c2 => exact rfl); (case c3 => exact rfl); (case c4 => exact rfl); k_whole; intro g L₁ h₁ FG F₁ N₁ B₁ X₁ T₁; (try dsimp only); (try walk_at "m_fold"))
  replace F₁ : Fr g L₁ h₁ (fun y => List.lookup y [(Str.ofString "word", .str (txt q) t), (Str.ofString "fields", .ref D)]) := F₁
  k_steps
  unfold Stop
  rename Fr _ _ _ _ => Fw
  rename News _ _ _ _ => Nw
  refine for_led_st (σ := Unit) (its := ys) (nl := n) (fun _ => news) (fun _ => []) [] (fun i _ => firstBody fs (q.map lowC) = firstBody (fs.drop i) (q.map lowC)) () rfl (fun _ => hD) Fw Nw (by walk_at "m_all") (by rw [List.drop_zero]) ?_ ?_
  · intro i v c₁ u I oI h2 tk2 hv hi off F₂ N₂
    clear Fw Nw
    (try walk_at "m_fold")
    obtain ⟨x, hx, f, rfl, hfx⟩ := hy.get hv
    have hok := hf x (List.mem_of_getElem? hx)
    (try walk_at "m_fold")
    (refine Mine.ex_0_3 (id hok) ?_; intro hk1 hk2 hk3)
    (try walk_at "m_fold")
    (refine Mine.ex_5_2 (id hfx) ?_; intro dx t1 t2 t3 t4 hf1 hf2)
    replace N₂ := news_more (news_more N₂ (.tail _ hf2)) (.tail _ (.tail _ hf1))
    dsimp only [frB, kstB] at F₂
    k_steps
    · exact end_LO hret (by k_asm) (by walk_at "m_news") ⟨_, by rw [firstBody_yes hx hi (by assumption)]; rfl⟩
    · exact ForPostS.next () (by k_asm) (by k_asm) (by walk_at "m_sub") off (by walk_at "m_frok") (firstBody_no hx hi (by assumption))
  · intro c₁ u h2 tk2 hi F₂ N₂
    clear Fw Nw
    dsimp only [frB, kstB] at F₂
    k_steps
    exact end_LO hret (by k_asm) (by walk_at "m_news") ⟨0, by rw [hi, List.drop_of_length_le (by rw [hy.length]; exact Nat.le_refl _)]; rfl⟩
theorem first_body_none (w : World) (D : Addr) (ys : List Value) (n : Nat) (fs : List FieldD) (x : String) (t : Tok) (news : List (Addr × Obj)) (h : firstBody fs (x.toList.map Char.toNat) = none) (hD : (D, listOf ys.toArray n) ∈ news) (hy : Two (FldRef w.params news) ys fs) (hf : ∀ x ∈ fs, FOk x)
    (hq : (x.toList.map Char.toNat).map lowC = x.toList.map Char.toNat ∧ (x.toList.map Char.toNat).length ≤ 1000 ∧ ∀ c ∈ x.toList.map Char.toNat, c ≤ 1114000) : CtrV1 w 222 5 [.ref D, .str (Str.ofString x) t] news (fun _ => .none) := by
  have := first_body_ok w D ys n fs (x.toList.map Char.toNat) t news hD hy hf hq.2.1 hq.2.2
  rw [hq.1, h, ← txt_str] at this
  exact ctrV1_of this
theorem first_body_some (w : World) (D : Addr) (ys : List Value) (n : Nat) (fs : List FieldD) (x : String) (t : Tok) (news : List (Addr × Obj)) {l : List UInt8} (h : firstBody fs (x.toList.map Char.toNat) = some l) (hD : (D, listOf ys.toArray n) ∈ news) (hy : Two (FldRef w.params news) ys fs) (hf : ∀ x ∈ fs, FOk x)
    (hq : (x.toList.map Char.toNat).map lowC = x.toList.map Char.toNat ∧ (x.toList.map Char.toNat).length ≤ 1000 ∧ ∀ c ∈ x.toList.map Char.toNat, c ≤ 1114000) : CtrV1 w 222 5 [.ref D, .str (Str.ofString x) t] news (fun t => .bytes l.toArray t) := by
  have := first_body_ok w D ys n fs (x.toList.map Char.toNat) t news hD hy hf hq.2.1 hq.2.2
  rw [hq.1, h, ← txt_str] at this
  exact ctrV1_of this
theorem cte_ok : ("content-transfer-encoding".toList.map Char.toNat).map lowC = "content-transfer-encoding".toList.map Char.toNat ∧ ("content-transfer-encoding".toList.map Char.toNat).length ≤ 1000 ∧ ∀ c ∈ "content-transfer-encoding".toList.map Char.toNat, c ≤ 1114000 := by decide +kernel
theorem ct_ok : ("content-type".toList.map Char.toNat).map lowC = "content-type".toList.map Char.toNat ∧ ("content-type".toList.map Char.toNat).length ≤ 1000 ∧ ∀ c ∈ "content-type".toList.map Char.toNat, c ≤ 1114000 := by decide +kernel

end
/-! C9 -/
section
noncomputable abbrev cteW : List Nat := "content-transfer-encoding".toList.map Char.toNat
noncomputable abbrev ctW : List Nat := "content-type".toList.map Char.toNat
noncomputable def notEnd (c : UInt8) : Bool := ![32, 9, 40, 59].contains c
noncomputable def encW (b : List UInt8) : List Nat := lowN (b.takeWhile notEnd)
noncomputable def encOf (fs : List FieldD) : List Nat := match firstBody fs cteW with
  | none => "7bit".toList.map Char.toNat
  | some b => if encW b = [] then "7bit".toList.map Char.toNat else encW b
theorem take_while {α : Type} {p : α → Bool} : ∀ {l : List α} {a : Nat}, (∀ c ∈ l.take a, p c = true) → (∀ c, l[a]? = some c → p c = false) → a ≤ l.length → l.take a = l.takeWhile p
  | [], a, _, _, _ => by simp
  | c :: r, 0, _, h2, _ => by rw [List.take_zero, List.takeWhile_cons, h2 c rfl]; simp
  | c :: r, a + 1, h, h2, h3 => by
    rw [List.take_succ_cons, List.takeWhile_cons, h c (by simp)]
    simp only [if_true]
    rw [take_while (fun x hx => h x (by simp [hx])) (fun x hx => h2 x (by simpa using hx)) (by simpa using h3)]
theorem take_more {α : Type} {p : α → Bool} {l : List α} {a : Nat} (h : ∀ c ∈ l.take a, p c = true) (h2 : ∀ c, l[a]? = some c → p c = true) : ∀ c ∈ l.take (a + 1), p c = true := by
  intro c hc
  rw [List.take_add_one] at hc
  rcases List.mem_append.mp hc with hc | hc
  · exact h c hc
  · refine h2 c ?_
    cases h3 : l[a]? with
    | none => rw [h3] at hc; simp at hc
    | some x => rw [h3] at hc; simp at hc; rw [hc]
theorem flds_mono {P : Params} {led led' : List (Addr × Obj)} {ys : List Value} {fs : List FieldD} (h : Two (FldRef P led) ys fs) (s : ∀ p ∈ led, p ∈ led') : Two (FldRef P led') ys fs := h.mono fun _ _ k => k.mono s
theorem reg_10 : True := by
  k_with "my call ref" => (((fail_if_success (fail_if_success (have z9 := hsC9))); ((k_here; (with_reducible show wpAny _ _ (call (Value.ref 222) _) _ _ _); (try walk_at "m_fold"); k_dflt (refine' CtrV1.useS ?k0ₘ ?k1ₘ ?k2ₘ ?k3ₘ ?k4ₘ ?k5ₘ ?kKₘ ?kdₘ ?kuₘ ?_; (case k1ₘ => k_asm); (case k2ₘ => k_asm); (case k3ₘ => k_asm); (case k4ₘ => k_asm); (case k5ₘ => k_asm); (case k0ₘ => exact (first_body_some _ _ _ _ _ "content-transfer-encoding" _ _ (by assumption) (by k_mem) (flds_mono (by assumption) (by walk_at "m_sub")) (by assumption) cte_ok)); (case kKₘ => first | exact rfl | assumption); (case kdₘ => ktr_room); (case kuₘ => ktr_units); k_whole); intro _ _ _ _ _; (try k_unfold); (try dsimp only); (try walk_at "m_fold")))))
  k_with "my call ref" => (((fail_if_success (fail_if_success (have z9 := hsC9))); ((k_here; (with_reducible show wpAny _ _ (call (Value.ref 222) _) _ _ _); (try walk_at "m_fold"); k_dflt (refine' CtrV1.useS ?k0ₘ ?k1ₘ ?k2ₘ ?k3ₘ ?k4ₘ ?k5ₘ ?kKₘ ?kdₘ ?kuₘ ?_; (case k1ₘ => k_asm); (case k2ₘ => k_asm); (case k3ₘ => k_asm); (case k4ₘ => k_asm); (case k5ₘ => k_asm); (case k0ₘ => exact (first_body_none _ _ _ _ _ "content-transfer-encoding" _ _ (by assumption) (by k_mem) (flds_mono (by assumption) (by walk_at "m_sub")) (by assumption) cte_ok)); (case kKₘ => first | exact rfl | assumption); (case kdₘ => ktr_room); (case kuₘ => ktr_units); k_whole); intro _ _ _ _ _; (try k_unfold); (try dsimp only); (try walk_at "m_fold")))))
  k_with "my call ref" => (((fail_if_success (fail_if_success (have z9 := hsC9))); ((k_here; (with_reducible show wpAny _ _ (call (Value.ref 124) _) _ _ _); (try walk_at "m_fold"); k_dflt (refine' CtrV.useS ?k0ₘ ?k1ₘ ?k2ₘ ?k3ₘ ?k4ₘ ?k5ₘ ?kKₘ ?kdₘ ?kuₘ ?_; (case k1ₘ => k_asm); (case k2ₘ => k_asm); (case k3ₘ => k_asm); (case k4ₘ => k_asm); (case k5ₘ => k_asm); (case k0ₘ => exact (lower_text_ok _ _ _ (by walk_at "m_ln") (by first | assumption | exact name_le))); (case kKₘ => first | exact rfl | assumption); (case kdₘ => ktr_room); (case kuₘ => ktr_units); k_whole); intro _ _ _ _ _; (try k_unfold); (try dsimp only); (try walk_at "m_fold")))))
  trivial
theorem firstBody_len {fs : List FieldD} {q : List Nat} {b : List UInt8} (hf : ∀ x ∈ fs, FOk x) (h : firstBody fs q = some b) : b.length ≤ 524288 := by
  induction fs with
  | nil => exact absurd h (by simp [firstBody])
  | cons x r ih =>
    unfold firstBody at h
    split at h
    · cases h
      exact Nat.le_trans (bare_len _) (hf x (.head _)).2.1
    · exact ih (fun y hy => hf y (.tail _ hy)) h
theorem end_getD {b : List UInt8} {a : Nat} {c : UInt8} (hc : b[a]? = some c) (h : [32, 9, 40, 59].contains (b.getD (a : Int).toNat 0) = false) : notEnd c = true := by
  rw [Int.toNat_natCast, List.getD_eq_getElem?_getD, hc, Option.getD_some] at h
  unfold notEnd
  rw [h]; rfl
theorem end_getD' {b : List UInt8} {a : Nat} {c : UInt8} (hc : b[a]? = some c) (h : [32, 9, 40, 59].contains (b.getD (a : Int).toNat 0) = true) : notEnd c = false := by
  rw [Int.toNat_natCast, List.getD_eq_getElem?_getD, hc, Option.getD_some] at h
  unfold notEnd
  rw [h]; rfl
theorem enc_plain {fs : List FieldD} {b : List UInt8} {l : List Nat} (hb : firstBody fs cteW = some b) (e : l = encW b) (h : (txt l == Str.ofString "") = true) : Str.ofString "7bit" = txt (encOf fs) := by
  have h1 : txt l = txt [] := eq_of_beq h
  have h2 : encW b = [] := e ▸ txt_inj h1
  unfold encOf
  rw [hb]
  dsimp only
  rw [if_pos h2, txt_str]
theorem enc_word {fs : List FieldD} {b : List UInt8} {l : List Nat} (hb : firstBody fs cteW = some b) (e : l = encW b) (h : (txt l == Str.ofString "") = false) : txt l = txt (encOf fs) := by
  subst e
  have h2 : ¬ encW b = [] := fun e => by rw [e] at h; exact absurd h (by decide +kernel)
  unfold encOf
  rw [hb]
  dsimp only
  rw [if_neg h2]
theorem encoding_of_ok (w : World) (D : Addr) (ys : List Value) (n : Nat) (fs : List FieldD) (news : List (Addr × Obj)) (hD : (D, listOf ys.toArray n) ∈ news) (hy : Two (FldRef w.params news) ys fs) (hf : ∀ x ∈ fs, FOk x) :
    CtrV1 w 560 6 [.ref D] news (fun t => .str (txt (encOf fs)) t) := by
  have hsC9 : True := trivial
  unfold CtrV1
  unfold CtrA
  intro prog dp un gd cn cs aF ccd cl outer A₀ base h₀ L m s loose mean mg mb Q E B F X N T hk hdp hu hret
  refine wpAny_call ?_
  k_dflt (refine' code_def (binds := [(Str.ofString "fields", .ref D)]) ?k1 ?k2 ?k3 ?k4 ?k5 ?kA ?kF ?kK ?k6 ?k7 ?k8 ?k9 ?kB ?_ ?c2 ?c3 ?c4 ?c5; (case kA => exact rfl); (case kF => exact rfl); (case kK => assumption); (case k1 => exact B); (case k2 => exact F); (case k3 => exact X); (case k4 => exact N); (case k5 => exact T); (case k6 => k_is); (case k7 => k_is); (case k8 => ktr_room); (case k9 => first | exact BindsTo.of_eq rfl | exact binds_K (Frag.In.keeps X F.keep) rfl (by k_is) rfl rfl rfl); (case c5 => decide); (case kB => exact locs rfl); (case c2 => exact rfl); (case c3 => exact rfl); (case c4 => exact rfl); k_whole; intro g L₁ h₁ FG F₁ N₁ B₁ X₁ T₁; (try dsimp only); (try walk_at "m_fold"))
  replace F₁ : Fr g L₁ h₁ (fun y => List.lookup y [(Str.ofString "fields", .ref D)]) := F₁
  replace N₁ := news_more N₁ hD
  cases hb : firstBody fs cteW with
  | none =>
    k_steps
    exact end_LS hret (by k_asm) (by walk_at "m_news") (by unfold encOf; rw [hb]; decide +kernel)
  | some b =>
    have hsz : b.toArray.size = b.length := List.size_toArray ..
    have hbz : b.length ≤ 524288 := firstBody_len hf hb
    k_steps
    unfold Stop
    rename Fr _ _ _ _ => Fw
    rename News _ _ _ _ => Nw
    refine while_st (σ := Nat × Tok) (fun _ => news) (fun c => [(Str.ofString "at", .int (c.1 : Int) c.2)]) [] (fun c => c.1 ≤ b.length ∧ ∀ x ∈ b.take c.1, notEnd x = true) (fun c => b.length - c.1) (0, _) Fw (by walk_at "m_news") (by walk_at "m_all") ⟨Nat.zero_le _, by simp⟩ ?_
    clear Fw Nw
    rintro ⟨a, ta⟩ u h2 tk2 ⟨ha, hall⟩ F₂ N₂
    dsimp only [frB, kstB] at ha hall F₂ ⊢
    k_steps
    rotate_left
    · exact WhPost.next (a + 1, _) (by k_asm) (by walk_at "m_news") (fun _ h => h) (by walk_at "m_frok") ⟨by (first | lia | omega), take_more hall (fun c hc => end_getD hc (by assumption))⟩ (by dsimp only; (first | lia | omega))
    all_goals (
      have e : b.take a = b.takeWhile notEnd := by first
        | exact take_while hall (fun c hc => end_getD' hc (by assumption)) ha
        | exact take_while hall (fun c hc => by rw [List.getElem?_eq_none (by (first | lia | omega))] at hc; cases hc) ha
      rw [e]
      unfold Stop
      rename Fr _ _ _ _ => Fw
      rename News _ _ _ _ => Nw
      have hle : (b.takeWhile notEnd).length ≤ 524288 := by rw [← e, List.length_take]; (first | lia | omega)
      refine iterG_bytes rfl Fw Nw (by rw [sizeLine_eq]; (first | lia | omega)) ?_
      intro hg
      refine comp_two (xs := (b.takeWhile notEnd).map UInt8.toNat) (R := fun v (c : Nat) => ∃ u, v = .str (txt [c]) u) (by rw [List.length_map]) trivial ?_ ?_
      · rintro i v x ys I oI C oC D m₂ h tk E' ⟨c, u, hc, rfl⟩ hb hC hx F₂ N₂ off ne
        rw [List.getElem?_map, hc] at hb
        obtain rfl : c.toNat = x := Option.some.inj hb
        have := UInt8.toNat_lt c
        k_steps
        all_goals exact TurnEnd.intro [] (by k_asm) (by k_asm) ⟨_, rfl⟩
      · intro ys two
        have two : Signs ys ((b.takeWhile notEnd).map UInt8.toNat) := two
        have ew : ((b.takeWhile notEnd).map UInt8.toNat).map lowC = encW b := by rw [List.map_map]; rfl
        k_steps
        · exact end_LS hret (by k_asm) (by walk_at "m_news") (enc_plain hb ew (by assumption))
        · exact end_LS hret (by k_asm) (by walk_at "m_news") (enc_word hb ew (by assumption)))

end
/-! C10 -/
section
theorem kind_ok (w : World) (v1 v2 v3 : Value) (news : List (Addr × Obj)) :
   CtrA w 411 3 [v1, v2, v3] news (fun tl v => ∃ f dx t1 t2 t3, v = .ref f ∧ tl = [(f, instObj 411 dx), (dx, dictOf [⟨PyData.keyHash w.params "top", .str "top" t1, v1⟩, ⟨PyData.keyHash w.params "sub", .str "sub" t2, v2⟩, ⟨PyData.keyHash w.params "params", .str "params" t3, v3⟩] 3)]) := by
  have hsC10 : True := trivial
  unfold CtrA
  intro prog dp un gd cn cs aF ccd cl outer A₀ base h₀ L m s loose mean mg mb Q E B F X N T hk hdp hu hret
  k_dflt (refine' call_cls ?k1 ?k2 ?k3 ?k4 ?k5 ?k6 ?_; (case k1 => exact F); (case k2 => exact X); (case k3 => exact N); (case k4 => k_is); (case k5 => k_is); (case k6 => k_is); intro x dx hx₁ Fx Nx l1 l2)
  replace l1 := allLt_of l1
  replace l2 := ltN l2
  k_dflt (refine' code_def (s := ⟨hx₁, s.gens, s.drawn, s.toks, s.os⟩) (binds := [(Str.ofString "self", .ref x), (Str.ofString "top", v1), (Str.ofString "sub", v2), (Str.ofString "params", v3)]) ?k1 ?k2 ?k3 ?k4 ?k5 ?kA ?kF ?kK ?k6 ?k7 ?k8 ?k9 ?kB ?_ ?c2 ?c3 ?c4 ?c5; (case kA => exact rfl); (case kF => exact rfl); (case kK => assumption); (case k1 => exact B); (case k2 => exact Fx); (case k3 => exact X); (case k4 => exact Nx); (case k5 => exact T); (case k6 => k_is); (case k7 => k_is); (case k8 => ktr_room); (case k9 => first | exact BindsTo.of_eq rfl | exact binds_K (Frag.In.keeps X Fx.keep) rfl (by k_is) rfl rfl rfl); (case c5 => decide); (case kB => exact locs rfl); (case c2 => exact rfl); (case c3 => exact rfl); (case c4 => exact rfl); k_whole; intro g L₁ h₁ FG F₁ N₁ B₁ X₁ T₁; (try dsimp only); (try walk_at "m_fold"))
  replace F₁ : Fr g L₁ h₁ (fun y => List.lookup y [(Str.ofString "params", v3), (Str.ofString "sub", v2), (Str.ofString "top", v1), (Str.ofString "self", .ref x)]) := F₁
  k_steps
  exact hret _ [(x, _), (dx, _)] _ _ (by k_asm) (by k_asm) (ord_cons (allLt_of fun q hq => Nat.lt_trans (allLt_mem l1 q hq) l2) (ord_cons l1 ord_nil)) ⟨x, dx, _, _, _, rfl, rfl⟩
theorem reg_11 : True := by
  k_with "my call ref" => (((fail_if_success (fail_if_success (have z9 := hsC10))); ((k_here; (with_reducible show wpAny _ _ (call (Value.ref 411) _) _ _ _); (try walk_at "m_fold"); k_dflt (refine' CtrA.useS ?k0ₘ ?k1ₘ ?k2ₘ ?k3ₘ ?k4ₘ ?k5ₘ ?kKₘ ?kdₘ ?kuₘ ?_; (case k1ₘ => k_asm); (case k2ₘ => k_asm); (case k3ₘ => k_asm); (case k4ₘ => k_asm); (case k5ₘ => k_asm); (case k0ₘ => exact (kind_ok _ _ _ _ _)); (case kKₘ => first | exact rfl | assumption); (case kdₘ => ktr_room); (case kuₘ => ktr_units); k_whole); intro r9ₘ tl9ₘ h9ₘ tk9ₘ F9ₘ N9ₘ hl9ₘ ho9ₘ; (refine Mine.ex_5_2 (ho9ₘ) ?_; (try clear ho9ₘ); intro p9ₘ q9ₘ t7ₘ t8ₘ t9ₘ e8ₘ e9ₘ); subst e8ₘ; subst e9ₘ; replace hl9ₘ := Mine.lt_two hl9ₘ; (try simp only [AllLt, and_true] at hl9ₘ); (try simp only [List.cons_append, List.nil_append] at N9ₘ); (try k_sweep); (try k_unfold); (try dsimp only); (try walk_at "m_fold")))))
  trivial
open PyProof.V
theorem dict_prog {prog prog' : Program} {w : World} {o : Obj} {kvs : List (Str × Value)} (h : o.IsDictOf (strKind prog w) kvs) : o.IsDictOf (strKind prog' w) kvs := by
  (refine Mine.ex_2_5 (h) ?_; (try clear h); intro es ep a b c d e)
  refine ⟨es, ep, a, b, c, ?_, e⟩
  revert d
  generalize es.toList = l
  intro d
  clear e
  induction d with
  | nil => exact .nil
  | cons h r _ ih => exact .cons h r ih
/-- a kind: its two words, its parameters -/
noncomputable abbrev KD := Str × Str × List (Str × Str)
noncomputable def PMap (w : World) (o : Obj) (ps : List (Str × Str)) : Prop := ∃ kvs, (∀ prog, o.IsDictOf (strKind prog w) kvs) ∧ FlatPairs PyData.str kvs (ps.map fun p => (PyData.str p.1, PyData.str p.2))
theorem PMap.of {prog : Program} {w : World} {o : Obj} {ps : List (Str × Str)} {kvs : List (Str × Value)} (h : o.IsDictOf (strKind prog w) kvs) (f : FlatPairs PyData.str kvs (ps.map fun p => (PyData.str p.1, PyData.str p.2))) : PMap w o ps := ⟨kvs, fun _ => dict_prog h, f⟩
noncomputable def KindIn (w : World) (led : List (Addr × Obj)) (k : Addr) (z : KD) : Prop := ∃ dx q o t1 t2 t3 t4 t5, (k, instObj 411 dx) ∈ led ∧
  (dx, dictOf [⟨PyData.keyHash w.params "top", .str "top" t1, .str z.1 t4⟩, ⟨PyData.keyHash w.params "sub", .str "sub" t2, .str z.2.1 t5⟩, ⟨PyData.keyHash w.params "params", .str "params" t3, .ref q⟩] 3) ∈ led ∧
  (q, o) ∈ led ∧ (q == sysModules) = false ∧ PMap w o z.2.2
theorem KindIn.mono {w : World} {led led' : List (Addr × Obj)} {k : Addr} {z : KD} (h : KindIn w led k z) (s : ∀ p ∈ led, p ∈ led') : KindIn w led' k z :=
  by (refine Mine.ex_8_5 (h) ?_; (try clear h); intro dx q o t1 t2 t3 t4 t5 a b c e f); exact ⟨dx, q, o, t1, t2, t3, t4, t5, s _ a, s _ b, s _ c, e, f⟩
noncomputable def KindOut (w : World) (z : KD) (tl : List (Addr × Obj)) (v : Value) : Prop := ∃ k, v = .ref k ∧ KindIn w tl k z
noncomputable def plainK : KD := ("text", "plain", [("charset", "us-ascii")])
theorem plain_kind_ok (w : World) (news : List (Addr × Obj)) : CtrA w 422 4 [] news (KindOut w plainK) := by
  have hsC10 : True := trivial
  unfold CtrA
  intro prog dp un gd cn cs aF ccd cl outer A₀ base h₀ L m s loose mean mg mb Q E B F X N T hk hdp hu hret
  refine wpAny_call ?_
  k_dflt (refine' code_def (binds := []) ?k1 ?k2 ?k3 ?k4 ?k5 ?kA ?kF ?kK ?k6 ?k7 ?k8 ?k9 ?kB ?_ ?c2 ?c3 ?c4 ?c5; (case kA => exact rfl); (case kF => exact rfl); (case kK => assumption); (case k1 => exact B); (case k2 => exact F); (case k3 => exact X); (case k4 => exact N); (case k5 => exact T); (case k6 => k_is); (case k7 => k_is); (case k8 => ktr_room); (case k9 => first | exact BindsTo.of_eq rfl | exact binds_K (Frag.In.keeps X F.keep) rfl (by k_is) rfl rfl rfl); (case c5 => decide); (case kB => exact locs rfl); (case c2 => exact rfl); (case c3 => exact rfl); (case c4 => exact rfl); k_whole; intro g L₁ h₁ FG F₁ N₁ B₁ X₁ T₁; (try dsimp only); (try walk_at "m_fold"))
  replace F₁ : Fr g L₁ h₁ (fun y => List.lookup y []) := F₁
  k_steps
  rename _ ∧ _ => l2
  rename (∀ p : Addr × Obj, p ∈ news → p.1 < _) => l1
  refine hret _ [_, _, _] _ _ (by k_asm) (by k_asm) (ord_cons l2.1.2 (ord_cons l2.2.2 (ord_cons (allLt_of l1) ord_nil))) ⟨_, rfl, _, _, _, _, _, _, _, _, .head _, .tail _ (.head _), .tail _ (.tail _ (.head _)), by assumption, PMap.of (by assumption) (by assumption)⟩

end
/-! C11 -/
section
open PyProof.V PySem.Spec PyProof.Rows.LCg
theorem end_LB {h₀ h' : Heap} {L : Addr} {m : Str → Option Value} {news : List (Addr × Obj)} {s : Shared} {Q : Value → Shared → Prop} {tk' : Tok} {x y : Bool}
    (hret : ∀ r tl h' tk', Fr h₀ L h' m → News h₀ L h' (tl ++ news) → (∀ q ∈ news, ∀ p ∈ tl, q.1 < p.1) → (tl = [] ∧ ∃ _ : Tok, r = .bool x) → Q r { s with heap := h', toks := tk' })
    (F : Fr h₀ L h' m) (N : News h₀ L h' news) (e : y = x) : Q (.bool y) { s with heap := h', toks := tk' } := by subst e; exact hret _ [] _ _ F N ord_nil ⟨rfl, 0, rfl⟩
theorem is_multi_ok (w : World) (k : Addr) (z : KD) (news : List (Addr × Obj)) (hk : KindIn w news k z) : CtrV1 w 394 2 [.ref k] news (fun _ => .bool (z.1 == "multipart")) := by
  (refine Mine.ex_8_5 (hk) ?_; (try clear hk); intro dx q o t1 t2 t3 t4 t5 h1 h2 h3 h4 h5)
  unfold CtrV1
  unfold CtrA
  intro prog dp un gd cn cs aF ccd cl outer A₀ base h₀ L m s loose mean mg mb Q E B F X N T hk hdp hu hret
  refine wpAny_call ?_
  k_dflt (refine' code_def (binds := [(Str.ofString "self", .ref k)]) ?k1 ?k2 ?k3 ?k4 ?k5 ?kA ?kF ?kK ?k6 ?k7 ?k8 ?k9 ?kB ?_ ?c2 ?c3 ?c4 ?c5; (case kA => exact rfl); (case kF => exact rfl); (case kK => assumption); (case k1 => exact B); (case k2 => exact F); (case k3 => exact X); (case k4 => exact N); (case k5 => exact T); (case k6 => k_is); (case k7 => k_is); (case k8 => ktr_room); (case k9 => first | exact BindsTo.of_eq rfl | exact binds_K (Frag.In.keeps X F.keep) rfl (by k_is) rfl rfl rfl); (case c5 => decide); (case kB => exact locs rfl); (case c2 => exact rfl); (case c3 => exact rfl); (case c4 => exact rfl); k_whole; intro g L₁ h₁ FG F₁ N₁ B₁ X₁ T₁; (try dsimp only); (try walk_at "m_fold"))
  replace F₁ : Fr g L₁ h₁ (fun y => List.lookup y [(Str.ofString "self", .ref k)]) := F₁
  replace N₁ := news_more (news_more N₁ h2) (.tail _ h1)
  k_steps
  · exact end_LB hret (by k_asm) (by walk_at "m_news") rfl
theorem is_letter_ok (w : World) (k : Addr) (z : KD) (news : List (Addr × Obj)) (hk : KindIn w news k z) : CtrV1 w 401 2 [.ref k] news (fun _ => .bool (z.1 == "message" && z.2.1 == "rfc822")) := by
  (refine Mine.ex_8_5 (hk) ?_; (try clear hk); intro dx q o t1 t2 t3 t4 t5 h1 h2 h3 h4 h5)
  unfold CtrV1
  unfold CtrA
  intro prog dp un gd cn cs aF ccd cl outer A₀ base h₀ L m s loose mean mg mb Q E B F X N T hk hdp hu hret
  refine wpAny_call ?_
  k_dflt (refine' code_def (binds := [(Str.ofString "self", .ref k)]) ?k1 ?k2 ?k3 ?k4 ?k5 ?kA ?kF ?kK ?k6 ?k7 ?k8 ?k9 ?kB ?_ ?c2 ?c3 ?c4 ?c5; (case kA => exact rfl); (case kF => exact rfl); (case kK => assumption); (case k1 => exact B); (case k2 => exact F); (case k3 => exact X); (case k4 => exact N); (case k5 => exact T); (case k6 => k_is); (case k7 => k_is); (case k8 => ktr_room); (case k9 => first | exact BindsTo.of_eq rfl | exact binds_K (Frag.In.keeps X F.keep) rfl (by k_is) rfl rfl rfl); (case c5 => decide); (case kB => exact locs rfl); (case c2 => exact rfl); (case c3 => exact rfl); (case c4 => exact rfl); k_whole; intro g L₁ h₁ FG F₁ N₁ B₁ X₁ T₁; (try dsimp only); (try walk_at "m_fold"))
  replace F₁ : Fr g L₁ h₁ (fun y => List.lookup y [(Str.ofString "self", .ref k)]) := F₁
  replace N₁ := news_more (news_more N₁ h2) (.tail _ h1)
  k_steps
  · rename (z.1 == Str.ofString "message") = _ => hz
    refine end_LB hret (by k_asm) (by walk_at "m_news") (by rw [show (z.1 == ("message" : Str)) = true from hz]; rfl)
  · rename (z.1 == Str.ofString "message") = _ => hz
    refine end_LB hret (by k_asm) (by walk_at "m_news") (by rw [show (z.1 == ("message" : Str)) = false from hz, Bool.false_and])
/-- what a value reads as, by the objects of a list and the written heap -/
noncomputable def RD (w : World) (tl : List (Addr × Obj)) (v : Value) (z : PyData) : Prop := ∀ h : Heap, (Mine.H.heap_1_41 w.params).In h → (∀ p ∈ tl, h.get? p.1 = some p.2) → ∃ as, Reads h v z as
noncomputable def kindD (z : KD) : PyData := .tuple [.str z.1, .str z.2.1, .tuple (z.2.2.map fun p => .tuple [.str p.1, .str p.2])]
theorem RD.tup {w : World} {tl : List (Addr × Obj)} {p : Addr} {vs : List Value} {zs : List PyData} {n : Nat} (hm : (p, ({ cls := .type "tuple", data := .seq vs.toArray n } : Obj)) ∈ tl) (h : Two (RD w tl) vs zs) : RD w tl (.ref p) (.tuple zs) := by
  intro hp K I
  have : ∃ as, ReadsAll hp vs zs as := by
    clear hm
    induction h with
    | nil => exact ⟨_, .nil⟩
    | cons r _ ih =>
      (refine Mine.ex_1_1 (r hp K I) ?_; intro as ra)
      (refine Mine.ex_1_1 (ih) ?_; (try clear ih); intro bs rb)
      exact ⟨_, .cons ra rb⟩
  (refine Mine.ex_1_1 (this) ?_; (try clear this); intro as ra)
  exact ⟨_, .tuple (I _ hm) rfl rfl ra⟩
theorem RD.str {w : World} {tl : List (Addr × Obj)} {x : Str} {t : Tok} : RD w tl (.str x t) (.str x) := fun _ _ _ => ⟨_, .str x t⟩
theorem RD.int {w : World} {tl : List (Addr × Obj)} {x : Int} {t : Tok} : RD w tl (.int x t) (.int x) := fun _ _ _ => ⟨_, .int x t⟩
theorem RD.none {w : World} {tl : List (Addr × Obj)} : RD w tl .none .none := fun _ _ _ => ⟨_, .none⟩
theorem RD.mono {w : World} {tl tl' : List (Addr × Obj)} {v : Value} {z : PyData} (h : RD w tl v z) (s : ∀ p ∈ tl, p ∈ tl') : RD w tl' v z := fun hp K I => h hp K fun p hp => I p (s p hp)
theorem news_sub {h₀ h : Heap} {L : Addr} {all l : List (Addr × Obj)} (N : News h₀ L h all) (s : ∀ p ∈ l, p ∈ all) : News h₀ L h l := fun p hp => N p (s p hp)
theorem end_top2 {h₀ h' : Heap} {L : Addr} {m : Str → Option Value} {news rest : List (Addr × Obj)} {s : Shared} {Q : Value → Shared → Prop} {tk' : Tok} {Out : List (Addr × Obj) → Value → Prop} {v : Value} {a b : Addr × Obj}
    (hret : ∀ r tl h' tk', Fr h₀ L h' m → News h₀ L h' (tl ++ news) → (∀ q ∈ news, ∀ p ∈ tl, q.1 < p.1) → Out tl r → Q r { s with heap := h', toks := tk' })
    (F : Fr h₀ L h' m) (N : News h₀ L h' (a :: b :: rest)) (sub : ∀ p ∈ news, p ∈ rest) (la : AllLt a.1 news) (lb : AllLt b.1 news) (ho : Out [a, b] v) : Q v { s with heap := h', toks := tk' } :=
  hret _ [a, b] _ _ F (fun p hp => by
    rcases List.mem_cons.mp hp with rfl | hp
    · exact N _ (.head _)
    · rcases List.mem_cons.mp hp with rfl | hp
      · exact N _ (.tail _ (.head _))
      · exact N _ (.tail _ (.tail _ (sub _ hp)))) (ord_cons la (ord_cons lb ord_nil)) ho
theorem end_top3 {h₀ h' : Heap} {L : Addr} {m : Str → Option Value} {news rest : List (Addr × Obj)} {s : Shared} {Q : Value → Shared → Prop} {tk' : Tok} {Out : List (Addr × Obj) → Value → Prop} {v : Value} {a b c : Addr × Obj}
    (hret : ∀ r tl h' tk', Fr h₀ L h' m → News h₀ L h' (tl ++ news) → (∀ q ∈ news, ∀ p ∈ tl, q.1 < p.1) → Out tl r → Q r { s with heap := h', toks := tk' })
    (F : Fr h₀ L h' m) (N : News h₀ L h' (a :: b :: rest)) (hc : c ∈ rest) (sub : ∀ p ∈ news, p ∈ rest) (la : AllLt a.1 news) (lb : AllLt b.1 news) (lc : AllLt c.1 news) (ho : Out [a, b, c] v) : Q v { s with heap := h', toks := tk' } :=
  hret _ [a, b, c] _ _ F (fun p hp => by
    rcases List.mem_cons.mp hp with rfl | hp
    · exact N _ (.head _)
    · rcases List.mem_cons.mp hp with rfl | hp
      · exact N _ (.tail _ (.head _))
      · rcases List.mem_cons.mp hp with rfl | hp
        · exact N _ (.tail _ (.tail _ hc))
        · exact N _ (.tail _ (.tail _ (sub _ hp)))) (ord_cons la (ord_cons lb (ord_cons lc ord_nil))) ho
theorem sorted_nil {v : List Value} {n : List Int} (h : IntsAre v n) (e : n.length = 0) : v = [] := by
  cases h with
  | nil => rfl
  | cons => simp at e
theorem kind_told_nil (w : World) (k : Addr) (a b : Str) (news : List (Addr × Obj)) (hk : KindIn w news k (a, b, [])) : CtrA w 387 4 [.ref k] news (fun tl v => RD w tl v (kindD (a, b, []))) := by
  (refine Mine.ex_8_5 (hk) ?_; (try clear hk); intro dx q o t1 t2 t3 t4 t5 h1 h2 h3 h4 hpm)
  (refine Mine.ex_1_2 (hpm) ?_; (try clear hpm); intro kvs h5 h6)
  unfold CtrA
  intro prog dp un gd cn cs aF ccd cl outer A₀ base h₀ L m s loose mean mg mb Q E B F X N T hk hdp hu hret
  refine wpAny_call ?_
  k_dflt (refine' code_defC (binds := [(Str.ofString "self", .ref k)]) ?k1 ?k2 ?k3 ?k4 ?k5 ?kA ?kF ?kK ?k6 ?k7 ?k8 ?k9 ?kB ?kD ?_ ?c2 ?c3 ?c4; (case kA => exact rfl); (case kF => exact rfl); (case kK => assumption); (case k1 => exact B); (case k2 => exact F); (case k3 => exact X); (case k4 => exact N); (case k5 => exact T); (case k6 => k_is); (case k7 => k_is); (case k8 => ktr_room); (case k9 => first | exact BindsTo.of_eq rfl | exact binds_K (Frag.In.keeps X F.keep) rfl (by k_is) rfl rfl rfl); (case kB => exact rfl); (case kD => decide +kernel); (case c2 => exact rfl); (case c3 => exact rfl); (case c4 => exact rfl); k_whole; intro g L₁ h₁ tk₁ cells FG F₁ N₁ Y₁ B₁ X₁ T₁ l1; (try k_lt l1); k_cells Y₁; (try simp only [List.cons_append, List.nil_append] at N₁); (try dsimp only); (try k_lift B₁); (try walk_at "m_fold"))
  replace N₁ := news_more (news_more (news_more N₁ (.tail _ h3)) (.tail _ (.tail _ h2))) (.tail _ (.tail _ (.tail _ h1)))
  replace h5 := h5 prog
  dsimp only [List.map] at h6
  k_steps
  (try unfold Stop)
  rename Fr _ _ _ _ => Fw
  rename News _ _ _ _ => Nw
  rename IntsAre _ _ => hi
  have hv := sorted_nil hi (by assumption)
  rw [hv] at Nw
  refine iterG_list (its := []) rfl Fw Nw (.head _) (by decide) ?_
  intro hg
  refine comp_two (xs := ([] : List Nat)) (R := fun _ _ => False) rfl (.head _) (fun i v b ys I oI C oC D m₂ h tk E' hp => by simp at hp) ?_
  intro ys two
  cases two
  k_steps
  rename News _ _ _ _ => Nx
  refine end_top2 hret (by k_asm) Nx (by walk_at "m_incl") (by walk_at "m_al") (by walk_at "m_al") ?_
  exact RD.tup (.head _) (.cons RD.str (.cons RD.str (.cons (RD.tup (.tail _ (.head _)) .nil) .nil)))
theorem comp_end1 {h₀ h' : Heap} {L I C D : Addr} {m : Str → Option Value} {s₁ : Shared} {oI oC oD : Obj} {S : List (Addr × Obj) → Prop} {rest : Value → List (Addr × Obj) → Prop} {y : Value} {tk : Nat} {led : List (Addr × Obj)} {x : Addr × Obj}
    (F : Fr h₀ L h' m) (N : News h₀ L h' (x :: (I, oI) :: (C, oC) :: (D, oD) :: led)) (hI : I < x.1) (hC : C < x.1) (hD : D < x.1) (off : Off3 I C D led) (hS : S (x :: led)) (r : rest y (x :: led)) :
    CompEnd h₀ L m s₁ I oI C oC D oD S rest y { s₁ with heap := h', toks := tk } :=
  CompEnd.intro F N (x :: led) (fun p hp => by
    simp only [List.mem_cons] at hp ⊢
    rcases hp with h | h | h | h | h <;> simp [h]) ⟨⟨Nat.ne_of_gt hI, Nat.ne_of_gt hC, Nat.ne_of_gt hD⟩, off⟩ hS r
theorem kind_told_one (w : World) (k : Addr) (a b x y : Str) (news : List (Addr × Obj)) (hk : KindIn w news k (a, b, [(x, y)])) : CtrA w 387 4 [.ref k] news (fun tl v => RD w tl v (kindD (a, b, [(x, y)]))) := by
  (refine Mine.ex_8_5 (hk) ?_; (try clear hk); intro dx q o t1 t2 t3 t4 t5 h1 h2 h3 h4 hpm)
  (refine Mine.ex_1_2 (hpm) ?_; (try clear hpm); intro kvs h5 h6)
  unfold CtrA
  intro prog dp un gd cn cs aF ccd cl outer A₀ base h₀ L m s loose mean mg mb Q E B F X N T hk hdp hu hret
  refine wpAny_call ?_
  k_dflt (refine' code_defC (binds := [(Str.ofString "self", .ref k)]) ?k1 ?k2 ?k3 ?k4 ?k5 ?kA ?kF ?kK ?k6 ?k7 ?k8 ?k9 ?kB ?kD ?_ ?c2 ?c3 ?c4; (case kA => exact rfl); (case kF => exact rfl); (case kK => assumption); (case k1 => exact B); (case k2 => exact F); (case k3 => exact X); (case k4 => exact N); (case k5 => exact T); (case k6 => k_is); (case k7 => k_is); (case k8 => ktr_room); (case k9 => first | exact BindsTo.of_eq rfl | exact binds_K (Frag.In.keeps X F.keep) rfl (by k_is) rfl rfl rfl); (case kB => exact rfl); (case kD => decide +kernel); (case c2 => exact rfl); (case c3 => exact rfl); (case c4 => exact rfl); k_whole; intro g L₁ h₁ tk₁ cells FG F₁ N₁ Y₁ B₁ X₁ T₁ l1; (try k_lt l1); k_cells Y₁; (try simp only [List.cons_append, List.nil_append] at N₁); (try dsimp only); (try k_lift B₁); (try walk_at "m_fold"))
  replace N₁ := news_more (news_more (news_more N₁ (.tail _ h3)) (.tail _ (.tail _ h2))) (.tail _ (.tail _ (.tail _ h1)))
  replace h5 := h5 prog
  dsimp only [List.map] at h6
  k_steps
  (try unfold Stop)
  rename Fr _ _ _ _ => Fw
  rename News _ _ _ _ => Nw
  rename Flat _ _ => hfl
  refine iterG_list rfl Fw Nw (.head _) (by exact Nat.le_of_ble_eq_true rfl) ?_
  intro hg
  refine CompRest.succ ?_
  intro v I oI C oC D m₂ h tk E' hv hC hx F₂ N₂ off ne
  cases hv
  have off0 := off
  (try simp only [LCg.Off3, and_true] at off)
  k_steps
  rename (I < _) ∧ _ => l9
  rename Fr _ _ _ _ => Fx
  rename News _ _ _ _ => Nx
  refine comp_end1 Fx Nx l9.1 l9.2.1 l9.2.2.1 off0 (.tail _ (.head _)) ?_
  refine CompRest.zero ?_
  clear off off0 Fx Nx
  k_steps
  rename News _ _ _ _ => Nx
  refine end_top3 hret (by k_asm) Nx (.tail _ (.head _)) (by walk_at "m_incl") (by walk_at "m_al") (by walk_at "m_al") (by walk_at "m_al") ?_
  exact RD.tup (.head _) (.cons RD.str (.cons RD.str (.cons (RD.tup (.tail _ (.head _)) (.cons (RD.tup (.tail _ (.tail _ (.head _))) (.cons RD.str (.cons RD.str .nil))) .nil)) .nil)))

end
/-! D1 -/
section
open PyProof.V PySem.Spec PyProof.Rows.LCg
/-- a call that turns objects of the ledger -/
noncomputable def CtrM (w : World) (f : Addr) (need : Nat) (vs : List Value) (news : List (Addr × Obj)) (Out : List (Addr × Obj) → Value → Prop) : Prop :=
  ∀ (prog : Program) (dp un : Nat) (gd : Option (List Code)) (cn : Str) (cs : Scope) (a : Addr) (ccd : Value) (cl : List (Str × Addr)) (outer : List Env) (A₀ : Around) (base h₀ : Heap) (L : Addr) (m : Str → Option Value) (s : Shared)
    (loose : List Str) (mean : ExcName → Option Value) (mg mb : Str → Option Value) (Q E : Value → Shared → Prop),
    Below A₀ base outer h₀ → Fr h₀ L s.heap m → (Mine.H.heap_1_41 w.params).In h₀ → News h₀ L s.heap news → Top VP loose mean mg mb h₀ → cs.kind = .function → dp + need < recursionLimit → un + 8 * need < cLine →
    (∀ r all h' tk', Fr h₀ L h' m → News h₀ L h' all → Out all r → Q r { s with heap := h', toks := tk' }) →
    wpAny (model prog w) (ktrTop dp un gd cn cs L a ccd cl outer) (call (.ref f) vs) Q E s
theorem CtrM.use {prog : Program} {w : World} {f : Addr} {need : Nat} {vs : List Value} {dp un : Nat} {gd : Option (List Code)} {cn : Str} {cs : Scope} {a : Addr} {ccd : Value} {cl : List (Str × Addr)} {outer : List Env} {A₀ : Around} {base h₀ : Heap} {L : Addr} {m : Str → Option Value} {news : List (Addr × Obj)} {s : Shared}
    {loose : List Str} {mean : ExcName → Option Value} {mg mb : Str → Option Value} {Q E : Value → Shared → Prop} {Out : List (Addr × Obj) → Value → Prop} (C : CtrM w f need vs news Out)
    (B : Below A₀ base outer h₀) (F : Fr h₀ L s.heap m) (X : (Mine.H.heap_1_41 w.params).In h₀) (N : News h₀ L s.heap news) (T : Top VP loose mean mg mb h₀) (hk : cs.kind = .function) (hdp : dp + need < recursionLimit) (hu : un + 8 * need < cLine)
    (hret : ∀ r all h' tk', Fr h₀ L h' m → News h₀ L h' all → Out all r → Q r { s with heap := h', toks := tk' }) :
    wpAny (model prog w) (ktrTop dp un gd cn cs L a ccd cl outer) (call (.ref f) vs) Q E s := C _ _ _ _ _ _ _ _ _ _ _ _ _ _ _ _ _ _ _ _ _ _ B F X N T hk hdp hu hret
theorem CtrM.useS {prog : Program} {w : World} {f : Addr} {need : Nat} {vs : List Value} {dp un : Nat} {gd : Option (List Code)} {cn : Str} {cs : Scope} {a : Addr} {ccd : Value} {cl : List (Str × Addr)} {outer : List Env} {A₀ : Around} {base h₀ : Heap} {L : Addr} {m : Str → Option Value} {news : List (Addr × Obj)} {s : Shared} {h : Heap} {k : Nat}
    {loose : List Str} {mean : ExcName → Option Value} {mg mb : Str → Option Value} {Q E : Value → Shared → Prop} {Out : List (Addr × Obj) → Value → Prop} (C : CtrM w f need vs news Out)
    (B : Below A₀ base outer h₀) (F : Fr h₀ L h m) (X : (Mine.H.heap_1_41 w.params).In h₀) (N : News h₀ L h news) (T : Top VP loose mean mg mb h₀) (hk : cs.kind = .function) (hdp : dp + need < recursionLimit) (hu : un + 8 * need < cLine)
    (hret : ∀ r all h' tk', Fr h₀ L h' m → News h₀ L h' all → Out all r → Q r ⟨h', s.gens, s.drawn, tk', s.os⟩) :
    wpAny (model prog w) (ktrTop dp un gd cn cs L a ccd cl outer) (call (.ref f) vs) Q E ⟨h, s.gens, s.drawn, k, s.os⟩ := CtrM.use (s := ⟨h, s.gens, s.drawn, k, s.os⟩) C B F X N T hk hdp hu hret
noncomputable abbrev CT := Tok × Tok × Tok × Tok × Tok
/-- a cursor's fields -/
noncomputable abbrev curD (P : Params) (T : CT) (d : List UInt8) (a e : Nat) (ta : Tok) : Obj :=
  dictOf [⟨PyData.keyHash P "data", .str "data" T.1, .bytes d.toArray T.2.1⟩, ⟨PyData.keyHash P "at", .str "at" T.2.2.1, .int (a : Int) ta⟩, ⟨PyData.keyHash P "end", .str "end" T.2.2.2.1, .int (e : Int) T.2.2.2.2⟩] 3
theorem end_LI {h₀ h' : Heap} {L : Addr} {m : Str → Option Value} {news : List (Addr × Obj)} {s : Shared} {Q : Value → Shared → Prop} {t tk' : Tok} {x y : Int}
    (hret : ∀ r tl h' tk', Fr h₀ L h' m → News h₀ L h' (tl ++ news) → (∀ q ∈ news, ∀ p ∈ tl, q.1 < p.1) → (tl = [] ∧ ∃ t, r = .int x t) → Q r { s with heap := h', toks := tk' })
    (F : Fr h₀ L h' m) (N : News h₀ L h' news) (e : y = x) : Q (.int y t) { s with heap := h', toks := tk' } := by subst e; exact hret _ [] _ _ F N ord_nil ⟨rfl, _, rfl⟩
noncomputable def isTokC (x : UInt8) : Bool := decide (32 < x.toNat) && decide (x.toNat < 127) && ![40, 41, 60, 62, 64, 44, 59, 58, 92, 34, 47, 91, 93, 63, 61].contains x
theorem tok_a {x : UInt8} {v : Bool} (hv : isTokC x = v) (h1 : (32 : Int) < x.toNat) (h2 : (x.toNat : Int) < 127) : (![40, 41, 60, 62, 64, 44, 59, 58, 92, 34, 47, 91, 93, 63, 61].contains x) = v := by
  rw [← hv, isTokC, decide_eq_true (by (first | lia | omega)), decide_eq_true (by (first | lia | omega))]; rfl
theorem tok_b {x : UInt8} {v : Bool} (hv : isTokC x = v) (h : ¬ (x.toNat : Int) < 127) : decide ((x.toNat : Int) < 127) = v := by
  rw [← hv, isTokC, decide_eq_false h, decide_eq_false (p := x.toNat < 127) (by (first | lia | omega)), Bool.and_false, Bool.false_and]
theorem tok_c {x : UInt8} {v : Bool} (hv : isTokC x = v) (h : ¬ (32 : Int) < x.toNat) : decide ((32 : Int) < x.toNat) = v := by
  rw [← hv, isTokC, decide_eq_false h, decide_eq_false (p := 32 < x.toNat) (by (first | lia | omega)), Bool.false_and, Bool.false_and]
section
variable (w : World) (c dx : Addr) (T : CT) (d : List UInt8) (a e : Nat) (ta : Tok) (rest : List (Addr × Obj))
theorem peek_some (h : a < e) (he : e ≤ d.length) (hz : d.length ≤ 16777216) : CtrV1 w 51 2 [.ref c] ((c, instObj 103 dx) :: (dx, curD w.params T d a e ta) :: rest) (fun t => .int ((d.getD a 0).toNat : Int) t) := by
  have hsD1 : True := trivial
  unfold CtrV1
  unfold CtrA
  intro prog dp un gd cn cs aF ccd cl outer A₀ base h₀ L m s loose mean mg mb Q E B F X N T hk hdp hu hret
  refine wpAny_call ?_
  k_dflt (refine' code_def (binds := [(Str.ofString "self", .ref c), (Str.ofString "ahead", .int 0 232)]) ?k1 ?k2 ?k3 ?k4 ?k5 ?kA ?kF ?kK ?k6 ?k7 ?k8 ?k9 ?kB ?_ ?c2 ?c3 ?c4 ?c5; (case kA => exact rfl); (case kF => exact rfl); (case kK => assumption); (case k1 => exact B); (case k2 => exact F); (case k3 => exact X); (case k4 => exact N); (case k5 => exact T); (case k6 => k_is); (case k7 => k_is); (case k8 => ktr_room); (case k9 => first | exact BindsTo.of_eq rfl | exact binds_K (Frag.In.keeps X F.keep) rfl (by k_is) rfl rfl rfl); (case c5 => decide); (case kB => exact locs rfl); (case c2 => exact rfl); (case c3 => exact rfl); (case c4 => exact rfl); k_whole; intro g L₁ h₁ FG F₁ N₁ B₁ X₁ T₁; (try dsimp only); (try walk_at "m_fold"))
  replace F₁ : Fr g L₁ h₁ (fun y => List.lookup y [(Str.ofString "ahead", .int 0 232), (Str.ofString "self", .ref c)]) := F₁
  k_steps
  exact end_LI hret (by k_asm) (by k_asm) (by simp)
theorem peek_none (h : e ≤ a) : CtrV1 w 51 2 [.ref c] ((c, instObj 103 dx) :: (dx, curD w.params T d a e ta) :: rest) (fun t => .int (-1) t) := by
  have hsD1 : True := trivial
  unfold CtrV1
  unfold CtrA
  intro prog dp un gd cn cs aF ccd cl outer A₀ base h₀ L m s loose mean mg mb Q E B F X N T hk hdp hu hret
  refine wpAny_call ?_
  k_dflt (refine' code_def (binds := [(Str.ofString "self", .ref c), (Str.ofString "ahead", .int 0 232)]) ?k1 ?k2 ?k3 ?k4 ?k5 ?kA ?kF ?kK ?k6 ?k7 ?k8 ?k9 ?kB ?_ ?c2 ?c3 ?c4 ?c5; (case kA => exact rfl); (case kF => exact rfl); (case kK => assumption); (case k1 => exact B); (case k2 => exact F); (case k3 => exact X); (case k4 => exact N); (case k5 => exact T); (case k6 => k_is); (case k7 => k_is); (case k8 => ktr_room); (case k9 => first | exact BindsTo.of_eq rfl | exact binds_K (Frag.In.keeps X F.keep) rfl (by k_is) rfl rfl rfl); (case c5 => decide); (case kB => exact locs rfl); (case c2 => exact rfl); (case c3 => exact rfl); (case c4 => exact rfl); k_whole; intro g L₁ h₁ FG F₁ N₁ B₁ X₁ T₁; (try dsimp only); (try walk_at "m_fold"))
  replace F₁ : Fr g L₁ h₁ (fun y => List.lookup y [(Str.ofString "ahead", .int 0 232), (Str.ofString "self", .ref c)]) := F₁
  k_steps
  exact end_LI hret (by k_asm) (by k_asm) rfl
theorem reg_12 : True := by
  k_with "my call ref" => (((fail_if_success (fail_if_success (have z9 := hsD1))); ((k_here; (with_reducible show wpAny _ _ (call (Value.ref 51) _) _ _ _); (try walk_at "m_fold"); k_dflt (refine' CtrV1.useS ?k0ₘ ?k1ₘ ?k2ₘ ?k3ₘ ?k4ₘ ?k5ₘ ?kKₘ ?kdₘ ?kuₘ ?_; (case k1ₘ => k_asm); (case k2ₘ => k_asm); (case k3ₘ => k_asm); (case k4ₘ => k_asm); (case k5ₘ => k_asm); (case k0ₘ => exact (peek_some _ _ _ _ _ _ _ _ _ (by walk_at "m_om") (by walk_at "m_om") (by walk_at "m_om"))); (case kKₘ => first | exact rfl | assumption); (case kdₘ => ktr_room); (case kuₘ => ktr_units); k_whole); intro _ _ _ _ _; (try k_unfold); (try dsimp only); (try walk_at "m_fold")))))
  k_with "my call ref" => (((fail_if_success (fail_if_success (have z9 := hsD1))); ((k_here; (with_reducible show wpAny _ _ (call (Value.ref 51) _) _ _ _); (try walk_at "m_fold"); k_dflt (refine' CtrV1.useS ?k0ₘ ?k1ₘ ?k2ₘ ?k3ₘ ?k4ₘ ?k5ₘ ?kKₘ ?kdₘ ?kuₘ ?_; (case k1ₘ => k_asm); (case k2ₘ => k_asm); (case k3ₘ => k_asm); (case k4ₘ => k_asm); (case k5ₘ => k_asm); (case k0ₘ => exact (peek_none _ _ _ _ _ _ _ _ _ (by walk_at "m_om"))); (case kKₘ => first | exact rfl | assumption); (case kdₘ => ktr_room); (case kuₘ => ktr_units); k_whole); intro _ _ _ _ _; (try k_unfold); (try dsimp only); (try walk_at "m_fold")))))
  trivial
theorem take_some (h : a < e) (he : e ≤ d.length) (hz : d.length ≤ 16777216) (hcd : c ≠ dx) (off : ∀ p ∈ rest, p.1 ≠ dx) : CtrM w 58 3 [.ref c] ((c, instObj 103 dx) :: (dx, curD w.params T d a e ta) :: rest)
    (fun all r => ∃ t t', r = .int ((d.getD a 0).toNat : Int) t ∧ all = (c, instObj 103 dx) :: (dx, curD w.params T d (a + 1) e t') :: rest) := by
  have hsD1 : True := trivial
  unfold CtrM
  intro prog dp un gd cn cs aF ccd cl outer A₀ base h₀ L m s loose mean mg mb Q E B F X N T hk hdp hu hret
  refine wpAny_call ?_
  k_dflt (refine' code_def (binds := [(Str.ofString "self", .ref c)]) ?k1 ?k2 ?k3 ?k4 ?k5 ?kA ?kF ?kK ?k6 ?k7 ?k8 ?k9 ?kB ?_ ?c2 ?c3 ?c4 ?c5; (case kA => exact rfl); (case kF => exact rfl); (case kK => assumption); (case k1 => exact B); (case k2 => exact F); (case k3 => exact X); (case k4 => exact N); (case k5 => exact T); (case k6 => k_is); (case k7 => k_is); (case k8 => ktr_room); (case k9 => first | exact BindsTo.of_eq rfl | exact binds_K (Frag.In.keeps X F.keep) rfl (by k_is) rfl rfl rfl); (case c5 => decide); (case kB => exact locs rfl); (case c2 => exact rfl); (case c3 => exact rfl); (case c4 => exact rfl); k_whole; intro g L₁ h₁ FG F₁ N₁ B₁ X₁ T₁; (try dsimp only); (try walk_at "m_fold"))
  replace F₁ : Fr g L₁ h₁ (fun y => List.lookup y [(Str.ofString "self", .ref c)]) := F₁
  k_steps
  rename News _ _ _ _ => Nx
  exact hret _ _ _ _ (by k_asm) Nx ⟨_, _, rfl, rfl⟩
theorem is_done_ok (v : Bool) (hv : decide (e ≤ a) = v) : CtrV1 w 43 1 [.ref c] ((c, instObj 103 dx) :: (dx, curD w.params T d a e ta) :: rest) (fun _ => .bool v) := by
  have hsD1 : True := trivial
  unfold CtrV1
  unfold CtrA
  intro prog dp un gd cn cs aF ccd cl outer A₀ base h₀ L m s loose mean mg mb Q E B F X N T hk hdp hu hret
  refine wpAny_call ?_
  k_dflt (refine' code_def (binds := [(Str.ofString "self", .ref c)]) ?k1 ?k2 ?k3 ?k4 ?k5 ?kA ?kF ?kK ?k6 ?k7 ?k8 ?k9 ?kB ?_ ?c2 ?c3 ?c4 ?c5; (case kA => exact rfl); (case kF => exact rfl); (case kK => assumption); (case k1 => exact B); (case k2 => exact F); (case k3 => exact X); (case k4 => exact N); (case k5 => exact T); (case k6 => k_is); (case k7 => k_is); (case k8 => ktr_room); (case k9 => first | exact BindsTo.of_eq rfl | exact binds_K (Frag.In.keeps X F.keep) rfl (by k_is) rfl rfl rfl); (case c5 => decide); (case kB => exact locs rfl); (case c2 => exact rfl); (case c3 => exact rfl); (case c4 => exact rfl); k_whole; intro g L₁ h₁ FG F₁ N₁ B₁ X₁ T₁; (try dsimp only); (try walk_at "m_fold"))
  replace F₁ : Fr g L₁ h₁ (fun y => List.lookup y [(Str.ofString "self", .ref c)]) := F₁
  k_steps
  refine end_LB hret (by k_asm) (by k_asm) (by rw [← hv]; simp)
end
theorem is_token_ok (w : World) (x : UInt8) (t : Tok) (v : Bool) (hv : isTokC x = v) : CtrV w 429 1 [.int (x.toNat : Int) t] (fun _ => .bool v) := by
  have hsD1 : True := trivial
  unfold CtrV
  intro prog dp un gd cn cs aF ccd cl outer A₀ base h₀ L m news s loose mean mg mb Q E B F X N T hk hdp hu hret
  refine wpAny_call ?_
  k_dflt (refine' code_def (binds := [(Str.ofString "code", .int (x.toNat : Int) t)]) ?k1 ?k2 ?k3 ?k4 ?k5 ?kA ?kF ?kK ?k6 ?k7 ?k8 ?k9 ?kB ?_ ?c2 ?c3 ?c4 ?c5; (case kA => exact rfl); (case kF => exact rfl); (case kK => assumption); (case k1 => exact B); (case k2 => exact F); (case k3 => exact X); (case k4 => exact N); (case k5 => exact T); (case k6 => k_is); (case k7 => k_is); (case k8 => ktr_room); (case k9 => first | exact BindsTo.of_eq rfl | exact binds_K (Frag.In.keeps X F.keep) rfl (by k_is) rfl rfl rfl); (case c5 => decide); (case kB => exact locs rfl); (case c2 => exact rfl); (case c3 => exact rfl); (case c4 => exact rfl); k_whole; intro g L₁ h₁ FG F₁ N₁ B₁ X₁ T₁; (try dsimp only); (try walk_at "m_fold"))
  replace F₁ : Fr g L₁ h₁ (fun y => List.lookup y [(Str.ofString "code", .int (x.toNat : Int) t)]) := F₁
  k_steps
  all_goals (first | exact end_B hret (by k_asm) (by walk_at "m_news") (by exact tok_a hv (by (first | lia | omega)) (by (first | lia | omega))) | exact end_B hret (by k_asm) (by walk_at "m_news") (by exact tok_b hv (by (first | lia | omega))) | exact end_B hret (by k_asm) (by walk_at "m_news") (by exact tok_c hv (by (first | lia | omega))))
theorem is_token_neg (w : World) (t : Tok) : CtrV w 429 1 [.int (-1) t] (fun _ => .bool false) := by
  have hsD1 : True := trivial
  unfold CtrV
  intro prog dp un gd cn cs aF ccd cl outer A₀ base h₀ L m news s loose mean mg mb Q E B F X N T hk hdp hu hret
  refine wpAny_call ?_
  k_dflt (refine' code_def (binds := [(Str.ofString "code", .int (-1) t)]) ?k1 ?k2 ?k3 ?k4 ?k5 ?kA ?kF ?kK ?k6 ?k7 ?k8 ?k9 ?kB ?_ ?c2 ?c3 ?c4 ?c5; (case kA => exact rfl); (case kF => exact rfl); (case kK => assumption); (case k1 => exact B); (case k2 => exact F); (case k3 => exact X); (case k4 => exact N); (case k5 => exact T); (case k6 => k_is); (case k7 => k_is); (case k8 => ktr_room); (case k9 => first | exact BindsTo.of_eq rfl | exact binds_K (Frag.In.keeps X F.keep) rfl (by k_is) rfl rfl rfl); (case c5 => decide); (case kB => exact locs rfl); (case c2 => exact rfl); (case c3 => exact rfl); (case c4 => exact rfl); k_whole; intro g L₁ h₁ FG F₁ N₁ B₁ X₁ T₁; (try dsimp only); (try walk_at "m_fold"))
  replace F₁ : Fr g L₁ h₁ (fun y => List.lookup y [(Str.ofString "code", .int (-1) t)]) := F₁
  k_steps
  exact hret 0 _ _ (by k_asm) (by k_asm)

end
/-! D2 -/
section
open PyProof.V PySem.Spec PyProof.Rows.LCg
theorem reg_13 : True := by
  k_with "my call ref" => (((fail_if_success (fail_if_success (have z9 := hsD2))); ((k_here; (with_reducible show wpAny _ _ (call (Value.ref 51) _) _ _ _); (try walk_at "m_fold"); k_dflt (refine' CtrV1.useS ?k0ₘ ?k1ₘ ?k2ₘ ?k3ₘ ?k4ₘ ?k5ₘ ?kKₘ ?kdₘ ?kuₘ ?_; (case k1ₘ => k_asm); (case k2ₘ => k_asm); (case k3ₘ => k_asm); (case k4ₘ => k_asm); (case k5ₘ => k_asm); (case k0ₘ => exact (peek_some _ _ _ _ _ _ _ _ _ (by walk_at "m_om") (by walk_at "m_om") (by walk_at "m_om"))); (case kKₘ => first | exact rfl | assumption); (case kdₘ => ktr_room); (case kuₘ => ktr_units); k_whole); intro _ _ _ _ _; (try k_unfold); (try dsimp only); (try walk_at "m_fold")))))
  k_with "my call ref" => (((fail_if_success (fail_if_success (have z9 := hsD2))); ((k_here; (with_reducible show wpAny _ _ (call (Value.ref 51) _) _ _ _); (try walk_at "m_fold"); k_dflt (refine' CtrV1.useS ?k0ₘ ?k1ₘ ?k2ₘ ?k3ₘ ?k4ₘ ?k5ₘ ?kKₘ ?kdₘ ?kuₘ ?_; (case k1ₘ => k_asm); (case k2ₘ => k_asm); (case k3ₘ => k_asm); (case k4ₘ => k_asm); (case k5ₘ => k_asm); (case k0ₘ => exact (peek_none _ _ _ _ _ _ _ _ _ (by walk_at "m_om"))); (case kKₘ => first | exact rfl | assumption); (case kdₘ => ktr_room); (case kuₘ => ktr_units); k_whole); intro _ _ _ _ _; (try k_unfold); (try dsimp only); (try walk_at "m_fold")))))
  k_with "my call ref" => (((fail_if_success (fail_if_success (have z9 := hsD2))); ((k_here; (with_reducible show wpAny _ _ (call (Value.ref 58) _) _ _ _); (try walk_at "m_fold"); k_dflt (refine' CtrM.useS ?k0ₘ ?k1ₘ ?k2ₘ ?k3ₘ ?k4ₘ ?k5ₘ ?kKₘ ?kdₘ ?kuₘ ?_; (case k1ₘ => k_asm); (case k2ₘ => k_asm); (case k3ₘ => k_asm); (case k4ₘ => k_asm); (case k5ₘ => k_asm); (case k0ₘ => exact (take_some _ _ _ _ _ _ _ _ _ (by walk_at "m_om") (by walk_at "m_om") (by walk_at "m_om") (by assumption) (by assumption))); (case kKₘ => first | exact rfl | assumption); (case kdₘ => ktr_room); (case kuₘ => ktr_units); k_whole); intro r9ₘ all9ₘ h9ₘ tk9ₘ F9ₘ N9ₘ ho9ₘ; (refine Mine.ex_2_2 (ho9ₘ) ?_; (try clear ho9ₘ); intro t8ₘ t9ₘ e8ₘ e9ₘ); subst e8ₘ; subst e9ₘ; (try k_unfold); (try dsimp only); (try walk_at "m_fold")))))
  k_with "my call ref" => (((fail_if_success (fail_if_success (have z9 := hsD2))); ((k_here; (with_reducible show wpAny _ _ (call (Value.ref 429) _) _ _ _); (try walk_at "m_fold"); k_dflt (refine' CtrV.useS ?k0ₘ ?k1ₘ ?k2ₘ ?k3ₘ ?k4ₘ ?k5ₘ ?kKₘ ?kdₘ ?kuₘ ?_; (case k1ₘ => k_asm); (case k2ₘ => k_asm); (case k3ₘ => k_asm); (case k4ₘ => k_asm); (case k5ₘ => k_asm); (case k0ₘ => exact (is_token_ok _ _ _ _ (by assumption))); (case kKₘ => first | exact rfl | assumption); (case kdₘ => ktr_room); (case kuₘ => ktr_units); k_whole); intro _ _ _ _ _; (try k_unfold); (try dsimp only); (try walk_at "m_fold")))))
  k_with "my call ref" => (((fail_if_success (fail_if_success (have z9 := hsD2))); ((k_here; (with_reducible show wpAny _ _ (call (Value.ref 429) _) _ _ _); (try walk_at "m_fold"); k_dflt (refine' CtrV.useS ?k0ₘ ?k1ₘ ?k2ₘ ?k3ₘ ?k4ₘ ?k5ₘ ?kKₘ ?kdₘ ?kuₘ ?_; (case k1ₘ => k_asm); (case k2ₘ => k_asm); (case k3ₘ => k_asm); (case k4ₘ => k_asm); (case k5ₘ => k_asm); (case k0ₘ => exact (is_token_neg _ _)); (case kKₘ => first | exact rfl | assumption); (case kdₘ => ktr_room); (case kuₘ => ktr_units); k_whole); intro _ _ _ _ _; (try k_unfold); (try dsimp only); (try walk_at "m_fold")))))
  trivial
/-- a blank of the kinds' reader -/
noncomputable abbrev isWh (x : UInt8) : Bool := decide ((x.toNat : Int) = 9 ∨ (x.toNat : Int) = 10 ∨ (x.toNat : Int) = 13 ∨ (x.toNat : Int) = 32)
section
variable (w : World) (c dx : Addr) (ct : CT) (d : List UInt8) (a b e : Nat) (ta : Tok) (rest : List (Addr × Obj))
theorem take_token_ok (hab : a < b) (hbe : b ≤ e) (he : e ≤ d.length) (hz : d.length ≤ 16777216) (hall : ∀ i, a ≤ i → i < b → isTokC (d.getD i 0) = true) (hend : b < e → isTokC (d.getD b 0) = false) (hcd : c ≠ dx) (off : ∀ p ∈ rest, p.1 ≠ dx) :
    CtrM w 443 5 [.ref c] ((c, instObj 103 dx) :: (dx, curD w.params ct d a e ta) :: rest) (fun all r => ∃ t t', r = .bytes (seg d a b).toArray t ∧ all = (c, instObj 103 dx) :: (dx, curD w.params ct d b e t') :: rest) := by
  have hsD2 : True := trivial
  unfold CtrM
  intro prog dp un gd cn cs aF ccd cl outer A₀ base h₀ L m s loose mean mg mb Q E B F X N T hk hdp hu hret
  refine wpAny_call ?_
  k_dflt (refine' code_def (binds := [(Str.ofString "cursor", .ref c)]) ?k1 ?k2 ?k3 ?k4 ?k5 ?kA ?kF ?kK ?k6 ?k7 ?k8 ?k9 ?kB ?_ ?c2 ?c3 ?c4 ?c5; (case kA => exact rfl); (case kF => exact rfl); (case kK => assumption); (case k1 => exact B); (case k2 => exact F); (case k3 => exact X); (case k4 => exact N); (case k5 => exact T); (case k6 => k_is); (case k7 => k_is); (case k8 => ktr_room); (case k9 => first | exact BindsTo.of_eq rfl | exact binds_K (Frag.In.keeps X F.keep) rfl (by k_is) rfl rfl rfl); (case c5 => decide); (case kB => exact locs rfl); (case c2 => exact rfl); (case c3 => exact rfl); (case c4 => exact rfl); k_whole; intro g L₁ h₁ FG F₁ N₁ B₁ X₁ T₁; (try dsimp only); (try walk_at "m_fold"))
  replace F₁ : Fr g L₁ h₁ (fun y => List.lookup y [(Str.ofString "cursor", .ref c)]) := F₁
  k_steps
  unfold Stop
  rename Fr _ _ _ _ => Fw
  rename News _ _ _ _ => Nw
  refine while_st (σ := Nat × Tok) (fun p => (c, instObj 103 dx) :: (dx, curD w.params ct d p.1 e p.2) :: rest) (fun _ => []) [] (fun p => a ≤ p.1 ∧ p.1 ≤ b) (fun p => b - p.1) (a, ta) Fw Nw (by walk_at "m_all") ⟨Nat.le_refl _, Nat.le_of_lt hab⟩ ?_
  clear Fw Nw
  rintro ⟨p, tp⟩ u h2 tk2 ⟨hap, hpb⟩ F₂ N₂
  dsimp only [frB, kstB] at hap hpb F₂ N₂ ⊢
  (try walk_at "m_fold")
  rcases Nat.lt_or_ge p b with hp | hp
  · have ht := hall p hap hp
    k_steps
    exact WhPost.next (p + 1, _) (by k_asm) (by k_asm) (fun _ h => h) (by walk_at "m_frok") ⟨by dsimp only; (first | lia | omega), by dsimp only; (first | lia | omega)⟩ (by dsimp only; (first | lia | omega))
  · obtain rfl : p = b := by (first | lia | omega)
    have hne : ((p : Int) == (a : Int)) = false := beq_eq_false_iff_ne.mpr (by (first | lia | omega))
    (try walk_at "m_fold")
    rcases Nat.lt_or_ge p e with h3 | h3
    · have ht := hend h3
      k_steps
      exact hret _ ((c, instObj 103 dx) :: (dx, curD w.params ct d p e tp) :: rest) _ _ (by k_asm) (by k_asm) ⟨_, _, rfl, rfl⟩
    · k_steps
      exact hret _ ((c, instObj 103 dx) :: (dx, curD w.params ct d p e tp) :: rest) _ _ (by k_asm) (by k_asm) ⟨_, _, rfl, rfl⟩
theorem reg_14 : True := by
  k_with "my call ref" => (((fail_if_success (fail_if_success (have z9 := hsD2))); ((k_here; (with_reducible show wpAny _ _ (call (Value.ref 43) _) _ _ _); (try walk_at "m_fold"); k_dflt (refine' CtrV1.useS ?k0ₘ ?k1ₘ ?k2ₘ ?k3ₘ ?k4ₘ ?k5ₘ ?kKₘ ?kdₘ ?kuₘ ?_; (case k1ₘ => k_asm); (case k2ₘ => k_asm); (case k3ₘ => k_asm); (case k4ₘ => k_asm); (case k5ₘ => k_asm); (case k0ₘ => exact (is_done_ok _ _ _ _ _ _ _ _ _ _ (by assumption))); (case kKₘ => first | exact rfl | assumption); (case kdₘ => ktr_room); (case kuₘ => ktr_units); k_whole); intro _ _ _ _ _; (try k_unfold); (try dsimp only); (try walk_at "m_fold")))))
  trivial
theorem skip_ok (hab : a ≤ b) (hbe : b ≤ e) (he : e ≤ d.length) (hz : d.length ≤ 16777216) (hall : ∀ i, a ≤ i → i < b → isWh (d.getD i 0) = true) (hend : b < e → isWh (d.getD b 0) = false ∧ ((d.getD b 0).toNat : Int) ≠ 40) (hcd : c ≠ dx) (off : ∀ p ∈ rest, p.1 ≠ dx) :
    CtrM w 436 5 [.ref c] ((c, instObj 103 dx) :: (dx, curD w.params ct d a e ta) :: rest) (fun all r => ∃ t' : Tok, r = .none ∧ all = (c, instObj 103 dx) :: (dx, curD w.params ct d b e t') :: rest) := by
  have hsD2 : True := trivial
  unfold CtrM
  intro prog dp un gd cn cs aF ccd cl outer A₀ base h₀ L m s loose mean mg mb Q E B F X N T hk hdp hu hret
  refine wpAny_call ?_
  k_dflt (refine' code_def (binds := [(Str.ofString "cursor", .ref c)]) ?k1 ?k2 ?k3 ?k4 ?k5 ?kA ?kF ?kK ?k6 ?k7 ?k8 ?k9 ?kB ?_ ?c2 ?c3 ?c4 ?c5; (case kA => exact rfl); (case kF => exact rfl); (case kK => assumption); (case k1 => exact B); (case k2 => exact F); (case k3 => exact X); (case k4 => exact N); (case k5 => exact T); (case k6 => k_is); (case k7 => k_is); (case k8 => ktr_room); (case k9 => first | exact BindsTo.of_eq rfl | exact binds_K (Frag.In.keeps X F.keep) rfl (by k_is) rfl rfl rfl); (case c5 => decide); (case kB => exact locs rfl); (case c2 => exact rfl); (case c3 => exact rfl); (case c4 => exact rfl); k_whole; intro g L₁ h₁ FG F₁ N₁ B₁ X₁ T₁; (try dsimp only); (try walk_at "m_fold"))
  replace F₁ : Fr g L₁ h₁ (fun y => List.lookup y [(Str.ofString "cursor", .ref c)]) := F₁
  k_steps
  unfold Stop
  rename Fr _ _ _ _ => Fw
  rename News _ _ _ _ => Nw
  refine while_st (σ := Nat × Tok) (fun p => (c, instObj 103 dx) :: (dx, curD w.params ct d p.1 e p.2) :: rest) (fun _ => []) [] (fun p => a ≤ p.1 ∧ p.1 ≤ b) (fun p => b - p.1) (a, ta) Fw Nw (by walk_at "m_all") ⟨Nat.le_refl _, hab⟩ ?_
  clear Fw Nw
  rintro ⟨p, tp⟩ u h2 tk2 ⟨hap, hpb⟩ F₂ N₂
  dsimp only [frB, kstB] at hap hpb F₂ N₂ ⊢
  (try walk_at "m_fold")
  rcases Nat.lt_or_ge p b with hp | hp
  · have ht := hall p hap hp
    have hd : decide (e ≤ p) = false := decide_eq_false (by (first | lia | omega))
    k_steps
    exact WhPost.next (p + 1, _) (by k_asm) (by k_asm) (fun _ h => h) (by walk_at "m_frok") ⟨by dsimp only; (first | lia | omega), by dsimp only; (first | lia | omega)⟩ (by dsimp only; (first | lia | omega))
  · obtain rfl : p = b := by (first | lia | omega)
    (try walk_at "m_fold")
    rcases Nat.lt_or_ge p e with h3 | h3
    · have ht := (hend h3).1
      have hq : (((d.getD p 0).toNat : Int) == 40) = false := beq_eq_false_iff_ne.mpr (hend h3).2
      have hd : decide (e ≤ p) = false := decide_eq_false (by (first | lia | omega))
      k_steps
      exact hret _ ((c, instObj 103 dx) :: (dx, curD w.params ct d p e tp) :: rest) _ _ (by k_asm) (by k_asm) ⟨_, rfl, rfl⟩
    · have hd : decide (e ≤ p) = true := decide_eq_true (by (first | lia | omega))
      k_steps
      exact hret _ ((c, instObj 103 dx) :: (dx, curD w.params ct d p e tp) :: rest) _ _ (by k_asm) (by k_asm) ⟨_, rfl, rfl⟩
theorem skip_none (h : a < e → isWh (d.getD a 0) = false ∧ ((d.getD a 0).toNat : Int) ≠ 40) (ha : a ≤ e) (he : e ≤ d.length) (hz : d.length ≤ 16777216) (hcd : c ≠ dx) (off : ∀ p ∈ rest, p.1 ≠ dx) :
    CtrM w 436 5 [.ref c] ((c, instObj 103 dx) :: (dx, curD w.params ct d a e ta) :: rest) (fun all r => ∃ t' : Tok, r = .none ∧ all = (c, instObj 103 dx) :: (dx, curD w.params ct d a e t') :: rest) :=
  skip_ok w c dx ct d a a e ta rest (Nat.le_refl _) ha he hz (fun i h1 h2 => by (first | lia | omega)) h hcd off
end

end
/-! D3 -/
section
open PyProof.V PySem.Spec PyProof.Rows.LCg
theorem reg_15 : True := by
  k_with "my call ref" => (((fail_if_success (fail_if_success (have z9 := hsD3))); ((k_here; (with_reducible show wpAny _ _ (call (Value.ref 119) _) _ _ _); (try walk_at "m_fold"); k_dflt (refine' CtrV.useS ?k0ₘ ?k1ₘ ?k2ₘ ?k3ₘ ?k4ₘ ?k5ₘ ?kKₘ ?kdₘ ?kuₘ ?_; (case k1ₘ => k_asm); (case k2ₘ => k_asm); (case k3ₘ => k_asm); (case k4ₘ => k_asm); (case k5ₘ => k_asm); (case k0ₘ => exact (lower_ok _ _ _ (by walk_at "m_om"))); (case kKₘ => first | exact rfl | assumption); (case kdₘ => ktr_room); (case kuₘ => ktr_units); k_whole); intro _ _ _ _ _; (try k_unfold); (try dsimp only); (try walk_at "m_fold")))))
  trivial
theorem small_word_ok (w : World) (l : List UInt8) (t : Tok) (hz : l.length ≤ 524288) : CtrV w 462 3 [.bytes l.toArray t] (fun t => .str (txt (lowN l)) t) := by
  have hsD3 : True := trivial
  unfold CtrV
  intro prog dp un gd cn cs aF ccd cl outer A₀ base h₀ L m news s loose mean mg mb Q E B F X N T hk hdp hu hret
  refine wpAny_call ?_
  k_dflt (refine' code_def (binds := [(Str.ofString "octets", .bytes l.toArray t)]) ?k1 ?k2 ?k3 ?k4 ?k5 ?kA ?kF ?kK ?k6 ?k7 ?k8 ?k9 ?kB ?_ ?c2 ?c3 ?c4 ?c5; (case kA => exact rfl); (case kF => exact rfl); (case kK => assumption); (case k1 => exact B); (case k2 => exact F); (case k3 => exact X); (case k4 => exact N); (case k5 => exact T); (case k6 => k_is); (case k7 => k_is); (case k8 => ktr_room); (case k9 => first | exact BindsTo.of_eq rfl | exact binds_K (Frag.In.keeps X F.keep) rfl (by k_is) rfl rfl rfl); (case c5 => decide); (case kB => exact locs rfl); (case c2 => exact rfl); (case c3 => exact rfl); (case c4 => exact rfl); k_whole; intro g L₁ h₁ FG F₁ N₁ B₁ X₁ T₁; (try dsimp only); (try walk_at "m_fold"))
  replace F₁ : Fr g L₁ h₁ (fun y => List.lookup y [(Str.ofString "octets", .bytes l.toArray t)]) := F₁
  k_steps
  unfold Stop
  rename Fr _ _ _ _ => Fw
  rename News _ _ _ _ => Nw
  refine iterG_bytes rfl Fw Nw (by rw [List.length_map, sizeLine_eq]; (first | lia | omega)) ?_
  intro hg
  refine comp_two (xs := lowN l) (R := fun v (c : Nat) => ∃ u, v = .str (txt [c]) u) (by unfold lowN; rw [List.length_map, List.length_map]) trivial ?_ ?_
  · rintro i v b ys I oI C oC D m₂ h tk E' ⟨c, u, hc, rfl⟩ hb hC hx F₂ N₂ off ne
    unfold lowN at hb
    rw [List.getElem?_map] at hb hc
    cases hl : l[i]? with
    | none => rw [hl] at hb; cases hb
    | some x =>
      rw [hl] at hb hc
      obtain rfl : lowC x.toNat = b := Option.some.inj hb
      obtain rfl : (lowC x.toNat).toUInt8 = c := Option.some.inj hc
      have h256 := lowC_lt (UInt8.toNat_lt x)
      have e8 : ((lowC x.toNat).toUInt8).toNat = lowC x.toNat := by simp; (first | lia | omega)
      rw [e8] at hx
      k_steps
      all_goals exact TurnEnd.intro [] (by k_asm) (by k_asm) ⟨_, rfl⟩
  · intro ys two
    have two : Signs ys (lowN l) := two
    have hln : (lowN l).length ≤ 524288 := by unfold lowN; rw [List.length_map]; exact hz
    k_steps
    exact end_S hret (by k_asm) (by walk_at "m_news") rfl
theorem reg_16 : True := by
  k_with "my call ref" => (((fail_if_success (fail_if_success (have z9 := hsD3))); ((k_here; (with_reducible show wpAny _ _ (call (Value.ref 51) _) _ _ _); (try walk_at "m_fold"); k_dflt (refine' CtrV1.useS ?k0ₘ ?k1ₘ ?k2ₘ ?k3ₘ ?k4ₘ ?k5ₘ ?kKₘ ?kdₘ ?kuₘ ?_; (case k1ₘ => k_asm); (case k2ₘ => k_asm); (case k3ₘ => k_asm); (case k4ₘ => k_asm); (case k5ₘ => k_asm); (case k0ₘ => exact (peek_some _ _ _ _ _ _ _ _ _ (by walk_at "m_om") (by walk_at "m_om") (by walk_at "m_om"))); (case kKₘ => first | exact rfl | assumption); (case kdₘ => ktr_room); (case kuₘ => ktr_units); k_whole); intro _ _ _ _ _; (try k_unfold); (try dsimp only); (try walk_at "m_fold")))))
  k_with "my call ref" => (((fail_if_success (fail_if_success (have z9 := hsD3))); ((k_here; (with_reducible show wpAny _ _ (call (Value.ref 51) _) _ _ _); (try walk_at "m_fold"); k_dflt (refine' CtrV1.useS ?k0ₘ ?k1ₘ ?k2ₘ ?k3ₘ ?k4ₘ ?k5ₘ ?kKₘ ?kdₘ ?kuₘ ?_; (case k1ₘ => k_asm); (case k2ₘ => k_asm); (case k3ₘ => k_asm); (case k4ₘ => k_asm); (case k5ₘ => k_asm); (case k0ₘ => exact (peek_none _ _ _ _ _ _ _ _ _ (by walk_at "m_om"))); (case kKₘ => first | exact rfl | assumption); (case kdₘ => ktr_room); (case kuₘ => ktr_units); k_whole); intro _ _ _ _ _; (try k_unfold); (try dsimp only); (try walk_at "m_fold")))))
  k_with "my call ref" => (((fail_if_success (fail_if_success (have z9 := hsD3))); ((k_here; (with_reducible show wpAny _ _ (call (Value.ref 58) _) _ _ _); (try walk_at "m_fold"); k_dflt (refine' CtrM.useS ?k0ₘ ?k1ₘ ?k2ₘ ?k3ₘ ?k4ₘ ?k5ₘ ?kKₘ ?kdₘ ?kuₘ ?_; (case k1ₘ => k_asm); (case k2ₘ => k_asm); (case k3ₘ => k_asm); (case k4ₘ => k_asm); (case k5ₘ => k_asm); (case k0ₘ => exact (take_some _ _ _ _ _ _ _ _ _ (by walk_at "m_om") (by walk_at "m_om") (by walk_at "m_om") (by assumption) (by assumption))); (case kKₘ => first | exact rfl | assumption); (case kdₘ => ktr_room); (case kuₘ => ktr_units); k_whole); intro r9ₘ all9ₘ h9ₘ tk9ₘ F9ₘ N9ₘ ho9ₘ; (refine Mine.ex_2_2 (ho9ₘ) ?_; (try clear ho9ₘ); intro t8ₘ t9ₘ e8ₘ e9ₘ); subst e8ₘ; subst e9ₘ; (try k_unfold); (try dsimp only); (try walk_at "m_fold")))))
  trivial
/-- a sign of a worth without quotes -/
noncomputable abbrev isWoC (x : UInt8) : Bool := decide ((x.toNat : Int) > 127) || isTokC x
theorem reg_17 : True := by
  k_with "my call ref" => (((fail_if_success (fail_if_success (have z9 := hsD3))); ((k_here; (with_reducible show wpAny _ _ (call (Value.ref 429) _) _ _ _); (try walk_at "m_fold"); k_dflt (refine' CtrV.useS ?k0ₘ ?k1ₘ ?k2ₘ ?k3ₘ ?k4ₘ ?k5ₘ ?kKₘ ?kdₘ ?kuₘ ?_; (case k1ₘ => k_asm); (case k2ₘ => k_asm); (case k3ₘ => k_asm); (case k4ₘ => k_asm); (case k5ₘ => k_asm); (case k0ₘ => exact (is_token_ok _ _ _ _ (by first | assumption | exact rfl))); (case kKₘ => first | exact rfl | assumption); (case kdₘ => ktr_room); (case kuₘ => ktr_units); k_whole); intro _ _ _ _ _; (try k_unfold); (try dsimp only); (try walk_at "m_fold")))))
  k_with "my call ref" => (((fail_if_success (fail_if_success (have z9 := hsD3))); ((k_here; (with_reducible show wpAny _ _ (call (Value.ref 429) _) _ _ _); (try walk_at "m_fold"); k_dflt (refine' CtrV.useS ?k0ₘ ?k1ₘ ?k2ₘ ?k3ₘ ?k4ₘ ?k5ₘ ?kKₘ ?kdₘ ?kuₘ ?_; (case k1ₘ => k_asm); (case k2ₘ => k_asm); (case k3ₘ => k_asm); (case k4ₘ => k_asm); (case k5ₘ => k_asm); (case k0ₘ => exact (is_token_neg _ _)); (case kKₘ => first | exact rfl | assumption); (case kdₘ => ktr_room); (case kuₘ => ktr_units); k_whole); intro _ _ _ _ _; (try k_unfold); (try dsimp only); (try walk_at "m_fold")))))
  trivial
theorem wo_a {x : UInt8} {v : Bool} (hv : isWoC x = v) (h : (127 : Int) < x.toNat) : decide ((127 : Int) < x.toNat) = v := by
  rw [← hv, isWoC, decide_eq_true h, Bool.true_or]
theorem wo_b {x : UInt8} {v : Bool} (hv : isWoC x = v) (h : ¬ (127 : Int) < x.toNat) : isTokC x = v := by
  rw [← hv, isWoC, decide_eq_false (p := (127 : Int) < x.toNat) h, Bool.false_or]
theorem is_worth_ok (w : World) (x : UInt8) (t : Tok) (v : Bool) (hv : isWoC x = v) : CtrV w 450 2 [.int (x.toNat : Int) t] (fun _ => .bool v) := by
  have hsD3 : True := trivial
  unfold CtrV
  intro prog dp un gd cn cs aF ccd cl outer A₀ base h₀ L m news s loose mean mg mb Q E B F X N T hk hdp hu hret
  refine wpAny_call ?_
  k_dflt (refine' code_def (binds := [(Str.ofString "code", .int (x.toNat : Int) t)]) ?k1 ?k2 ?k3 ?k4 ?k5 ?kA ?kF ?kK ?k6 ?k7 ?k8 ?k9 ?kB ?_ ?c2 ?c3 ?c4 ?c5; (case kA => exact rfl); (case kF => exact rfl); (case kK => assumption); (case k1 => exact B); (case k2 => exact F); (case k3 => exact X); (case k4 => exact N); (case k5 => exact T); (case k6 => k_is); (case k7 => k_is); (case k8 => ktr_room); (case k9 => first | exact BindsTo.of_eq rfl | exact binds_K (Frag.In.keeps X F.keep) rfl (by k_is) rfl rfl rfl); (case c5 => decide); (case kB => exact locs rfl); (case c2 => exact rfl); (case c3 => exact rfl); (case c4 => exact rfl); k_whole; intro g L₁ h₁ FG F₁ N₁ B₁ X₁ T₁; (try dsimp only); (try walk_at "m_fold"))
  replace F₁ : Fr g L₁ h₁ (fun y => List.lookup y [(Str.ofString "code", .int (x.toNat : Int) t)]) := F₁
  k_steps
  all_goals (first | exact end_B hret (by k_asm) (by walk_at "m_news") (by exact wo_a hv (by (first | lia | omega))) | exact end_B hret (by k_asm) (by walk_at "m_news") (by exact wo_b hv (by (first | lia | omega))))
theorem is_worth_neg (w : World) (t : Tok) : CtrV w 450 2 [.int (-1) t] (fun _ => .bool false) := by
  have hsD3 : True := trivial
  unfold CtrV
  intro prog dp un gd cn cs aF ccd cl outer A₀ base h₀ L m news s loose mean mg mb Q E B F X N T hk hdp hu hret
  refine wpAny_call ?_
  k_dflt (refine' code_def (binds := [(Str.ofString "code", .int (-1) t)]) ?k1 ?k2 ?k3 ?k4 ?k5 ?kA ?kF ?kK ?k6 ?k7 ?k8 ?k9 ?kB ?_ ?c2 ?c3 ?c4 ?c5; (case kA => exact rfl); (case kF => exact rfl); (case kK => assumption); (case k1 => exact B); (case k2 => exact F); (case k3 => exact X); (case k4 => exact N); (case k5 => exact T); (case k6 => k_is); (case k7 => k_is); (case k8 => ktr_room); (case k9 => first | exact BindsTo.of_eq rfl | exact binds_K (Frag.In.keeps X F.keep) rfl (by k_is) rfl rfl rfl); (case c5 => decide); (case kB => exact locs rfl); (case c2 => exact rfl); (case c3 => exact rfl); (case c4 => exact rfl); k_whole; intro g L₁ h₁ FG F₁ N₁ B₁ X₁ T₁; (try dsimp only); (try walk_at "m_fold"))
  replace F₁ : Fr g L₁ h₁ (fun y => List.lookup y [(Str.ofString "code", .int (-1) t)]) := F₁
  k_steps
  exact hret 0 _ _ (by k_asm) (by k_asm)
theorem reg_18 : True := by
  k_with "my call ref" => (((fail_if_success (fail_if_success (have z9 := hsD3))); ((k_here; (with_reducible show wpAny _ _ (call (Value.ref 450) _) _ _ _); (try walk_at "m_fold"); k_dflt (refine' CtrV.useS ?k0ₘ ?k1ₘ ?k2ₘ ?k3ₘ ?k4ₘ ?k5ₘ ?kKₘ ?kdₘ ?kuₘ ?_; (case k1ₘ => k_asm); (case k2ₘ => k_asm); (case k3ₘ => k_asm); (case k4ₘ => k_asm); (case k5ₘ => k_asm); (case k0ₘ => exact (is_worth_ok _ _ _ _ (by assumption))); (case kKₘ => first | exact rfl | assumption); (case kdₘ => ktr_room); (case kuₘ => ktr_units); k_whole); intro _ _ _ _ _; (try k_unfold); (try dsimp only); (try walk_at "m_fold")))))
  k_with "my call ref" => (((fail_if_success (fail_if_success (have z9 := hsD3))); ((k_here; (with_reducible show wpAny _ _ (call (Value.ref 450) _) _ _ _); (try walk_at "m_fold"); k_dflt (refine' CtrV.useS ?k0ₘ ?k1ₘ ?k2ₘ ?k3ₘ ?k4ₘ ?k5ₘ ?kKₘ ?kdₘ ?kuₘ ?_; (case k1ₘ => k_asm); (case k2ₘ => k_asm); (case k3ₘ => k_asm); (case k4ₘ => k_asm); (case k5ₘ => k_asm); (case k0ₘ => exact (is_worth_neg _ _)); (case kKₘ => first | exact rfl | assumption); (case kdₘ => ktr_room); (case kuₘ => ktr_units); k_whole); intro _ _ _ _ _; (try k_unfold); (try dsimp only); (try walk_at "m_fold")))))
  trivial
section
variable (w : World) (c dx : Addr) (ct : CT) (d : List UInt8) (a b e : Nat) (ta : Tok) (rest : List (Addr × Obj))
theorem take_worth_ok (hab : a < b) (hbe : b ≤ e) (he : e ≤ d.length) (hz : d.length ≤ 16777216) (hq : (((d.getD a 0).toNat : Int) == 34) = false) (hall : ∀ i, a ≤ i → i < b → isWoC (d.getD i 0) = true) (hend : b < e → isWoC (d.getD b 0) = false) (hcd : c ≠ dx) (off : ∀ p ∈ rest, p.1 ≠ dx) :
    CtrM w 457 5 [.ref c] ((c, instObj 103 dx) :: (dx, curD w.params ct d a e ta) :: rest) (fun all r => ∃ t t', r = .bytes (seg d a b).toArray t ∧ all = (c, instObj 103 dx) :: (dx, curD w.params ct d b e t') :: rest) := by
  have hsD3 : True := trivial
  unfold CtrM
  intro prog dp un gd cn cs aF ccd cl outer A₀ base h₀ L m s loose mean mg mb Q E B F X N T hk hdp hu hret
  refine wpAny_call ?_
  k_dflt (refine' code_def (binds := [(Str.ofString "cursor", .ref c)]) ?k1 ?k2 ?k3 ?k4 ?k5 ?kA ?kF ?kK ?k6 ?k7 ?k8 ?k9 ?kB ?_ ?c2 ?c3 ?c4 ?c5; (case kA => exact rfl); (case kF => exact rfl); (case kK => assumption); (case k1 => exact B); (case k2 => exact F); (case k3 => exact X); (case k4 => exact N); (case k5 => exact T); (case k6 => k_is); (case k7 => k_is); (case k8 => ktr_room); (case k9 => first | exact BindsTo.of_eq rfl | exact binds_K (Frag.In.keeps X F.keep) rfl (by k_is) rfl rfl rfl); (case c5 => decide); (case kB => exact locs rfl); (case c2 => exact rfl); (case c3 => exact rfl); (case c4 => exact rfl); k_whole; intro g L₁ h₁ FG F₁ N₁ B₁ X₁ T₁; (try dsimp only); (try walk_at "m_fold"))
  replace F₁ : Fr g L₁ h₁ (fun y => List.lookup y [(Str.ofString "cursor", .ref c)]) := F₁
  k_steps
  unfold Stop
  rename Fr _ _ _ _ => Fw
  rename News _ _ _ _ => Nw
  refine while_st (σ := Nat × Tok) (fun p => (c, instObj 103 dx) :: (dx, curD w.params ct d p.1 e p.2) :: rest) (fun _ => []) [] (fun p => a ≤ p.1 ∧ p.1 ≤ b) (fun p => b - p.1) (a, ta) Fw Nw (by walk_at "m_all") ⟨Nat.le_refl _, Nat.le_of_lt hab⟩ ?_
  clear Fw Nw
  rintro ⟨p, tp⟩ u h2 tk2 ⟨hap, hpb⟩ F₂ N₂
  dsimp only [frB, kstB] at hap hpb F₂ N₂ ⊢
  (try walk_at "m_fold")
  rcases Nat.lt_or_ge p b with hp | hp
  · have ht := hall p hap hp
    k_steps
    exact WhPost.next (p + 1, _) (by k_asm) (by k_asm) (fun _ h => h) (by walk_at "m_frok") ⟨by dsimp only; (first | lia | omega), by dsimp only; (first | lia | omega)⟩ (by dsimp only; (first | lia | omega))
  · obtain rfl : p = b := by (first | lia | omega)
    have hne : ((p : Int) == (a : Int)) = false := beq_eq_false_iff_ne.mpr (by (first | lia | omega))
    (try walk_at "m_fold")
    rcases Nat.lt_or_ge p e with h3 | h3
    · have ht := hend h3
      k_steps
      exact hret _ ((c, instObj 103 dx) :: (dx, curD w.params ct d p e tp) :: rest) _ _ (by k_asm) (by k_asm) ⟨_, _, rfl, rfl⟩
    · k_steps
      exact hret _ ((c, instObj 103 dx) :: (dx, curD w.params ct d p e tp) :: rest) _ _ (by k_asm) (by k_asm) ⟨_, _, rfl, rfl⟩
end
theorem line_end_ok (w : World) (d : List UInt8) (t : Tok) (a : Nat) (ta : Tok) (hz : d.length ≤ 16777216) (h1 : (seg d a (a + 1) == [10]) = false) (h2 : (seg d a (a + 2) == [13, 10]) = false) : CtrV w 346 1 [.bytes d.toArray t, .int a ta] (fun t => .int (-1) t) := by
  have hsD3 : True := trivial
  unfold CtrV
  intro prog dp un gd cn cs aF ccd cl outer A₀ base h₀ L m news s loose mean mg mb Q E B F X N T hk hdp hu hret
  refine wpAny_call ?_
  k_dflt (refine' code_def (binds := [(Str.ofString "data", .bytes d.toArray t), (Str.ofString "at", .int a ta)]) ?k1 ?k2 ?k3 ?k4 ?k5 ?kA ?kF ?kK ?k6 ?k7 ?k8 ?k9 ?kB ?_ ?c2 ?c3 ?c4 ?c5; (case kA => exact rfl); (case kF => exact rfl); (case kK => assumption); (case k1 => exact B); (case k2 => exact F); (case k3 => exact X); (case k4 => exact N); (case k5 => exact T); (case k6 => k_is); (case k7 => k_is); (case k8 => ktr_room); (case k9 => first | exact BindsTo.of_eq rfl | exact binds_K (Frag.In.keeps X F.keep) rfl (by k_is) rfl rfl rfl); (case c5 => decide); (case kB => exact locs rfl); (case c2 => exact rfl); (case c3 => exact rfl); (case c4 => exact rfl); k_whole; intro g L₁ h₁ FG F₁ N₁ B₁ X₁ T₁; (try dsimp only); (try walk_at "m_fold"))
  replace F₁ : Fr g L₁ h₁ (fun y => List.lookup y [(Str.ofString "at", .int a ta), (Str.ofString "data", .bytes d.toArray t)]) := F₁
  k_steps
  exact hret _ _ _ (by k_asm) (by k_asm)
theorem reg_19 : True := by
  k_with "my call ref" => (((fail_if_success (fail_if_success (have z9 := hsD3))); ((k_here; (with_reducible show wpAny _ _ (call (Value.ref 346) _) _ _ _); (try walk_at "m_fold"); k_dflt (refine' CtrV.useS ?k0ₘ ?k1ₘ ?k2ₘ ?k3ₘ ?k4ₘ ?k5ₘ ?kKₘ ?kdₘ ?kuₘ ?_; (case k1ₘ => k_asm); (case k2ₘ => k_asm); (case k3ₘ => k_asm); (case k4ₘ => k_asm); (case k5ₘ => k_asm); (case k0ₘ => exact (line_end_ok _ _ _ _ _ (by walk_at "m_om") (by assumption) (by assumption))); (case kKₘ => first | exact rfl | assumption); (case kdₘ => ktr_room); (case kuₘ => ktr_units); k_whole); intro _ _ _ _ _; (try k_unfold); (try dsimp only); (try walk_at "m_fold")))))
  trivial
theorem end_one {h₀ h' : Heap} {L D : Addr} {o : Obj} {m : Str → Option Value} {news : List (Addr × Obj)} {s : Shared} {Q : Value → Shared → Prop} {tk' : Tok} {Out : List (Addr × Obj) → Value → Prop}
    (hret : ∀ r tl h' tk', Fr h₀ L h' m → News h₀ L h' (tl ++ news) → (∀ q ∈ news, ∀ p ∈ tl, q.1 < p.1) → Out tl r → Q r { s with heap := h', toks := tk' })
    (F : Fr h₀ L h' m) (N : News h₀ L h' ((D, o) :: news)) (l : ∀ p ∈ news, p.1 < D) (ho : Out [(D, o)] (.ref D)) : Q (.ref D) { s with heap := h', toks := tk' } :=
  hret _ [_] _ _ F N (fun q hq p hp => by rw [List.mem_singleton.mp hp]; exact l q hq) ho
theorem inside_at_ok (w : World) (d : List UInt8) (t : Tok) (a : Nat) (ta : Tok) (b : Nat) (tb : Tok) (hz : d.length ≤ 16777216) (ha : a < d.length) (h0 : (((d.getD a 0).toNat : Int) == 92) = false) (h1 : (seg d a (a + 1) == [10]) = false) (h2 : (seg d a (a + 2) == [13, 10]) = false)
    (h3 : decide (((d.getD a 0).toNat : Int) = 0 ∨ ((d.getD a 0).toNat : Int) = 10 ∨ ((d.getD a 0).toNat : Int) = 13) = false) (news : List (Addr × Obj)) :
    CtrA w 353 2 [.bytes d.toArray t, .int a ta, .int b tb] news (fun tl r => ∃ p t1 t2, r = .ref p ∧ tl = [(p, tup [.bytes (seg d a (a + 1)).toArray t1, .int ((a + 1 : Nat) : Int) t2])]) := by
  have hsD3 : True := trivial
  unfold CtrA
  intro prog dp un gd cn cs aF ccd cl outer A₀ base h₀ L m s loose mean mg mb Q E B F X N T hk hdp hu hret
  refine wpAny_call ?_
  k_dflt (refine' code_def (binds := [(Str.ofString "data", .bytes d.toArray t), (Str.ofString "at", .int a ta), (Str.ofString "begun", .int b tb)]) ?k1 ?k2 ?k3 ?k4 ?k5 ?kA ?kF ?kK ?k6 ?k7 ?k8 ?k9 ?kB ?_ ?c2 ?c3 ?c4 ?c5; (case kA => exact rfl); (case kF => exact rfl); (case kK => assumption); (case k1 => exact B); (case k2 => exact F); (case k3 => exact X); (case k4 => exact N); (case k5 => exact T); (case k6 => k_is); (case k7 => k_is); (case k8 => ktr_room); (case k9 => first | exact BindsTo.of_eq rfl | exact binds_K (Frag.In.keeps X F.keep) rfl (by k_is) rfl rfl rfl); (case c5 => decide); (case kB => exact locs rfl); (case c2 => exact rfl); (case c3 => exact rfl); (case c4 => exact rfl); k_whole; intro g L₁ h₁ FG F₁ N₁ B₁ X₁ T₁; (try dsimp only); (try walk_at "m_fold"))
  replace F₁ : Fr g L₁ h₁ (fun y => List.lookup y [(Str.ofString "begun", .int b tb), (Str.ofString "at", .int a ta), (Str.ofString "data", .bytes d.toArray t)]) := F₁
  k_steps
  exact end_one hret (by k_asm) (by k_asm) (by k_asm) ⟨_, _, _, rfl, rfl⟩

end
/-! D4 -/
section
open PyProof.V PySem.Spec PyProof.Rows.LCg
theorem reg_20 : True := by
  k_with "my call ref" => (((fail_if_success (fail_if_success (have z9 := hsD4))); ((k_here; (with_reducible show wpAny _ _ (call (Value.ref 353) _) _ _ _); (try walk_at "m_fold"); k_dflt (refine' CtrA.useS ?k0ₘ ?k1ₘ ?k2ₘ ?k3ₘ ?k4ₘ ?k5ₘ ?kKₘ ?kdₘ ?kuₘ ?_; (case k1ₘ => k_asm); (case k2ₘ => k_asm); (case k3ₘ => k_asm); (case k4ₘ => k_asm); (case k5ₘ => k_asm); (case k0ₘ => exact (inside_at_ok _ _ _ _ _ _ _ (by walk_at "m_om") (by walk_at "m_om") (by assumption) (by assumption) (by assumption) (by assumption) _)); (case kKₘ => first | exact rfl | assumption); (case kdₘ => ktr_room); (case kuₘ => ktr_units); k_whole); intro r9ₘ tl9ₘ h9ₘ tk9ₘ F9ₘ N9ₘ hl9ₘ ho9ₘ; (refine Mine.ex_3_2 (ho9ₘ) ?_; (try clear ho9ₘ); intro p9ₘ t8ₘ t9ₘ e8ₘ e9ₘ); subst e8ₘ; subst e9ₘ; replace hl9ₘ := Mine.lt_one hl9ₘ; (try simp only [AllLt, and_true] at hl9ₘ); (try simp only [List.cons_append, List.nil_append] at N9ₘ); (try k_sweep); (try k_unfold); (try dsimp only); (try walk_at "m_fold")))))
  trivial
theorem news_skip2 {h₀ h : Heap} {L : Addr} {a b : Addr × Obj} {l : List (Addr × Obj)} (N : News h₀ L h (a :: b :: l)) : News h₀ L h (a :: l) := fun p hp => (List.mem_cons.mp hp).elim (fun e => e ▸ N _ (.head _)) fun hp => N _ (.tail _ (.tail _ hp))
/-- a worth of one sign in quotes -/
structure Quo (d : List UInt8) (b : Nat) : Prop where
  len : b + 2 < d.length
  h0 : (((d.getD (b + 1) 0).toNat : Int) == 92) = false
  h1 : (seg d (b + 1) (b + 2) == [10]) = false
  h2 : (seg d (b + 1) (b + 3) == [13, 10]) = false
  h3 : decide (((d.getD (b + 1) 0).toNat : Int) = 0 ∨ ((d.getD (b + 1) 0).toNat : Int) = 10 ∨ ((d.getD (b + 1) 0).toNat : Int) = 13) = false
  h4 : (seg d (b + 1) (b + 2) != [34]) = true
  h5 : (seg d (b + 2) (b + 3) != [34]) = false
theorem closed_at_ok (w : World) (d : List UInt8) (t : Tok) (b : Nat) (tb : Tok) (u1 u2 : Tok) (hz : d.length ≤ 16777216) (q : Quo d b) (news : List (Addr × Obj)) :
    CtrA w 360 4 [.bytes d.toArray t, .int b tb, .bytes #[34] u1, .bytes #[] u2] news (fun tl r => ∃ p t1 t2, r = .ref p ∧ tl = [(p, tup [.bytes (seg d (b + 1) (b + 2)).toArray t1, .int ((b + 3 : Nat) : Int) t2])]) := by
  have hsD4 : True := trivial
  unfold CtrA
  intro prog dp un gd cn cs aF ccd cl outer A₀ base h₀ L m s loose mean mg mb Q E B F X N T hk hdp hu hret
  refine wpAny_call ?_
  k_dflt (refine' code_def (binds := [(Str.ofString "data", .bytes d.toArray t), (Str.ofString "begun", .int b tb), (Str.ofString "closing", .bytes #[34] u1), (Str.ofString "barred", .bytes #[] u2)]) ?k1 ?k2 ?k3 ?k4 ?k5 ?kA ?kF ?kK ?k6 ?k7 ?k8 ?k9 ?kB ?_ ?c2 ?c3 ?c4 ?c5; (case kA => exact rfl); (case kF => exact rfl); (case kK => assumption); (case k1 => exact B); (case k2 => exact F); (case k3 => exact X); (case k4 => exact N); (case k5 => exact T); (case k6 => k_is); (case k7 => k_is); (case k8 => ktr_room); (case k9 => first | exact BindsTo.of_eq rfl | exact binds_K (Frag.In.keeps X F.keep) rfl (by k_is) rfl rfl rfl); (case c5 => decide); (case kB => exact locs rfl); (case c2 => exact rfl); (case c3 => exact rfl); (case c4 => exact rfl); k_whole; intro g L₁ h₁ FG F₁ N₁ B₁ X₁ T₁; (try dsimp only); (try walk_at "m_fold"))
  replace F₁ : Fr g L₁ h₁ (fun y => List.lookup y [(Str.ofString "barred", .bytes #[] u2), (Str.ofString "closing", .bytes #[34] u1), (Str.ofString "begun", .int b tb), (Str.ofString "data", .bytes d.toArray t)]) := F₁
  k_steps
  unfold Stop
  rename Fr _ _ _ _ => Fw
  rename News _ _ _ _ => Nw
  rename_i D _ l1 _ _ ta0 _ _ _
  refine while_st (σ := List Value × Nat × Nat × Tok) (fun x => (D, listOf x.1.toArray x.2.1) :: news) (fun x => [(Str.ofString "at", .int (x.2.2.1 : Int) x.2.2.2)]) [Str.ofString "octets"]
    (fun x => (x.1 = [] ∧ x.2.2.1 = b + 1) ∨ (∃ t1, x.1 = [.bytes (seg d (b + 1) (b + 2)).toArray t1] ∧ x.2.2.1 = b + 2)) (fun x => b + 2 - x.2.2.1) ([], 0, b + 1, ta0) Fw Nw (by walk_at "m_all") (.inl ⟨rfl, rfl⟩) ?_
  clear Fw Nw
  rintro ⟨ys, n, p, tp⟩ u h2 tk2 hP F₂ N₂
  dsimp only [frB, kstB] at hP F₂ N₂ ⊢
  (try walk_at "m_fold")
  obtain ⟨ql, q0, q1, q2, q3, q4, q5⟩ := q
  (try walk_at "m_fold")
  rcases hP with ⟨rfl, rfl⟩ | ⟨t1, rfl, rfl⟩
  · have hbar : ([] : List UInt8).contains (d.getD (b + 1) 0) = false := rfl
    k_steps
    rename News _ _ _ _ => Nx
    exact WhPost.next ([.bytes (seg d (b + 1) (b + 2)).toArray _], n + 1, b + 2, _) (by k_asm) Nx (fun _ hp => .tail _ hp) (by walk_at "m_frok") (.inr ⟨_, rfl, rfl⟩) (by dsimp only; (first | lia | omega))
  · have hoc : Octs [.bytes (seg d (b + 1) (b + 2)).toArray t1] [seg d (b + 1) (b + 2)] := octs_one
    have hsl : (seg d (b + 1) (b + 2)).length ≤ 16777216 := seg_le hz
    k_steps
    rename News _ _ _ _ => Nx
    rename (D < _ ∧ _) => l9
    simp only [List.flatten_cons, List.flatten_nil, List.append_nil] at Nx
    exact hret _ [_] _ _ (by k_asm) (news_skip2 Nx) (ord_cons l9.2 ord_nil) ⟨_, _, _, rfl, rfl⟩

end
/-! D5 -/
section
open PyProof.V PySem.Spec PyProof.Rows.LCg
theorem CtrM.mono {w : World} {f : Addr} {need : Nat} {vs : List Value} {news news' : List (Addr × Obj)} {Out : List (Addr × Obj) → Value → Prop} (h : CtrM w f need vs news Out) (s : ∀ p ∈ news, p ∈ news') : CtrM w f need vs news' Out := by
  intro prog dp un gd cn cs aF ccd cl outer A₀ base h₀ L m st loose mean mg mb Q E B F X N T hk hdp hu hret
  exact h prog dp un gd cn cs aF ccd cl outer A₀ base h₀ L m st loose mean mg mb Q E B F X (news_sub N s) T hk hdp hu hret
theorem CtrM.rot1 {w : World} {f : Addr} {need : Nat} {vs : List Value} {c dx x : Addr × Obj} {rest : List (Addr × Obj)} {Out : List (Addr × Obj) → Value → Prop} (h : CtrM w f need vs (c :: dx :: x :: rest) Out) : CtrM w f need vs (x :: c :: dx :: rest) Out :=
  h.mono fun p hp => by
    simp only [List.mem_cons] at hp ⊢
    rcases hp with h | h | h | h <;> simp [h]
theorem reg_21 : True := by
  k_with "my call ref" => (((fail_if_success (fail_if_success (have z9 := hsD5))); ((k_here; (with_reducible show wpAny _ _ (call (Value.ref 360) _) _ _ _); (try walk_at "m_fold"); k_dflt (refine' CtrA.useS ?k0ₘ ?k1ₘ ?k2ₘ ?k3ₘ ?k4ₘ ?k5ₘ ?kKₘ ?kdₘ ?kuₘ ?_; (case k1ₘ => k_asm); (case k2ₘ => k_asm); (case k3ₘ => k_asm); (case k4ₘ => k_asm); (case k5ₘ => k_asm); (case k0ₘ => exact (closed_at_ok _ _ _ _ _ _ _ (by walk_at "m_om") (by assumption) _)); (case kKₘ => first | exact rfl | assumption); (case kdₘ => ktr_room); (case kuₘ => ktr_units); k_whole); intro r9ₘ tl9ₘ h9ₘ tk9ₘ F9ₘ N9ₘ hl9ₘ ho9ₘ; (refine Mine.ex_3_2 (ho9ₘ) ?_; (try clear ho9ₘ); intro p9ₘ t8ₘ t9ₘ e8ₘ e9ₘ); subst e8ₘ; subst e9ₘ; replace hl9ₘ := Mine.lt_one hl9ₘ; (try simp only [AllLt, and_true] at hl9ₘ); (try simp only [List.cons_append, List.nil_append] at N9ₘ); (try k_sweep); (try k_unfold); (try dsimp only); (try walk_at "m_fold")))))
  k_with "my call ref" => (((fail_if_success (fail_if_success (have z9 := hsD5))); ((k_here; (with_reducible show wpAny _ _ (call (Value.ref 51) _) _ _ _); (try walk_at "m_fold"); k_dflt (refine' CtrV1.useS ?k0ₘ ?k1ₘ ?k2ₘ ?k3ₘ ?k4ₘ ?k5ₘ ?kKₘ ?kdₘ ?kuₘ ?_; (case k1ₘ => k_asm); (case k2ₘ => k_asm); (case k3ₘ => k_asm); (case k4ₘ => k_asm); (case k5ₘ => k_asm); (case k0ₘ => exact (peek_some _ _ _ _ _ _ _ _ _ (by walk_at "m_om") (by walk_at "m_om") (by walk_at "m_om"))); (case kKₘ => first | exact rfl | assumption); (case kdₘ => ktr_room); (case kuₘ => ktr_units); k_whole); intro _ _ _ _ _; (try k_unfold); (try dsimp only); (try walk_at "m_fold")))))
  k_with "my call ref" => (((fail_if_success (fail_if_success (have z9 := hsD5))); ((k_here; (with_reducible show wpAny _ _ (call (Value.ref 51) _) _ _ _); (try walk_at "m_fold"); k_dflt (refine' CtrV1.useS ?k0ₘ ?k1ₘ ?k2ₘ ?k3ₘ ?k4ₘ ?k5ₘ ?kKₘ ?kdₘ ?kuₘ ?_; (case k1ₘ => k_asm); (case k2ₘ => k_asm); (case k3ₘ => k_asm); (case k4ₘ => k_asm); (case k5ₘ => k_asm); (case k0ₘ => exact (peek_none _ _ _ _ _ _ _ _ _ (by walk_at "m_om"))); (case kKₘ => first | exact rfl | assumption); (case kdₘ => ktr_room); (case kuₘ => ktr_units); k_whole); intro _ _ _ _ _; (try k_unfold); (try dsimp only); (try walk_at "m_fold")))))
  trivial
section
variable (w : World) (c dx : Addr) (ct : CT) (d : List UInt8) (a e : Nat) (ta : Tok) (rest : List (Addr × Obj))
theorem take_worth_q (h : a < e) (he : e ≤ d.length) (hz : d.length ≤ 16777216) (hq : (((d.getD a 0).toNat : Int) == 34) = true) (q : Quo d a) (hcd : c ≠ dx) (off : ∀ p ∈ rest, p.1 ≠ dx) :
    CtrM w 457 5 [.ref c] ((c, instObj 103 dx) :: (dx, curD w.params ct d a e ta) :: rest) (fun all r => ∃ t t', r = .bytes (seg d (a + 1) (a + 2)).toArray t ∧ all = (c, instObj 103 dx) :: (dx, curD w.params ct d (a + 3) e t') :: rest) := by
  have hsD5 : True := trivial
  unfold CtrM
  intro prog dp un gd cn cs aF ccd cl outer A₀ base h₀ L m s loose mean mg mb Q E B F X N T hk hdp hu hret
  refine wpAny_call ?_
  k_dflt (refine' code_def (binds := [(Str.ofString "cursor", .ref c)]) ?k1 ?k2 ?k3 ?k4 ?k5 ?kA ?kF ?kK ?k6 ?k7 ?k8 ?k9 ?kB ?_ ?c2 ?c3 ?c4 ?c5; (case kA => exact rfl); (case kF => exact rfl); (case kK => assumption); (case k1 => exact B); (case k2 => exact F); (case k3 => exact X); (case k4 => exact N); (case k5 => exact T); (case k6 => k_is); (case k7 => k_is); (case k8 => ktr_room); (case k9 => first | exact BindsTo.of_eq rfl | exact binds_K (Frag.In.keeps X F.keep) rfl (by k_is) rfl rfl rfl); (case c5 => decide); (case kB => exact locs rfl); (case c2 => exact rfl); (case c3 => exact rfl); (case c4 => exact rfl); k_whole; intro g L₁ h₁ FG F₁ N₁ B₁ X₁ T₁; (try dsimp only); (try walk_at "m_fold"))
  replace F₁ : Fr g L₁ h₁ (fun y => List.lookup y [(Str.ofString "cursor", .ref c)]) := F₁
  k_steps
  rename News _ _ _ _ => Nx
  exact hret _ _ _ _ (by k_asm) (news_d1 Nx) ⟨_, _, rfl, rfl⟩
end

end
/-! D6 -/
section
open PyProof.V PySem.Spec PyProof.Rows.LCg
theorem reg_22 : True := by
  k_with "my call ref" => (((fail_if_success (fail_if_success (have z9 := hsD6))); ((k_here; (with_reducible show wpAny _ _ (call (Value.ref 51) _) _ _ _); (try walk_at "m_fold"); k_dflt (refine' CtrV1.useS ?k0ₘ ?k1ₘ ?k2ₘ ?k3ₘ ?k4ₘ ?k5ₘ ?kKₘ ?kdₘ ?kuₘ ?_; (case k1ₘ => k_asm); (case k2ₘ => k_asm); (case k3ₘ => k_asm); (case k4ₘ => k_asm); (case k5ₘ => k_asm); (case k0ₘ => exact (peek_some _ _ _ _ _ _ _ _ _ (by walk_at "m_om") (by walk_at "m_om") (by walk_at "m_om"))); (case kKₘ => first | exact rfl | assumption); (case kdₘ => ktr_room); (case kuₘ => ktr_units); k_whole); intro _ _ _ _ _; (try k_unfold); (try dsimp only); (try walk_at "m_fold")))))
  k_with "my call ref" => (((fail_if_success (fail_if_success (have z9 := hsD6))); ((k_here; (with_reducible show wpAny _ _ (call (Value.ref 51) _) _ _ _); (try walk_at "m_fold"); k_dflt (refine' CtrV1.useS ?k0ₘ ?k1ₘ ?k2ₘ ?k3ₘ ?k4ₘ ?k5ₘ ?kKₘ ?kdₘ ?kuₘ ?_; (case k1ₘ => k_asm); (case k2ₘ => k_asm); (case k3ₘ => k_asm); (case k4ₘ => k_asm); (case k5ₘ => k_asm); (case k0ₘ => exact (peek_none _ _ _ _ _ _ _ _ _ (by walk_at "m_om"))); (case kKₘ => first | exact rfl | assumption); (case kdₘ => ktr_room); (case kuₘ => ktr_units); k_whole); intro _ _ _ _ _; (try k_unfold); (try dsimp only); (try walk_at "m_fold")))))
  k_with "my call ref" => (((fail_if_success (fail_if_success (have z9 := hsD6))); ((k_here; (with_reducible show wpAny _ _ (call (Value.ref 43) _) _ _ _); (try walk_at "m_fold"); k_dflt (refine' CtrV1.useS ?k0ₘ ?k1ₘ ?k2ₘ ?k3ₘ ?k4ₘ ?k5ₘ ?kKₘ ?kdₘ ?kuₘ ?_; (case k1ₘ => k_asm); (case k2ₘ => k_asm); (case k3ₘ => k_asm); (case k4ₘ => k_asm); (case k5ₘ => k_asm); (case k0ₘ => exact (is_done_ok _ _ _ _ _ _ _ _ _ _ (by assumption))); (case kKₘ => first | exact rfl | assumption); (case kdₘ => ktr_room); (case kuₘ => ktr_units); k_whole); intro _ _ _ _ _; (try k_unfold); (try dsimp only); (try walk_at "m_fold")))))
  k_with "my call ref" => (((fail_if_success (fail_if_success (have z9 := hsD6))); ((k_here; (with_reducible show wpAny _ _ (call (Value.ref 462) _) _ _ _); (try walk_at "m_fold"); k_dflt (refine' CtrV.useS ?k0ₘ ?k1ₘ ?k2ₘ ?k3ₘ ?k4ₘ ?k5ₘ ?kKₘ ?kdₘ ?kuₘ ?_; (case k1ₘ => k_asm); (case k2ₘ => k_asm); (case k3ₘ => k_asm); (case k4ₘ => k_asm); (case k5ₘ => k_asm); (case k0ₘ => exact (small_word_ok _ _ _ (by walk_at "m_sl"))); (case kKₘ => first | exact rfl | assumption); (case kdₘ => ktr_room); (case kuₘ => ktr_units); k_whole); intro _ _ _ _ _; (try k_unfold); (try dsimp only); (try walk_at "m_fold")))))
  k_with "my call ref" => (((fail_if_success (fail_if_success (have z9 := hsD6))); ((k_here; (with_reducible show wpAny _ _ (call (Value.ref 58) _) _ _ _); (try walk_at "m_fold"); k_dflt (refine' CtrM.useS ?k0ₘ ?k1ₘ ?k2ₘ ?k3ₘ ?k4ₘ ?k5ₘ ?kKₘ ?kdₘ ?kuₘ ?_; (case k1ₘ => k_asm); (case k2ₘ => k_asm); (case k3ₘ => k_asm); (case k4ₘ => k_asm); (case k5ₘ => k_asm); (case k0ₘ => exact (take_some _ _ _ _ _ _ _ _ _ (by walk_at "m_om") (by walk_at "m_om") (by walk_at "m_om") (by assumption) (by walk_at "m_off"))); (case kKₘ => first | exact rfl | assumption); (case kdₘ => ktr_room); (case kuₘ => ktr_units); k_whole); intro r9ₘ all9ₘ h9ₘ tk9ₘ F9ₘ N9ₘ ho9ₘ; (refine Mine.ex_2_2 (ho9ₘ) ?_; (try clear ho9ₘ); intro t8ₘ t9ₘ e8ₘ e9ₘ); subst e8ₘ; subst e9ₘ; (try k_unfold); (try dsimp only); (try walk_at "m_fold")))))
  k_with "my call ref" => (((fail_if_success (fail_if_success (have z9 := hsD6))); ((k_here; (with_reducible show wpAny _ _ (call (Value.ref 436) _) _ _ _); (try walk_at "m_fold"); k_dflt (refine' CtrM.useS ?k0ₘ ?k1ₘ ?k2ₘ ?k3ₘ ?k4ₘ ?k5ₘ ?kKₘ ?kdₘ ?kuₘ ?_; (case k1ₘ => k_asm); (case k2ₘ => k_asm); (case k3ₘ => k_asm); (case k4ₘ => k_asm); (case k5ₘ => k_asm); (case k0ₘ => exact (skip_none _ _ _ _ _ _ _ _ _ (by walk_at "m_sk") (by walk_at "m_om") (by walk_at "m_om") (by walk_at "m_om") (by assumption) (by walk_at "m_off"))); (case kKₘ => first | exact rfl | assumption); (case kdₘ => ktr_room); (case kuₘ => ktr_units); k_whole); intro r9ₘ all9ₘ h9ₘ tk9ₘ F9ₘ N9ₘ ho9ₘ; (refine Mine.ex_1_2 (ho9ₘ) ?_; (try clear ho9ₘ); intro t9ₘ e8ₘ e9ₘ); subst e8ₘ; subst e9ₘ; (try k_unfold); (try dsimp only); (try walk_at "m_fold")))))
  k_with "my call ref" => (((fail_if_success (fail_if_success (have z9 := hsD6))); ((k_here; (with_reducible show wpAny _ _ (call (Value.ref 436) _) _ _ _); (try walk_at "m_fold"); k_dflt (refine' CtrM.useS ?k0ₘ ?k1ₘ ?k2ₘ ?k3ₘ ?k4ₘ ?k5ₘ ?kKₘ ?kdₘ ?kuₘ ?_; (case k1ₘ => k_asm); (case k2ₘ => k_asm); (case k3ₘ => k_asm); (case k4ₘ => k_asm); (case k5ₘ => k_asm); (case k0ₘ => exact (CtrM.rot1 (skip_none _ _ _ _ _ _ _ _ _ (by walk_at "m_sk") (by walk_at "m_om") (by walk_at "m_om") (by walk_at "m_om") (by assumption) (by walk_at "m_off")))); (case kKₘ => first | exact rfl | assumption); (case kdₘ => ktr_room); (case kuₘ => ktr_units); k_whole); intro r9ₘ all9ₘ h9ₘ tk9ₘ F9ₘ N9ₘ ho9ₘ; (refine Mine.ex_1_2 (ho9ₘ) ?_; (try clear ho9ₘ); intro t9ₘ e8ₘ e9ₘ); subst e8ₘ; subst e9ₘ; (try k_unfold); (try dsimp only); (try walk_at "m_fold")))))
  trivial
theorem sub_swap {a b x y : Addr × Obj} {l : List (Addr × Obj)} : ∀ p ∈ a :: b :: y :: ([x] ++ l), p ∈ a :: b :: x :: y :: l := fun p hp => by
  simp only [List.cons_append, List.nil_append, List.mem_cons] at hp ⊢
  rcases hp with h | h | h | h | h <;> simp [h]
section
variable (w : World) (c dx : Addr) (ct : CT) (d : List UInt8) (a e : Nat) (ta : Tok) (rest : List (Addr × Obj))
theorem take_pairs_none (h : e ≤ a) (he : e ≤ d.length) (ha : a ≤ e) (hz : d.length ≤ 16777216) (hcd : c ≠ dx) (off : ∀ p ∈ rest, p.1 ≠ dx) :
    CtrM w 469 6 [.ref c] ((c, instObj 103 dx) :: (dx, curD w.params ct d a e ta) :: rest) (fun all r => ∃ D n t', r = .ref D ∧ all = (c, instObj 103 dx) :: (dx, curD w.params ct d a e t') :: (D, listOf #[] n) :: rest) := by
  have hsD6 : True := trivial
  unfold CtrM
  intro prog dp un gd cn cs aF ccd cl outer A₀ base h₀ L m s loose mean mg mb Q E B F X N T hk hdp hu hret
  refine wpAny_call ?_
  k_dflt (refine' code_def (binds := [(Str.ofString "cursor", .ref c)]) ?k1 ?k2 ?k3 ?k4 ?k5 ?kA ?kF ?kK ?k6 ?k7 ?k8 ?k9 ?kB ?_ ?c2 ?c3 ?c4 ?c5; (case kA => exact rfl); (case kF => exact rfl); (case kK => assumption); (case k1 => exact B); (case k2 => exact F); (case k3 => exact X); (case k4 => exact N); (case k5 => exact T); (case k6 => k_is); (case k7 => k_is); (case k8 => ktr_room); (case k9 => first | exact BindsTo.of_eq rfl | exact binds_K (Frag.In.keeps X F.keep) rfl (by k_is) rfl rfl rfl); (case c5 => decide); (case kB => exact locs rfl); (case c2 => exact rfl); (case c3 => exact rfl); (case c4 => exact rfl); k_whole; intro g L₁ h₁ FG F₁ N₁ B₁ X₁ T₁; (try dsimp only); (try walk_at "m_fold"))
  replace F₁ : Fr g L₁ h₁ (fun y => List.lookup y [(Str.ofString "cursor", .ref c)]) := F₁
  k_steps
  unfold Stop
  rename Fr _ _ _ _ => Fw
  rename News _ _ _ _ => Nw
  refine while_none Fw Nw ?_
  clear Fw Nw
  intro h3 tk3 F3 N3
  have hd : decide (e ≤ a) = true := decide_eq_true h
  k_steps
  rename News _ _ _ _ => Nx
  exact hret _ _ _ _ (by k_asm) Nx ⟨_, _, _, rfl, rfl⟩
theorem skip_ok2 (w : World) (c dx : Addr) (ct : CT) (d : List UInt8) (a b e : Nat) (ta : Tok) (rest : List (Addr × Obj)) (hall : ∀ i, a ≤ i → i < b → isWh (d.getD i 0) = true) (hend : b < e → isWh (d.getD b 0) = false ∧ ((d.getD b 0).toNat : Int) ≠ 40) (hab : a ≤ b) (hbe : b ≤ e) (he : e ≤ d.length) (hz : d.length ≤ 16777216) (hcd : c ≠ dx) (off : ∀ p ∈ rest, p.1 ≠ dx) :
    CtrM w 436 5 [.ref c] ((c, instObj 103 dx) :: (dx, curD w.params ct d a e ta) :: rest) (fun all r => ∃ t' : Tok, r = .none ∧ all = (c, instObj 103 dx) :: (dx, curD w.params ct d b e t') :: rest) :=
  skip_ok w c dx ct d a b e ta rest hab hbe he hz hall hend hcd off
theorem take_token2 (w : World) (c dx : Addr) (ct : CT) (d : List UInt8) (a b e : Nat) (ta : Tok) (rest : List (Addr × Obj)) (hall : ∀ i, a ≤ i → i < b → isTokC (d.getD i 0) = true) (hend : b < e → isTokC (d.getD b 0) = false) (hab : a < b) (hbe : b ≤ e) (he : e ≤ d.length) (hz : d.length ≤ 16777216) (hcd : c ≠ dx) (off : ∀ p ∈ rest, p.1 ≠ dx) :
    CtrM w 443 5 [.ref c] ((c, instObj 103 dx) :: (dx, curD w.params ct d a e ta) :: rest) (fun all r => ∃ t t', r = .bytes (seg d a b).toArray t ∧ all = (c, instObj 103 dx) :: (dx, curD w.params ct d b e t') :: rest) :=
  take_token_ok w c dx ct d a b e ta rest hab hbe he hz hall hend hcd off
theorem reg_23 : True := by
  k_with "my call ref" => (((fail_if_success (fail_if_success (have z9 := hsD6))); ((k_here; (with_reducible show wpAny _ _ (call (Value.ref 443) _) _ _ _); (try walk_at "m_fold"); k_dflt (refine' CtrM.useS ?k0ₘ ?k1ₘ ?k2ₘ ?k3ₘ ?k4ₘ ?k5ₘ ?kKₘ ?kdₘ ?kuₘ ?_; (case k1ₘ => k_asm); (case k2ₘ => k_asm); (case k3ₘ => k_asm); (case k4ₘ => k_asm); (case k5ₘ => k_asm); (case k0ₘ => exact (take_token2 _ _ _ _ _ _ _ _ _ _ (by assumption) (by assumption) (by walk_at "m_om") (by walk_at "m_om") (by walk_at "m_om") (by walk_at "m_om") (by assumption) (by walk_at "m_off"))); (case kKₘ => first | exact rfl | assumption); (case kdₘ => ktr_room); (case kuₘ => ktr_units); k_whole); intro r9ₘ all9ₘ h9ₘ tk9ₘ F9ₘ N9ₘ ho9ₘ; (refine Mine.ex_2_2 (ho9ₘ) ?_; (try clear ho9ₘ); intro t8ₘ t9ₘ e8ₘ e9ₘ); subst e8ₘ; subst e9ₘ; (try k_unfold); (try dsimp only); (try walk_at "m_fold")))))
  k_with "my call ref" => (((fail_if_success (fail_if_success (have z9 := hsD6))); ((k_here; (with_reducible show wpAny _ _ (call (Value.ref 436) _) _ _ _); (try walk_at "m_fold"); k_dflt (refine' CtrM.useS ?k0ₘ ?k1ₘ ?k2ₘ ?k3ₘ ?k4ₘ ?k5ₘ ?kKₘ ?kdₘ ?kuₘ ?_; (case k1ₘ => k_asm); (case k2ₘ => k_asm); (case k3ₘ => k_asm); (case k4ₘ => k_asm); (case k5ₘ => k_asm); (case k0ₘ => exact (skip_ok2 _ _ _ _ _ _ _ _ _ _ (by assumption) (by walk_at "m_sk") (by walk_at "m_om") (by walk_at "m_om") (by walk_at "m_om") (by walk_at "m_om") (by assumption) (by walk_at "m_off"))); (case kKₘ => first | exact rfl | assumption); (case kdₘ => ktr_room); (case kuₘ => ktr_units); k_whole); intro r9ₘ all9ₘ h9ₘ tk9ₘ F9ₘ N9ₘ ho9ₘ; (refine Mine.ex_1_2 (ho9ₘ) ?_; (try clear ho9ₘ); intro t9ₘ e8ₘ e9ₘ); subst e8ₘ; subst e9ₘ; (try k_unfold); (try dsimp only); (try walk_at "m_fold")))))
  k_with "my call ref" => (((fail_if_success (fail_if_success (have z9 := hsD6))); ((k_here; (with_reducible show wpAny _ _ (call (Value.ref 457) _) _ _ _); (try walk_at "m_fold"); k_dflt (refine' CtrM.useS ?k0ₘ ?k1ₘ ?k2ₘ ?k3ₘ ?k4ₘ ?k5ₘ ?kKₘ ?kdₘ ?kuₘ ?_; (case k1ₘ => k_asm); (case k2ₘ => k_asm); (case k3ₘ => k_asm); (case k4ₘ => k_asm); (case k5ₘ => k_asm); (case k0ₘ => exact (hw _ _ (by walk_at "m_off"))); (case kKₘ => first | exact rfl | assumption); (case kdₘ => ktr_room); (case kuₘ => ktr_units); k_whole); intro r9 all9 h9 tk9 F9 N9 ho9; (refine Mine.ex_2_2 (ho9) ?_; (try clear ho9); intro t8 t9 e8 e9); subst e8; subst e9; (try k_unfold); (try dsimp only); (try walk_at "m_fold")))))
  trivial
theorem take_pairs_one (u : Nat) (wo : List UInt8) (hu1 : a + 2 < u) (hu2 : u + 1 < e) (he : e ≤ d.length) (hz : d.length ≤ 524288) (hcd : c ≠ dx) (off : ∀ p ∈ rest, p.1 ≠ dx)
    (h1 : (((d.getD a 0).toNat : Int) != 59) = false) (h2 : isWh (d.getD (a + 1) 0) = true) (h3 : isWh (d.getD (a + 2) 0) = false ∧ ((d.getD (a + 2) 0).toNat : Int) ≠ 40) (h4 : (((d.getD (a + 2) 0).toNat : Int) != 59) = true)
    (h5 : ∀ i, a + 2 ≤ i → i < u → isTokC (d.getD i 0) = true) (h6 : isTokC (d.getD u 0) = false) (h7 : isWh (d.getD u 0) = false ∧ ((d.getD u 0).toNat : Int) ≠ 40) (h8 : (((d.getD u 0).toNat : Int) != 61) = false)
    (h9 : isWh (d.getD (u + 1) 0) = false ∧ ((d.getD (u + 1) 0).toNat : Int) ≠ 40) (h0 : isWh (d.getD a 0) = false ∧ ((d.getD a 0).toNat : Int) ≠ 40)
    (hw : ∀ ta rest, (∀ p ∈ rest, p.1 ≠ dx) → CtrM w 457 5 [.ref c] ((c, instObj 103 dx) :: (dx, curD w.params ct d (u + 1) e ta) :: rest) (fun all r => ∃ t t', r = .bytes wo.toArray t ∧ all = (c, instObj 103 dx) :: (dx, curD w.params ct d e e t') :: rest)) :
    CtrM w 469 6 [.ref c] ((c, instObj 103 dx) :: (dx, curD w.params ct d a e ta) :: rest) (fun all r => ∃ D n t' q t1 t2, r = .ref D ∧ all = (c, instObj 103 dx) :: (dx, curD w.params ct d e e t') :: (D, listOf #[.ref q] n) :: (q, tup [.str (txt (lowN (seg d (a + 2) u))) t1, .bytes wo.toArray t2]) :: rest) := by
  have hsD6 : True := trivial
  unfold CtrM
  intro prog dp un gd cn cs aF ccd cl outer A₀ base h₀ L m s loose mean mg mb Q E B F X N T hk hdp hu hret
  refine wpAny_call ?_
  k_dflt (refine' code_def (binds := [(Str.ofString "cursor", .ref c)]) ?k1 ?k2 ?k3 ?k4 ?k5 ?kA ?kF ?kK ?k6 ?k7 ?k8 ?k9 ?kB ?_ ?c2 ?c3 ?c4 ?c5; (case kA => exact rfl); (case kF => exact rfl); (case kK => assumption); (case k1 => exact B); (case k2 => exact F); (case k3 => exact X); (case k4 => exact N); (case k5 => exact T); (case k6 => k_is); (case k7 => k_is); (case k8 => ktr_room); (case k9 => first | exact BindsTo.of_eq rfl | exact binds_K (Frag.In.keeps X F.keep) rfl (by k_is) rfl rfl rfl); (case c5 => decide); (case kB => exact locs rfl); (case c2 => exact rfl); (case c3 => exact rfl); (case c4 => exact rfl); k_whole; intro g L₁ h₁ FG F₁ N₁ B₁ X₁ T₁; (try dsimp only); (try walk_at "m_fold"))
  replace F₁ : Fr g L₁ h₁ (fun y => List.lookup y [(Str.ofString "cursor", .ref c)]) := F₁
  have k0 : a < e → isWh (d.getD a 0) = false ∧ ((d.getD a 0).toNat : Int) ≠ 40 := fun _ => h0
  k_steps
  unfold Stop
  rename Fr _ _ _ _ => Fw
  rename News _ _ _ _ => Nw
  rename c < _ ∧ _ => l1
  rename_i D _ _ _ _ _
  have hcD : c ≠ D := Nat.ne_of_lt l1.1
  have hdD : dx ≠ D := Nat.ne_of_lt l1.2.1
  have offD : ∀ p ∈ rest, p.1 ≠ D := off_lt l1.2.2
  refine while_st (σ := List Value × Nat × Nat × Tok × List (Addr × Obj)) (fun x => (c, instObj 103 dx) :: (dx, curD w.params ct d x.2.2.1 e x.2.2.2.1) :: (D, listOf x.1.toArray x.2.1) :: (x.2.2.2.2 ++ rest)) (fun _ => []) [Str.ofString "name"]
    (fun x => (x.1 = [] ∧ x.2.2.1 = a ∧ x.2.2.2.2 = []) ∨ (∃ q t1 t2, x.1 = [.ref q] ∧ x.2.2.1 = e ∧ x.2.2.2.2 = [(q, tup [.str (txt (lowN (seg d (a + 2) u))) t1, .bytes wo.toArray t2])])) (fun x => e - x.2.2.1) ([], 0, a, t9ₘ, []) Fw Nw (by walk_at "m_all") (.inl ⟨rfl, rfl, rfl⟩) ?_
  clear Fw Nw
  rintro ⟨ys, n, p, tp, extra⟩ u2 h2' tk2 hP F₂ N₂
  dsimp only [frB, kstB] at hP F₂ N₂ ⊢
  (try walk_at "m_fold")
  rcases hP with ⟨rfl, rfl, rfl⟩ | ⟨q, t1, t2, rfl, rfl, rfl⟩
  · have hd1 : decide (e ≤ p) = false := decide_eq_false (by (first | lia | omega))
    have hd2 : decide (e ≤ p + 2) = false := decide_eq_false (by (first | lia | omega))
    have k1 : ∀ i, p + 1 ≤ i → i < p + 2 → isWh (d.getD i 0) = true := fun i hi1 hi2 => by rw [show i = p + 1 by (first | lia | omega)]; exact h2
    have k2 : p + 2 < e → isWh (d.getD (p + 2) 0) = false ∧ ((d.getD (p + 2) 0).toNat : Int) ≠ 40 := fun _ => h3
    have k3 : u < e → isTokC (d.getD u 0) = false := fun _ => h6
    have k4 : u < e → isWh (d.getD u 0) = false ∧ ((d.getD u 0).toNat : Int) ≠ 40 := fun _ => h7
    have k5 : u + 1 < e → isWh (d.getD (u + 1) 0) = false ∧ ((d.getD (u + 1) 0).toNat : Int) ≠ 40 := fun _ => h9
    dsimp only [List.nil_append] at N₂
    k_steps
    rename News _ _ _ _ => Nx
    exact WhPost.next ([.ref _], n + 1, e, _, [_]) (by k_asm) Nx sub_swap (by walk_at "m_frok") (.inr ⟨_, _, _, rfl, rfl, rfl⟩) (by dsimp only; (first | lia | omega))
  · have hd1 : decide (p ≤ p) = true := decide_eq_true (Nat.le_refl _)
    dsimp only [List.cons_append, List.nil_append] at N₂
    k_steps
    rename News _ _ _ _ => Nx
    exact hret _ _ _ _ (by k_asm) Nx ⟨_, _, _, _, _, _, rfl, rfl⟩
end

end
/-! D7 -/
section
open PyProof.V PySem.Spec PyProof.Rows.LCg
theorem need_charset_ok (w : World) (t : Tok) : CtrV w 296 1 [.str (Str.ofString "utf-8") t] (fun _ => .none) := by
  have hsD7 : True := trivial
  unfold CtrV
  intro prog dp un gd cn cs aF ccd cl outer A₀ base h₀ L m news s loose mean mg mb Q E B F X N T hk hdp hu hret
  refine wpAny_call ?_
  k_dflt (refine' code_def (binds := [(Str.ofString "charset", .str (Str.ofString "utf-8") t)]) ?k1 ?k2 ?k3 ?k4 ?k5 ?kA ?kF ?kK ?k6 ?k7 ?k8 ?k9 ?kB ?_ ?c2 ?c3 ?c4 ?c5; (case kA => exact rfl); (case kF => exact rfl); (case kK => assumption); (case k1 => exact B); (case k2 => exact F); (case k3 => exact X); (case k4 => exact N); (case k5 => exact T); (case k6 => k_is); (case k7 => k_is); (case k8 => ktr_room); (case k9 => first | exact BindsTo.of_eq rfl | exact binds_K (Frag.In.keeps X F.keep) rfl (by k_is) rfl rfl rfl); (case c5 => decide); (case kB => exact locs rfl); (case c2 => exact rfl); (case c3 => exact rfl); (case c4 => exact rfl); k_whole; intro g L₁ h₁ FG F₁ N₁ B₁ X₁ T₁; (try dsimp only); (try walk_at "m_fold"))
  replace F₁ : Fr g L₁ h₁ (fun y => List.lookup y [(Str.ofString "charset", .str (Str.ofString "utf-8") t)]) := F₁
  k_steps
  exact hret 0 _ _ (by k_asm) (by k_asm)
theorem utf8_sign_ok (w : World) (d : List UInt8) (a : Nat) (t u : Tok) (hz : d.length ≤ 16777216) (ha : a < d.length) (hx : decide (((d.getD a 0).toNat : Int) < 128) = true) (news : List (Addr × Obj)) : CtrA w 310 1 [.bytes d.toArray t, .int (a : Int) u] news (fun tl r => ∃ p t1 t2, r = .ref p ∧ tl = [(p, tup [.int ((d.getD a 0).toNat : Int) t1, .int 1 t2])]) := by
  have hsD7 : True := trivial
  unfold CtrA
  intro prog dp un gd cn cs aF ccd cl outer A₀ base h₀ L m s loose mean mg mb Q E B F X N T hk hdp hu hret
  refine wpAny_call ?_
  k_dflt (refine' code_def (binds := [(Str.ofString "octets", .bytes d.toArray t), (Str.ofString "at", .int (a : Int) u)]) ?k1 ?k2 ?k3 ?k4 ?k5 ?kA ?kF ?kK ?k6 ?k7 ?k8 ?k9 ?kB ?_ ?c2 ?c3 ?c4 ?c5; (case kA => exact rfl); (case kF => exact rfl); (case kK => assumption); (case k1 => exact B); (case k2 => exact F); (case k3 => exact X); (case k4 => exact N); (case k5 => exact T); (case k6 => k_is); (case k7 => k_is); (case k8 => ktr_room); (case k9 => first | exact BindsTo.of_eq rfl | exact binds_K (Frag.In.keeps X F.keep) rfl (by k_is) rfl rfl rfl); (case c5 => decide); (case kB => exact locs rfl); (case c2 => exact rfl); (case c3 => exact rfl); (case c4 => exact rfl); k_whole; intro g L₁ h₁ FG F₁ N₁ B₁ X₁ T₁; (try dsimp only); (try walk_at "m_fold"))
  replace F₁ : Fr g L₁ h₁ (fun y => List.lookup y [(Str.ofString "at", .int (a : Int) u), (Str.ofString "octets", .bytes d.toArray t)]) := F₁
  k_steps
  exact end_one hret (by k_asm) (by k_asm) (by k_asm) ⟨_, _, _, rfl, rfl⟩
theorem reg_24 : True := by
  k_with "my call ref" => (((fail_if_success (fail_if_success (have z9 := hsD7))); ((k_here; (with_reducible show wpAny _ _ (call (Value.ref 310) _) _ _ _); (try walk_at "m_fold"); k_dflt (refine' CtrA.useS ?k0ₘ ?k1ₘ ?k2ₘ ?k3ₘ ?k4ₘ ?k5ₘ ?kKₘ ?kdₘ ?kuₘ ?_; (case k1ₘ => k_asm); (case k2ₘ => k_asm); (case k3ₘ => k_asm); (case k4ₘ => k_asm); (case k5ₘ => k_asm); (case k0ₘ => exact (utf8_sign_ok _ _ _ _ _ (by walk_at "m_om") (by walk_at "m_om") (by assumption) _)); (case kKₘ => first | exact rfl | assumption); (case kdₘ => ktr_room); (case kuₘ => ktr_units); k_whole); intro r9ₘ tl9ₘ h9ₘ tk9ₘ F9ₘ N9ₘ hl9ₘ ho9ₘ; (refine Mine.ex_3_2 (ho9ₘ) ?_; (try clear ho9ₘ); intro p9ₘ t8ₘ t9ₘ e8ₘ e9ₘ); subst e8ₘ; subst e9ₘ; replace hl9ₘ := Mine.lt_one hl9ₘ; (try simp only [AllLt, and_true] at hl9ₘ); (try simp only [List.cons_append, List.nil_append] at N9ₘ); (try k_sweep); (try k_unfold); (try dsimp only); (try walk_at "m_fold")))))
  trivial
theorem sign_at_ok (w : World) (d : List UInt8) (a : Nat) (t0 t u : Tok) (hz : d.length ≤ 16777216) (ha : a < d.length) (hx : decide (((d.getD a 0).toNat : Int) < 128) = true) (news : List (Addr × Obj)) : CtrA w 317 2 [.str (Str.ofString "utf-8") t0, .bytes d.toArray t, .int (a : Int) u] news (fun tl r => ∃ p t1 t2, r = .ref p ∧ tl = [(p, tup [.int ((d.getD a 0).toNat : Int) t1, .int 1 t2])]) := by
  have hsD7 : True := trivial
  unfold CtrA
  intro prog dp un gd cn cs aF ccd cl outer A₀ base h₀ L m s loose mean mg mb Q E B F X N T hk hdp hu hret
  refine wpAny_call ?_
  k_dflt (refine' code_def (binds := [(Str.ofString "charset", .str (Str.ofString "utf-8") t0), (Str.ofString "octets", .bytes d.toArray t), (Str.ofString "at", .int (a : Int) u)]) ?k1 ?k2 ?k3 ?k4 ?k5 ?kA ?kF ?kK ?k6 ?k7 ?k8 ?k9 ?kB ?_ ?c2 ?c3 ?c4 ?c5; (case kA => exact rfl); (case kF => exact rfl); (case kK => assumption); (case k1 => exact B); (case k2 => exact F); (case k3 => exact X); (case k4 => exact N); (case k5 => exact T); (case k6 => k_is); (case k7 => k_is); (case k8 => ktr_room); (case k9 => first | exact BindsTo.of_eq rfl | exact binds_K (Frag.In.keeps X F.keep) rfl (by k_is) rfl rfl rfl); (case c5 => decide); (case kB => exact locs rfl); (case c2 => exact rfl); (case c3 => exact rfl); (case c4 => exact rfl); k_whole; intro g L₁ h₁ FG F₁ N₁ B₁ X₁ T₁; (try dsimp only); (try walk_at "m_fold"))
  replace F₁ : Fr g L₁ h₁ (fun y => List.lookup y [(Str.ofString "at", .int (a : Int) u), (Str.ofString "octets", .bytes d.toArray t), (Str.ofString "charset", .str (Str.ofString "utf-8") t0)]) := F₁
  k_steps
  rename News _ _ _ _ => Nx
  rename AllLt _ _ => l9
  exact hret _ [_] _ _ (by k_asm) Nx (ord_cons l9 ord_nil) ⟨_, _, _, rfl, rfl⟩
theorem reg_25 : True := by
  k_with "my call ref" => (((fail_if_success (fail_if_success (have z9 := hsD7))); ((k_here; (with_reducible show wpAny _ _ (call (Value.ref 296) _) _ _ _); (try walk_at "m_fold"); k_dflt (refine' CtrV.useS ?k0ₘ ?k1ₘ ?k2ₘ ?k3ₘ ?k4ₘ ?k5ₘ ?kKₘ ?kdₘ ?kuₘ ?_; (case k1ₘ => k_asm); (case k2ₘ => k_asm); (case k3ₘ => k_asm); (case k4ₘ => k_asm); (case k5ₘ => k_asm); (case k0ₘ => exact (need_charset_ok _ _)); (case kKₘ => first | exact rfl | assumption); (case kdₘ => ktr_room); (case kuₘ => ktr_units); k_whole); intro _ _ _ _ _; (try k_unfold); (try dsimp only); (try walk_at "m_fold")))))
  k_with "my call ref" => (((fail_if_success (fail_if_success (have z9 := hsD7))); ((k_here; (with_reducible show wpAny _ _ (call (Value.ref 317) _) _ _ _); (try walk_at "m_fold"); k_dflt (refine' CtrA.useS ?k0ₘ ?k1ₘ ?k2ₘ ?k3ₘ ?k4ₘ ?k5ₘ ?kKₘ ?kdₘ ?kuₘ ?_; (case k1ₘ => k_asm); (case k2ₘ => k_asm); (case k3ₘ => k_asm); (case k4ₘ => k_asm); (case k5ₘ => k_asm); (case k0ₘ => exact (sign_at_ok _ _ _ _ _ _ (by walk_at "m_om") (by walk_at "m_om") (by assumption) _)); (case kKₘ => first | exact rfl | assumption); (case kdₘ => ktr_room); (case kuₘ => ktr_units); k_whole); intro r9ₘ tl9ₘ h9ₘ tk9ₘ F9ₘ N9ₘ hl9ₘ ho9ₘ; (refine Mine.ex_3_2 (ho9ₘ) ?_; (try clear ho9ₘ); intro p9ₘ t8ₘ t9ₘ e8ₘ e9ₘ); subst e8ₘ; subst e9ₘ; replace hl9ₘ := Mine.lt_one hl9ₘ; (try simp only [AllLt, and_true] at hl9ₘ); (try simp only [List.cons_append, List.nil_append] at N9ₘ); (try k_sweep); (try k_unfold); (try dsimp only); (try walk_at "m_fold")))))
  trivial
theorem signs_more {ys : List Value} {d : List UInt8} {i : Nat} {t : Tok} (hi : i < d.length) (h : Signs ys ((d.take i).map UInt8.toNat)) : Signs (ys ++ [.str (txt [(d.getD i 0).toNat]) t]) ((d.take (i + 1)).map UInt8.toNat) := by
  have e : d[i]? = some (d.getD i 0) := by simp [List.getD_eq_getElem?_getD, hi]
  rw [List.take_add_one, e, List.map_append]
  exact h.snoc ⟨_, rfl⟩
theorem strict_text_ok (w : World) (d : List UInt8) (t u : Tok) (hz : d.length ≤ 524288) (hall : ∀ i, i < d.length → decide (((d.getD i 0).toNat : Int) < 128) = true) : CtrV w 331 4 [.str (Str.ofString "utf-8") t, .bytes d.toArray u] (fun t => .str (txt (d.map UInt8.toNat)) t) := by
  have hsD7 : True := trivial
  unfold CtrV
  intro prog dp un gd cn cs aF ccd cl outer A₀ base h₀ L m news s loose mean mg mb Q E B F X N T hk hdp hu hret
  refine wpAny_call ?_
  k_dflt (refine' code_def (binds := [(Str.ofString "charset", .str (Str.ofString "utf-8") t), (Str.ofString "octets", .bytes d.toArray u)]) ?k1 ?k2 ?k3 ?k4 ?k5 ?kA ?kF ?kK ?k6 ?k7 ?k8 ?k9 ?kB ?_ ?c2 ?c3 ?c4 ?c5; (case kA => exact rfl); (case kF => exact rfl); (case kK => assumption); (case k1 => exact B); (case k2 => exact F); (case k3 => exact X); (case k4 => exact N); (case k5 => exact T); (case k6 => k_is); (case k7 => k_is); (case k8 => ktr_room); (case k9 => first | exact BindsTo.of_eq rfl | exact binds_K (Frag.In.keeps X F.keep) rfl (by k_is) rfl rfl rfl); (case c5 => decide); (case kB => exact locs rfl); (case c2 => exact rfl); (case c3 => exact rfl); (case c4 => exact rfl); k_whole; intro g L₁ h₁ FG F₁ N₁ B₁ X₁ T₁; (try dsimp only); (try walk_at "m_fold"))
  replace F₁ : Fr g L₁ h₁ (fun y => List.lookup y [(Str.ofString "octets", .bytes d.toArray u), (Str.ofString "charset", .str (Str.ofString "utf-8") t)]) := F₁
  k_steps
  unfold Stop
  rename Fr _ _ _ _ => Fw
  rename News _ _ _ _ => Nw
  rename (∀ p : Addr × Obj, p ∈ news → p.1 < _) => l1
  rename_i D _ _ _ _ _
  have offD : ∀ p ∈ news, p.1 ≠ D := fun p hp => Nat.ne_of_lt (l1 p hp)
  refine while_st (σ := List Value × Nat × Nat × Tok) (fun x => (D, listOf x.1.toArray x.2.1) :: news) (fun x => [(Str.ofString "at", .int (x.2.2.1 : Int) x.2.2.2)]) [Str.ofString "code", Str.ofString "length"]
    (fun x => x.2.2.1 ≤ d.length ∧ Signs x.1 ((d.take x.2.2.1).map UInt8.toNat)) (fun x => d.length - x.2.2.1) ([], 0, 0, _) Fw Nw (by walk_at "m_all") ⟨Nat.zero_le _, .nil⟩ ?_
  clear Fw Nw
  rintro ⟨ys, n, i, ti⟩ u2 h2' tk2 ⟨hi, hs⟩ F₂ N₂
  dsimp only [frB, kstB] at hi hs F₂ N₂ ⊢
  have hsz : d.toArray.size = d.length := List.size_toArray ..
  (try walk_at "m_fold")
  rcases Nat.lt_or_ge i d.length with hlt | hge
  · have hx := hall i hlt
    have hc := UInt8.toNat_lt (d.getD i 0)
    have hys : ys.length = i := by have h7 := Two.length hs; rw [List.length_map, List.length_take] at h7; (first | lia | omega)
    have hneg : decide (((d.getD i 0).toNat : Int) < 0) = false := decide_eq_false (by (first | lia | omega))
    k_steps
    rename News _ _ _ _ => Nx
    rw [List.push_toArray] at Nx
    exact WhPost.next (ys ++ [.str (txt [(d.getD i 0).toNat]) _], n + 1, i + 1, _) (by k_asm) Nx (fun _ hp => .tail _ hp) (by walk_at "m_frok") ⟨hlt, signs_more hlt hs⟩ (by dsimp only; (first | lia | omega))
  · rw [List.take_of_length_le hge] at hs
    k_steps
    exact end_S hret (by k_asm) (by walk_at "m_news") rfl
theorem reg_26 : True := by
  k_with "my call ref" => (((fail_if_success (fail_if_success (have z9 := hsD7))); ((k_here; (with_reducible show wpAny _ _ (call (Value.ref 331) _) _ _ _); (try walk_at "m_fold"); k_dflt (refine' CtrV.useS ?k0ₘ ?k1ₘ ?k2ₘ ?k3ₘ ?k4ₘ ?k5ₘ ?kKₘ ?kdₘ ?kuₘ ?_; (case k1ₘ => k_asm); (case k2ₘ => k_asm); (case k3ₘ => k_asm); (case k4ₘ => k_asm); (case k5ₘ => k_asm); (case k0ₘ => exact (strict_text_ok _ _ _ _ (by walk_at "m_om") (by assumption))); (case kKₘ => first | exact rfl | assumption); (case kdₘ => ktr_room); (case kuₘ => ktr_units); k_whole); intro _ _ _ _ _; (try k_unfold); (try dsimp only); (try walk_at "m_fold")))))
  trivial
theorem guessed_ok (w : World) (d : List UInt8) (u : Tok) (hz : d.length ≤ 524288) (hall : ∀ i, i < d.length → decide (((d.getD i 0).toNat : Int) < 128) = true) : CtrV w 338 5 [.bytes d.toArray u] (fun t => .str (txt (d.map UInt8.toNat)) t) := by
  have hsD7 : True := trivial
  unfold CtrV
  intro prog dp un gd cn cs aF ccd cl outer A₀ base h₀ L m news s loose mean mg mb Q E B F X N T hk hdp hu hret
  refine wpAny_call ?_
  k_dflt (refine' code_def (binds := [(Str.ofString "octets", .bytes d.toArray u)]) ?k1 ?k2 ?k3 ?k4 ?k5 ?kA ?kF ?kK ?k6 ?k7 ?k8 ?k9 ?kB ?_ ?c2 ?c3 ?c4 ?c5; (case kA => exact rfl); (case kF => exact rfl); (case kK => assumption); (case k1 => exact B); (case k2 => exact F); (case k3 => exact X); (case k4 => exact N); (case k5 => exact T); (case k6 => k_is); (case k7 => k_is); (case k8 => ktr_room); (case k9 => first | exact BindsTo.of_eq rfl | exact binds_K (Frag.In.keeps X F.keep) rfl (by k_is) rfl rfl rfl); (case c5 => decide); (case kB => exact locs rfl); (case c2 => exact rfl); (case c3 => exact rfl); (case c4 => exact rfl); k_whole; intro g L₁ h₁ FG F₁ N₁ B₁ X₁ T₁; (try dsimp only); (try walk_at "m_fold"))
  replace F₁ : Fr g L₁ h₁ (fun y => List.lookup y [(Str.ofString "octets", .bytes d.toArray u)]) := F₁
  k_steps
  exact end_S hret (by k_asm) (by k_asm) rfl

end
/-! D8 -/
section
open PyProof.V PySem.Spec PyProof.Rows.LCg
theorem part_of_ok (w : World) (t : Tok) : CtrV w 483 1 [.str (Str.ofString "boundary") t] (fun _ => .none) := by
  have hsD8 : True := trivial
  unfold CtrV
  intro prog dp un gd cn cs aF ccd cl outer A₀ base h₀ L m news s loose mean mg mb Q E B F X N T hk hdp hu hret
  refine wpAny_call ?_
  k_dflt (refine' code_def (binds := [(Str.ofString "name", .str (Str.ofString "boundary") t)]) ?k1 ?k2 ?k3 ?k4 ?k5 ?kA ?kF ?kK ?k6 ?k7 ?k8 ?k9 ?kB ?_ ?c2 ?c3 ?c4 ?c5; (case kA => exact rfl); (case kF => exact rfl); (case kK => assumption); (case k1 => exact B); (case k2 => exact F); (case k3 => exact X); (case k4 => exact N); (case k5 => exact T); (case k6 => k_is); (case k7 => k_is); (case k8 => ktr_room); (case k9 => first | exact BindsTo.of_eq rfl | exact binds_K (Frag.In.keeps X F.keep) rfl (by k_is) rfl rfl rfl); (case c5 => decide); (case kB => exact locs rfl); (case c2 => exact rfl); (case c3 => exact rfl); (case c4 => exact rfl); k_whole; intro g L₁ h₁ FG F₁ N₁ B₁ X₁ T₁; (try dsimp only); (try walk_at "m_fold"))
  replace F₁ : Fr g L₁ h₁ (fun y => List.lookup y [(Str.ofString "name", .str (Str.ofString "boundary") t)]) := F₁
  k_steps
  exact hret 0 _ _ (by k_asm) (by k_asm)
theorem reg_27 : True := by
  k_with "my call ref" => (((fail_if_success (fail_if_success (have z9 := hsD8))); ((k_here; (with_reducible show wpAny _ _ (call (Value.ref 483) _) _ _ _); (try walk_at "m_fold"); k_dflt (refine' CtrV.useS ?k0ₘ ?k1ₘ ?k2ₘ ?k3ₘ ?k4ₘ ?k5ₘ ?kKₘ ?kdₘ ?kuₘ ?_; (case k1ₘ => k_asm); (case k2ₘ => k_asm); (case k3ₘ => k_asm); (case k4ₘ => k_asm); (case k5ₘ => k_asm); (case k0ₘ => exact (part_of_ok _ _)); (case kKₘ => first | exact rfl | assumption); (case kdₘ => ktr_room); (case kuₘ => ktr_units); k_whole); intro _ _ _ _ _; (try k_unfold); (try dsimp only); (try walk_at "m_fold")))))
  k_with "my call ref" => (((fail_if_success (fail_if_success (have z9 := hsD8))); ((k_here; (with_reducible show wpAny _ _ (call (Value.ref 338) _) _ _ _); (try walk_at "m_fold"); k_dflt (refine' CtrV.useS ?k0ₘ ?k1ₘ ?k2ₘ ?k3ₘ ?k4ₘ ?k5ₘ ?kKₘ ?kdₘ ?kuₘ ?_; (case k1ₘ => k_asm); (case k2ₘ => k_asm); (case k3ₘ => k_asm); (case k4ₘ => k_asm); (case k5ₘ => k_asm); (case k0ₘ => exact (guessed_ok _ _ _ (by walk_at "m_om") (by assumption))); (case kKₘ => first | exact rfl | assumption); (case kdₘ => ktr_room); (case kuₘ => ktr_units); k_whole); intro _ _ _ _ _; (try k_unfold); (try dsimp only); (try walk_at "m_fold")))))
  trivial
theorem params_none (w : World) (D : Addr) (n : Nat) (news : List (Addr × Obj)) (hD : (D, listOf #[] n) ∈ news) : CtrA w 514 6 [.ref D] news (fun tl v => ∃ q o, v = .ref q ∧ tl = [(q, o)] ∧ (q == sysModules) = false ∧ PMap w o []) := by
  have hsD8 : True := trivial
  unfold CtrA
  intro prog dp un gd cn cs aF ccd cl outer A₀ base h₀ L m s loose mean mg mb Q E B F X N T hk hdp hu hret
  refine wpAny_call ?_
  k_dflt (refine' code_def (binds := [(Str.ofString "pairs", .ref D)]) ?k1 ?k2 ?k3 ?k4 ?k5 ?kA ?kF ?kK ?k6 ?k7 ?k8 ?k9 ?kB ?_ ?c2 ?c3 ?c4 ?c5; (case kA => exact rfl); (case kF => exact rfl); (case kK => assumption); (case k1 => exact B); (case k2 => exact F); (case k3 => exact X); (case k4 => exact N); (case k5 => exact T); (case k6 => k_is); (case k7 => k_is); (case k8 => ktr_room); (case k9 => first | exact BindsTo.of_eq rfl | exact binds_K (Frag.In.keeps X F.keep) rfl (by k_is) rfl rfl rfl); (case c5 => decide); (case kB => exact locs rfl); (case c2 => exact rfl); (case c3 => exact rfl); (case c4 => exact rfl); k_whole; intro g L₁ h₁ FG F₁ N₁ B₁ X₁ T₁; (try dsimp only); (try walk_at "m_fold"))
  replace F₁ : Fr g L₁ h₁ (fun y => List.lookup y [(Str.ofString "pairs", .ref D)]) := F₁
  replace N₁ := news_more N₁ hD
  k_steps
  unfold Stop
  rename Fr _ _ _ _ => Fw
  rename News _ _ _ _ => Nw
  rename_i d1 _ o1 lo1 hs1 fs1 hi1 fi1 l1 _ _ d2 _ o2 lo2 hs2 fs2 hi2 fi2 l2 _ _
  refine turns_led_st (σ := Unit) (its := []) (nl := n) (fun _ => (d2, o2) :: (d1, o1) :: (D, listOf #[] n) :: news) (fun _ => []) [] (fun _ _ => True) () rfl (fun _ => .tail _ (.tail _ (.head _))) Fw Nw (by walk_at "m_all") trivial ?_ ?_
  · intro i v c₁ u I oI h2 tk2 hv
    simp at hv
  clear Fw Nw
  intro c₁ u h2 tk2 hi F₂ N₂
  dsimp only [frB, kstB] at F₂
  k_steps
  rename News _ _ _ _ => Nx
  exact hret _ [(d1, o1)] _ _ (by k_asm) (news_sub Nx (by walk_at "m_incl")) (ord_cons l1.2 ord_nil) ⟨d1, o1, rfl, rfl, lo1, PMap.of hs1 fs1⟩
theorem params_one (w : World) (D q : Addr) (n : Nat) (wo : List UInt8) (t1 t2 : Tok) (hz : wo.length ≤ 524288) (hall : ∀ i, i < wo.length → decide (((wo.getD i 0).toNat : Int) < 128) = true) (news : List (Addr × Obj)) (hD : (D, listOf #[.ref q] n) ∈ news) (hq : (q, tup [.str (Str.ofString "boundary") t1, .bytes wo.toArray t2]) ∈ news) :
    CtrA w 514 6 [.ref D] news (fun tl v => ∃ q o, v = .ref q ∧ tl = [(q, o)] ∧ (q == sysModules) = false ∧ PMap w o [(Str.ofString "boundary", txt (wo.map UInt8.toNat))]) := by
  have hsD8 : True := trivial
  unfold CtrA
  intro prog dp un gd cn cs aF ccd cl outer A₀ base h₀ L m s loose mean mg mb Q E B F X N T hk hdp hu hret
  refine wpAny_call ?_
  k_dflt (refine' code_def (binds := [(Str.ofString "pairs", .ref D)]) ?k1 ?k2 ?k3 ?k4 ?k5 ?kA ?kF ?kK ?k6 ?k7 ?k8 ?k9 ?kB ?_ ?c2 ?c3 ?c4 ?c5; (case kA => exact rfl); (case kF => exact rfl); (case kK => assumption); (case k1 => exact B); (case k2 => exact F); (case k3 => exact X); (case k4 => exact N); (case k5 => exact T); (case k6 => k_is); (case k7 => k_is); (case k8 => ktr_room); (case k9 => first | exact BindsTo.of_eq rfl | exact binds_K (Frag.In.keeps X F.keep) rfl (by k_is) rfl rfl rfl); (case c5 => decide); (case kB => exact locs rfl); (case c2 => exact rfl); (case c3 => exact rfl); (case c4 => exact rfl); k_whole; intro g L₁ h₁ FG F₁ N₁ B₁ X₁ T₁; (try dsimp only); (try walk_at "m_fold"))
  replace F₁ : Fr g L₁ h₁ (fun y => List.lookup y [(Str.ofString "pairs", .ref D)]) := F₁
  replace N₁ := news_more N₁ hD
  k_steps
  unfold Stop
  rename Fr _ _ _ _ => Fw
  rename News _ _ _ _ => Nw
  rename_i d1 _ o1 lo1 hs1 fs1 hi1 fi1 l1 _ _ d2 _ o2 lo2 hs2 fs2 hi2 fi2 l2 _ _
  refine turns_led_st (σ := Obj) (its := [.ref q]) (nl := n) (fun o => (d2, o2) :: (d1, o) :: (D, listOf #[.ref q] n) :: news) (fun _ => []) [Str.ofString "name", Str.ofString "worth", Str.ofString "part"]
    (fun i o => (i = 0 → o = o1) ∧ (i = 1 → ∃ kvs, o.IsDictOf (PySem.strKind prog w) kvs ∧ FlatPairs PyData.str kvs [(PyData.str (Str.ofString "boundary"), PyData.str (txt (wo.map UInt8.toNat)))])) o1 rfl (fun _ => .tail _ (.tail _ (.head _))) Fw Nw (by walk_at "m_all") ⟨fun _ => rfl, fun h => by cases h⟩ ?_ ?_
  · intro i v o u I oI h2 tk2 hv hP off F₂ N₂
    have hi0 : i = 0 := by
      (try walk_at "m_fold")
      rcases i with _ | i
      · rfl
      · simp at hv
    subst hi0
    obtain rfl : Value.ref q = v := by simpa using hv
    obtain rfl := hP.1 rfl
    clear Fw Nw
    replace N₂ := news_more N₂ (.tail _ (.tail _ (.tail _ (.tail _ hq))))
    have hqd : @Ne Nat q d1 := Nat.ne_of_lt (allLt_mem l1.2 _ hq)
    have hId : @Ne Nat d1 I := off _ (.tail _ (.head _))
    have hall' : ∀ p ∈ (D, listOf #[.ref q] n) :: news, p.1 ≠ d1 := off_lt l1
    dsimp only [frB, kstB] at F₂
    k_steps
    rename News _ _ _ _ => Nx
    rename Obj.IsDictOf (PySem.strKind _ _) _ _ => hdk
    rename FlatPairs PyData.str _ _ => hfk
    exact ForPostS.next _ (by k_asm) Nx (by walk_at "m_incl") (off_cons (off _ (.head _)) (off_cons hId (fun p hp => off p (.tail _ (.tail _ hp))))) (by walk_at "m_frok") (by exact ⟨(fun h => absurd h (by decide)), (fun _ => ⟨_, hdk, hfk⟩)⟩)
  · clear Fw Nw
    intro o u h2 tk2 hi F₂ N₂
    (try walk_at "m_fold")
    (refine Mine.ex_1_2 (hi.2 rfl) ?_; intro kvs hk1 hk2)
    dsimp only [frB, kstB] at F₂
    k_steps
    rename News _ _ _ _ => Nx
    exact hret _ [(d1, o)] _ _ (by k_asm) (news_sub Nx (by walk_at "m_incl")) (ord_cons l1.2 ord_nil) ⟨d1, o, rfl, rfl, lo1, PMap.of hk1 hk2⟩

end
/-! D9 -/
section
open PyProof.V PySem.Spec PyProof.Rows.LCg
theorem cursor_ok (w : World) (d : List UInt8) (t : Tok) (hz : d.length ≤ 16777216) (news : List (Addr × Obj)) : CtrA w 103 3 [.bytes d.toArray t] news (fun tl v => ∃ c dx ct ta, v = .ref c ∧ tl = [(c, instObj 103 dx), (dx, curD w.params ct d 0 d.length ta)] ∧ @LT.lt Nat _ dx c) := by
  have hsD9 : True := trivial
  unfold CtrA
  intro prog dp un gd cn cs aF ccd cl outer A₀ base h₀ L m s loose mean mg mb Q E B F X N T hk hdp hu hret
  k_dflt (refine' call_cls ?k1 ?k2 ?k3 ?k4 ?k5 ?k6 ?_; (case k1 => exact F); (case k2 => exact X); (case k3 => exact N); (case k4 => k_is); (case k5 => k_is); (case k6 => k_is); intro x dx hx₁ Fx Nx l1 l2)
  replace l1 := allLt_of l1
  replace l2 := ltN l2
  k_dflt (refine' code_def (s := ⟨hx₁, s.gens, s.drawn, s.toks, s.os⟩) (binds := [(Str.ofString "self", .ref x), (Str.ofString "data", .bytes d.toArray t), (Str.ofString "at", .int 0 212), (Str.ofString "end", .int (-1) 214)]) ?k1 ?k2 ?k3 ?k4 ?k5 ?kA ?kF ?kK ?k6 ?k7 ?k8 ?k9 ?kB ?_ ?c2 ?c3 ?c4 ?c5; (case kA => exact rfl); (case kF => exact rfl); (case kK => assumption); (case k1 => exact B); (case k2 => exact Fx); (case k3 => exact X); (case k4 => exact Nx); (case k5 => exact T); (case k6 => k_is); (case k7 => k_is); (case k8 => ktr_room); (case k9 => first | exact BindsTo.of_eq rfl | exact binds_K (Frag.In.keeps X Fx.keep) rfl (by k_is) rfl rfl rfl); (case c5 => decide); (case kB => exact locs rfl); (case c2 => exact rfl); (case c3 => exact rfl); (case c4 => exact rfl); k_whole; intro g L₁ h₁ FG F₁ N₁ B₁ X₁ T₁; (try dsimp only); (try walk_at "m_fold"))
  replace F₁ : Fr g L₁ h₁ (fun y => List.lookup y [(Str.ofString "end", .int (-1) 214), (Str.ofString "at", .int 0 212), (Str.ofString "data", .bytes d.toArray t), (Str.ofString "self", .ref x)]) := F₁
  k_steps
  rename News _ _ _ _ => Nx
  rw [List.size_toArray] at Nx
  exact hret _ [(x, _), (dx, _)] _ _ (by k_asm) Nx (ord_cons (allLt_of fun q hq => Nat.lt_trans (allLt_mem l1 q hq) l2) (ord_cons l1 ord_nil)) ⟨x, dx, (_, _, _, _, _), _, rfl, rfl, l2⟩
section
variable (w : World) (c dx : Addr) (ct : CT) (d : List UInt8) (a e : Nat) (ta : Tok) (rest : List (Addr × Obj))
theorem starts_ok (u : Tok) (h : a < e) (he : e ≤ d.length) (hz : d.length ≤ 16777216) (hs : (seg d a (a + 1) == [47]) = true) : CtrV1 w 65 1 [.ref c, .bytes #[47] u] ((c, instObj 103 dx) :: (dx, curD w.params ct d a e ta) :: rest) (fun _ => .bool true) := by
  have hsD9 : True := trivial
  unfold CtrV1
  unfold CtrA
  intro prog dp un gd cn cs aF ccd cl outer A₀ base h₀ L m s loose mean mg mb Q E B F X N T hk hdp hu hret
  refine wpAny_call ?_
  k_dflt (refine' code_def (binds := [(Str.ofString "self", .ref c), (Str.ofString "word", .bytes #[47] u)]) ?k1 ?k2 ?k3 ?k4 ?k5 ?kA ?kF ?kK ?k6 ?k7 ?k8 ?k9 ?kB ?_ ?c2 ?c3 ?c4 ?c5; (case kA => exact rfl); (case kF => exact rfl); (case kK => assumption); (case k1 => exact B); (case k2 => exact F); (case k3 => exact X); (case k4 => exact N); (case k5 => exact T); (case k6 => k_is); (case k7 => k_is); (case k8 => ktr_room); (case k9 => first | exact BindsTo.of_eq rfl | exact binds_K (Frag.In.keeps X F.keep) rfl (by k_is) rfl rfl rfl); (case c5 => decide); (case kB => exact locs rfl); (case c2 => exact rfl); (case c3 => exact rfl); (case c4 => exact rfl); k_whole; intro g L₁ h₁ FG F₁ N₁ B₁ X₁ T₁; (try dsimp only); (try walk_at "m_fold"))
  replace F₁ : Fr g L₁ h₁ (fun y => List.lookup y [(Str.ofString "word", .bytes #[47] u), (Str.ofString "self", .ref c)]) := F₁
  k_steps
  · exact end_LB hret (by k_asm) (by k_asm) hs
  · refine end_LB hret (by k_asm) (by k_asm) ?_
    show decide (((a + 1 : Nat) : Int) ≤ (e : Int)) = true
    exact decide_eq_true (by (first | lia | omega))
theorem reg_28 : True := by
  k_with "my call ref" => (((fail_if_success (fail_if_success (have z9 := hsD9))); ((k_here; (with_reducible show wpAny _ _ (call (Value.ref 65) _) _ _ _); (try walk_at "m_fold"); k_dflt (refine' CtrV1.useS ?k0ₘ ?k1ₘ ?k2ₘ ?k3ₘ ?k4ₘ ?k5ₘ ?kKₘ ?kdₘ ?kuₘ ?_; (case k1ₘ => k_asm); (case k2ₘ => k_asm); (case k3ₘ => k_asm); (case k4ₘ => k_asm); (case k5ₘ => k_asm); (case k0ₘ => exact (starts_ok _ _ _ _ _ _ _ _ _ _ (by walk_at "m_om") (by walk_at "m_om") (by walk_at "m_om") (by assumption))); (case kKₘ => first | exact rfl | assumption); (case kdₘ => ktr_room); (case kuₘ => ktr_units); k_whole); intro _ _ _ _ _; (try k_unfold); (try dsimp only); (try walk_at "m_fold")))))
  trivial
theorem skip_word_ok (u : Tok) (h : a < e) (he : e ≤ d.length) (hz : d.length ≤ 16777216) (hs : (seg d a (a + 1) == [47]) = true) (hcd : c ≠ dx) (off : ∀ p ∈ rest, p.1 ≠ dx) : CtrM w 72 3 [.ref c, .bytes #[47] u] ((c, instObj 103 dx) :: (dx, curD w.params ct d a e ta) :: rest)
    (fun all r => ∃ t' : Tok, r = .bool true ∧ all = (c, instObj 103 dx) :: (dx, curD w.params ct d (a + 1) e t') :: rest) := by
  have hsD9 : True := trivial
  unfold CtrM
  intro prog dp un gd cn cs aF ccd cl outer A₀ base h₀ L m s loose mean mg mb Q E B F X N T hk hdp hu hret
  refine wpAny_call ?_
  k_dflt (refine' code_def (binds := [(Str.ofString "self", .ref c), (Str.ofString "word", .bytes #[47] u)]) ?k1 ?k2 ?k3 ?k4 ?k5 ?kA ?kF ?kK ?k6 ?k7 ?k8 ?k9 ?kB ?_ ?c2 ?c3 ?c4 ?c5; (case kA => exact rfl); (case kF => exact rfl); (case kK => assumption); (case k1 => exact B); (case k2 => exact F); (case k3 => exact X); (case k4 => exact N); (case k5 => exact T); (case k6 => k_is); (case k7 => k_is); (case k8 => ktr_room); (case k9 => first | exact BindsTo.of_eq rfl | exact binds_K (Frag.In.keeps X F.keep) rfl (by k_is) rfl rfl rfl); (case c5 => decide); (case kB => exact locs rfl); (case c2 => exact rfl); (case c3 => exact rfl); (case c4 => exact rfl); k_whole; intro g L₁ h₁ FG F₁ N₁ B₁ X₁ T₁; (try dsimp only); (try walk_at "m_fold"))
  replace F₁ : Fr g L₁ h₁ (fun y => List.lookup y [(Str.ofString "word", .bytes #[47] u), (Str.ofString "self", .ref c)]) := F₁
  k_steps
  rename News _ _ _ _ => Nx
  exact hret _ _ _ _ (by k_asm) Nx ⟨_, rfl, rfl⟩
end
theorem reg_29 : True := by
  k_with "my call ref" => (((fail_if_success (fail_if_success (have z9 := hsD9))); ((k_here; (with_reducible show wpAny _ _ (call (Value.ref 103) _) _ _ _); (try walk_at "m_fold"); k_dflt (refine' CtrA.useS ?k0ₘ ?k1ₘ ?k2ₘ ?k3ₘ ?k4ₘ ?k5ₘ ?kKₘ ?kdₘ ?kuₘ ?_; (case k1ₘ => k_asm); (case k2ₘ => k_asm); (case k3ₘ => k_asm); (case k4ₘ => k_asm); (case k5ₘ => k_asm); (case k0ₘ => exact (cursor_ok _ _ _ (by walk_at "m_om") _)); (case kKₘ => first | exact rfl | assumption); (case kdₘ => ktr_room); (case kuₘ => ktr_units); k_whole); intro r9ₘ tl9ₘ h9ₘ tk9ₘ F9ₘ N9ₘ hl9ₘ ho9ₘ; (refine Mine.ex_4_3 (ho9ₘ) ?_; (try clear ho9ₘ); intro c9ₘ q9ₘ ct9ₘ t9ₘ e8ₘ e9ₘ lt9ₘ); subst e8ₘ; subst e9ₘ; replace hl9ₘ := Mine.lt_two hl9ₘ; have offc9ₘ := Mine.off_lt hl9ₘ.2; clear hl9ₘ; (try simp only [List.cons_append, List.nil_append] at N9ₘ); (try k_sweep); (try k_unfold); (try dsimp only); (try walk_at "m_fold")))))
  k_with "my call ref" => (((fail_if_success (fail_if_success (have z9 := hsD9))); ((k_here; (with_reducible show wpAny _ _ (call (Value.ref 436) _) _ _ _); (try walk_at "m_fold"); k_dflt (refine' CtrM.useS ?k0ₘ ?k1ₘ ?k2ₘ ?k3ₘ ?k4ₘ ?k5ₘ ?kKₘ ?kdₘ ?kuₘ ?_; (case k1ₘ => k_asm); (case k2ₘ => k_asm); (case k3ₘ => k_asm); (case k4ₘ => k_asm); (case k5ₘ => k_asm); (case k0ₘ => exact (skip_none _ _ _ _ _ _ _ _ _ (by walk_at "m_sk") (by walk_at "m_om") (by walk_at "m_om") (by walk_at "m_om") (by k_ne) (by walk_at "m_off"))); (case kKₘ => first | exact rfl | assumption); (case kdₘ => ktr_room); (case kuₘ => ktr_units); k_whole); intro r9ₘ all9ₘ h9ₘ tk9ₘ F9ₘ N9ₘ ho9ₘ; (refine Mine.ex_1_2 (ho9ₘ) ?_; (try clear ho9ₘ); intro t9ₘ e8ₘ e9ₘ); subst e8ₘ; subst e9ₘ; (try k_unfold); (try dsimp only); (try walk_at "m_fold")))))
  k_with "my call ref" => (((fail_if_success (fail_if_success (have z9 := hsD9))); ((k_here; (with_reducible show wpAny _ _ (call (Value.ref 443) _) _ _ _); (try walk_at "m_fold"); k_dflt (refine' CtrM.useS ?k0ₘ ?k1ₘ ?k2ₘ ?k3ₘ ?k4ₘ ?k5ₘ ?kKₘ ?kdₘ ?kuₘ ?_; (case k1ₘ => k_asm); (case k2ₘ => k_asm); (case k3ₘ => k_asm); (case k4ₘ => k_asm); (case k5ₘ => k_asm); (case k0ₘ => exact (take_token2 _ _ _ _ _ _ _ _ _ _ (by assumption) (by assumption) (by walk_at "m_om") (by walk_at "m_om") (by walk_at "m_om") (by walk_at "m_om") (by k_ne) (by walk_at "m_off"))); (case kKₘ => first | exact rfl | assumption); (case kdₘ => ktr_room); (case kuₘ => ktr_units); k_whole); intro r9ₘ all9ₘ h9ₘ tk9ₘ F9ₘ N9ₘ ho9ₘ; (refine Mine.ex_2_2 (ho9ₘ) ?_; (try clear ho9ₘ); intro t8ₘ t9ₘ e8ₘ e9ₘ); subst e8ₘ; subst e9ₘ; (try k_unfold); (try dsimp only); (try walk_at "m_fold")))))
  k_with "my call ref" => (((fail_if_success (fail_if_success (have z9 := hsD9))); ((k_here; (with_reducible show wpAny _ _ (call (Value.ref 462) _) _ _ _); (try walk_at "m_fold"); k_dflt (refine' CtrV.useS ?k0ₘ ?k1ₘ ?k2ₘ ?k3ₘ ?k4ₘ ?k5ₘ ?kKₘ ?kdₘ ?kuₘ ?_; (case k1ₘ => k_asm); (case k2ₘ => k_asm); (case k3ₘ => k_asm); (case k4ₘ => k_asm); (case k5ₘ => k_asm); (case k0ₘ => exact (small_word_ok _ _ _ (by walk_at "m_sl"))); (case kKₘ => first | exact rfl | assumption); (case kdₘ => ktr_room); (case kuₘ => ktr_units); k_whole); intro _ _ _ _ _; (try k_unfold); (try dsimp only); (try walk_at "m_fold")))))
  k_with "my call ref" => (((fail_if_success (fail_if_success (have z9 := hsD9))); ((k_here; (with_reducible show wpAny _ _ (call (Value.ref 72) _) _ _ _); (try walk_at "m_fold"); k_dflt (refine' CtrM.useS ?k0ₘ ?k1ₘ ?k2ₘ ?k3ₘ ?k4ₘ ?k5ₘ ?kKₘ ?kdₘ ?kuₘ ?_; (case k1ₘ => k_asm); (case k2ₘ => k_asm); (case k3ₘ => k_asm); (case k4ₘ => k_asm); (case k5ₘ => k_asm); (case k0ₘ => exact (skip_word_ok _ _ _ _ _ _ _ _ _ _ (by walk_at "m_om") (by walk_at "m_om") (by walk_at "m_om") (by assumption) (by k_ne) (by walk_at "m_off"))); (case kKₘ => first | exact rfl | assumption); (case kdₘ => ktr_room); (case kuₘ => ktr_units); k_whole); intro r9ₘ all9ₘ h9ₘ tk9ₘ F9ₘ N9ₘ ho9ₘ; (refine Mine.ex_1_2 (ho9ₘ) ?_; (try clear ho9ₘ); intro t9ₘ e8ₘ e9ₘ); subst e8ₘ; subst e9ₘ; (try k_unfold); (try dsimp only); (try walk_at "m_fold")))))
  k_with "my call ref" => (((fail_if_success (fail_if_success (have z9 := hsD9))); ((k_here; (with_reducible show wpAny _ _ (call (Value.ref 469) _) _ _ _); (try walk_at "m_fold"); k_dflt (refine' CtrM.useS ?k0ₘ ?k1ₘ ?k2ₘ ?k3ₘ ?k4ₘ ?k5ₘ ?kKₘ ?kdₘ ?kuₘ ?_; (case k1ₘ => k_asm); (case k2ₘ => k_asm); (case k3ₘ => k_asm); (case k4ₘ => k_asm); (case k5ₘ => k_asm); (case k0ₘ => exact (hp _ _ _ _ _ (by k_ne) (by walk_at "m_off"))); (case kKₘ => first | exact rfl | assumption); (case kdₘ => ktr_room); (case kuₘ => ktr_units); k_whole); intro r9 all9 h9 tk9 F9 N9 ho9; (refine Mine.ex_0_2 (ho9) ?_; (try clear ho9); intro hs9 ho9); (try k_unfold); (try dsimp only); (try walk_at "m_fold")))))
  k_with "my call ref" => (((fail_if_success (fail_if_success (have z9 := hsD9))); ((k_here; (with_reducible show wpAny _ _ (call (Value.ref 514) _) _ _ _); (try walk_at "m_fold"); k_dflt (refine' CtrA.useS ?k0ₘ ?k1ₘ ?k2ₘ ?k3ₘ ?k4ₘ ?k5ₘ ?kKₘ ?kdₘ ?kuₘ ?_; (case k1ₘ => k_asm); (case k2ₘ => k_asm); (case k3ₘ => k_asm); (case k4ₘ => k_asm); (case k5ₘ => k_asm); (case k0ₘ => exact ho9); (case kKₘ => first | exact rfl | assumption); (case kdₘ => ktr_room); (case kuₘ => ktr_units); k_whole); intro r8 tl8 h8 tk8 F8 N8 hl8 ho8; (refine Mine.ex_2_4 (ho8) ?_; (try clear ho8); intro q8 o8 e8 e9 lo8 pm8); subst e8; subst e9; replace hl8 := Mine.lt_one hl8; (try simp only [List.cons_append, List.nil_append] at N8); (try k_unfold); (try dsimp only); (try walk_at "m_fold")))))
  k_with "my call ref" => (((fail_if_success (fail_if_success (have z9 := hsD9))); ((k_here; (with_reducible show wpAny _ _ (call (Value.ref 411) _) _ _ _); (try walk_at "m_fold"); k_dflt (refine' CtrA.useS ?k0ₘ ?k1ₘ ?k2ₘ ?k3ₘ ?k4ₘ ?k5ₘ ?kKₘ ?kdₘ ?kuₘ ?_; (case k1ₘ => k_asm); (case k2ₘ => k_asm); (case k3ₘ => k_asm); (case k4ₘ => k_asm); (case k5ₘ => k_asm); (case k0ₘ => exact (kind_ok _ _ _ _ _)); (case kKₘ => first | exact rfl | assumption); (case kdₘ => ktr_room); (case kuₘ => ktr_units); k_whole); intro r9ₘ tl9ₘ h9ₘ tk9ₘ F9ₘ N9ₘ hl9ₘ ho9ₘ; (refine Mine.ex_5_2 (ho9ₘ) ?_; (try clear ho9ₘ); intro p9ₘ q9ₘ t7ₘ t8ₘ t9ₘ e8ₘ e9ₘ); subst e8ₘ; subst e9ₘ; (try simp only [List.cons_append, List.nil_append] at N9ₘ); (try k_unfold); (try dsimp only); (try walk_at "m_fold")))))
  trivial
/-- what a kind's octets must be -/
structure KOct (d : List UInt8) (s t : Nat) : Prop where
  z : d.length ≤ 1000
  s0 : 0 < s
  st : s + 1 < t
  te : t ≤ d.length
  k0 : 0 < d.length → isWh (d.getD 0 0) = false ∧ ((d.getD 0 0).toNat : Int) ≠ 40
  ks : s < d.length → isWh (d.getD s 0) = false ∧ ((d.getD s 0).toNat : Int) ≠ 40
  k1 : s + 1 < d.length → isWh (d.getD (s + 1) 0) = false ∧ ((d.getD (s + 1) 0).toNat : Int) ≠ 40
  sl : (seg d s (s + 1) == [47]) = true
  h1 : ∀ i, 0 ≤ i → i < s → isTokC (d.getD i 0) = true
  h2 : s < d.length → isTokC (d.getD s 0) = false
  h3 : ∀ i, s + 1 ≤ i → i < t → isTokC (d.getD i 0) = true
  h4 : t < d.length → isTokC (d.getD t 0) = false
/-- what take_pairs and params_of yield from a place on -/
noncomputable def PairsAt (w : World) (d : List UInt8) (t : Nat) (ps : List (Str × Str)) : Prop := ∀ c dx ct ta rest, c ≠ dx → (∀ p ∈ rest, p.1 ≠ dx) →
  CtrM w 469 6 [.ref c] ((c, instObj 103 dx) :: (dx, curD w.params ct d t d.length ta) :: rest) (fun all r => (∀ p ∈ rest, p ∈ all) ∧ CtrA w 514 6 [r] all (fun tl v => ∃ q o, v = .ref q ∧ tl = [(q, o)] ∧ (q == sysModules) = false ∧ PMap w o ps))
theorem strict_kind_ok (w : World) (d : List UInt8) (u : Tok) (s1 t1 : Nat) (ps : List (Str × Str)) (ko : KOct d s1 t1) (hp : PairsAt w d t1 ps) (news : List (Addr × Obj)) :
    CtrA w 521 8 [.bytes d.toArray u] news (KindOut w (txt (lowN (seg d 0 s1)), txt (lowN (seg d (s1 + 1) t1)), ps)) := by
  have hsD9 : True := trivial
  obtain ⟨z, s0, st, te, k0, ks, k1, sl, h1, h2, h3, h4⟩ := ko
  unfold CtrA
  intro prog dp un gd cn cs aF ccd cl outer A₀ base h₀ L m s loose mean mg mb Q E B F X N T hk hdp hu hret
  refine wpAny_call ?_
  k_dflt (refine' code_def (binds := [(Str.ofString "octets", .bytes d.toArray u)]) ?k1 ?k2 ?k3 ?k4 ?k5 ?kA ?kF ?kK ?k6 ?k7 ?k8 ?k9 ?kB ?_ ?c2 ?c3 ?c4 ?c5; (case kA => exact rfl); (case kF => exact rfl); (case kK => assumption); (case k1 => exact B); (case k2 => exact F); (case k3 => exact X); (case k4 => exact N); (case k5 => exact T); (case k6 => k_is); (case k7 => k_is); (case k8 => ktr_room); (case k9 => first | exact BindsTo.of_eq rfl | exact binds_K (Frag.In.keeps X F.keep) rfl (by k_is) rfl rfl rfl); (case c5 => decide); (case kB => exact locs rfl); (case c2 => exact rfl); (case c3 => exact rfl); (case c4 => exact rfl); k_whole; intro g L₁ h₁ FG F₁ N₁ B₁ X₁ T₁; (try dsimp only); (try walk_at "m_fold"))
  replace F₁ : Fr g L₁ h₁ (fun y => List.lookup y [(Str.ofString "octets", .bytes d.toArray u)]) := F₁
  k_steps
  rename (∀ q : Addr × Obj, q ∈ (q8, o8) :: all9 → _) => hl9
  rename News _ _ _ _ => Nx
  exact hret _ [_, _, _] _ _ (by k_asm) (news_sub Nx (fun p hp => by
      simp only [List.cons_append, List.nil_append, List.mem_cons] at hp ⊢
      (try walk_at "m_fold")
      rcases hp with h | h | h | h
      · exact .inl h
      · exact .inr (.inl h)
      · exact .inr (.inr (.inl h))
      · exact .inr (.inr (.inr (hs9 _ h)))))
    (ord_cons (allLt_of fun q hq => hl9 q (.tail _ (hs9 _ hq)) _ (.head _)) (ord_cons (allLt_of fun q hq => hl9 q (.tail _ (hs9 _ hq)) _ (.tail _ (.head _))) (ord_cons (allLt_of fun q hq => allLt_mem hl8 q (hs9 _ hq)) ord_nil)))
    ⟨_, rfl, _, q8, o8, _, _, _, _, _, .head _, .tail _ (.head _), .tail _ (.tail _ (.head _)), lo8, pm8⟩

end
/-! D10 -/
section
open PyProof.V PySem.Spec PyProof.Rows.LCg
theorem CtrM.imp {w : World} {f : Addr} {need : Nat} {vs : List Value} {news : List (Addr × Obj)} {Out Out' : List (Addr × Obj) → Value → Prop} (h : CtrM w f need vs news Out) (o : ∀ all r, Out all r → Out' all r) : CtrM w f need vs news Out' := by
  intro prog dp un gd cn cs aF ccd cl outer A₀ base h₀ L m st loose mean mg mb Q E B F X N T hk hdp hu hret
  exact h prog dp un gd cn cs aF ccd cl outer A₀ base h₀ L m st loose mean mg mb Q E B F X N T hk hdp hu fun r all h' tk' F' N' ho => hret r all h' tk' F' N' (o _ _ ho)
theorem toks_of {d : List UInt8} {a b : Nat} (h : (List.range' a (b - a)).all (fun i => isTokC (d.getD i 0)) = true) : ∀ i, a ≤ i → i < b → isTokC (d.getD i 0) = true := fun i h1 h2 =>
  List.all_eq_true.mp h i (by rw [List.mem_range'_1]; (first | lia | omega))
theorem pairs_none (w : World) (d : List UInt8) (hz : d.length ≤ 1000) : PairsAt w d d.length [] := fun c dx ct ta rest hcd off =>
  (take_pairs_none w c dx ct d d.length d.length ta rest (Nat.le_refl _) (Nat.le_refl _) (Nat.le_refl _) (by (first | lia | omega)) hcd off).imp fun all r ⟨D, n, t', e1, e2⟩ => by
    subst e1; subst e2
    exact ⟨fun p hp => .tail _ (.tail _ (.tail _ hp)), params_none w D n _ (.tail _ (.tail _ (.head _)))⟩
/-- one parameter named boundary -/
structure POct (d : List UInt8) (a u : Nat) : Prop where
  z : d.length ≤ 1000
  u1 : a + 2 < u
  u2 : u + 1 < d.length
  h1 : (((d.getD a 0).toNat : Int) != 59) = false
  h2 : isWh (d.getD (a + 1) 0) = true
  h3 : isWh (d.getD (a + 2) 0) = false ∧ ((d.getD (a + 2) 0).toNat : Int) ≠ 40
  h4 : (((d.getD (a + 2) 0).toNat : Int) != 59) = true
  h5 : ∀ i, a + 2 ≤ i → i < u → isTokC (d.getD i 0) = true
  h6 : isTokC (d.getD u 0) = false
  h7 : isWh (d.getD u 0) = false ∧ ((d.getD u 0).toNat : Int) ≠ 40
  h8 : (((d.getD u 0).toNat : Int) != 61) = false
  h9 : isWh (d.getD (u + 1) 0) = false ∧ ((d.getD (u + 1) 0).toNat : Int) ≠ 40
  h0 : isWh (d.getD a 0) = false ∧ ((d.getD a 0).toNat : Int) ≠ 40
  hn : txt (lowN (seg d (a + 2) u)) = Str.ofString "boundary"
theorem pairs_one (w : World) (d : List UInt8) (a u : Nat) (wo : List UInt8) (k : POct d a u) (hwo : wo.length ≤ 1000 ∧ ∀ i, i < wo.length → decide (((wo.getD i 0).toNat : Int) < 128) = true)
    (hw : ∀ c dx ct ta rest, c ≠ dx → (∀ p ∈ rest, p.1 ≠ dx) → CtrM w 457 5 [.ref c] ((c, instObj 103 dx) :: (dx, curD w.params ct d (u + 1) d.length ta) :: rest) (fun all r => ∃ t t', r = .bytes wo.toArray t ∧ all = (c, instObj 103 dx) :: (dx, curD w.params ct d d.length d.length t') :: rest)) :
    PairsAt w d a [(Str.ofString "boundary", txt (wo.map UInt8.toNat))] := fun c dx ct ta rest hcd off => by
  obtain ⟨z, u1, u2, h1, h2, h3, h4, h5, h6, h7, h8, h9, h0, hn⟩ := k
  refine (take_pairs_one w c dx ct d a d.length ta rest u wo u1 u2 (Nat.le_refl _) (by (first | lia | omega)) hcd off h1 h2 h3 h4 h5 h6 h7 h8 h9 h0 (fun ta rest off => hw c dx ct ta rest hcd off)).imp ?_
  rintro all r ⟨D, n, t', q, t1, t2, e1, e2⟩
  rw [hn] at e2
  subst e1; subst e2
  exact ⟨fun p hp => .tail _ (.tail _ (.tail _ (.tail _ hp))), params_one w D q n wo t1 t2 (by (first | lia | omega)) hwo.2 _ (.tail _ (.tail _ (.head _))) (.tail _ (.tail _ (.tail _ (.head _))))⟩
noncomputable abbrev oK1 : List UInt8 := oct "multipart/mixed; boundary=a"
noncomputable abbrev oK2 : List UInt8 := oct "Multipart/Digest; boundary=\"b\""
noncomputable abbrev oK3 : List UInt8 := oct "message/rfc822"
noncomputable abbrev oK4 : List UInt8 := oct "multipart/alternative"
noncomputable abbrev oK5 : List UInt8 := oct "image/png"
theorem ko1 : KOct oK1 9 15 := ⟨by decide +kernel, by decide, by decide, by decide +kernel, by decide +kernel, by decide +kernel, by decide +kernel, by decide +kernel, toks_of (by decide +kernel), by decide +kernel, toks_of (by decide +kernel), by decide +kernel⟩
theorem ko2 : KOct oK2 9 16 := ⟨by decide +kernel, by decide, by decide, by decide +kernel, by decide +kernel, by decide +kernel, by decide +kernel, by decide +kernel, toks_of (by decide +kernel), by decide +kernel, toks_of (by decide +kernel), by decide +kernel⟩
theorem ko3 : KOct oK3 7 14 := ⟨by decide +kernel, by decide, by decide, by decide +kernel, by decide +kernel, by decide +kernel, by decide +kernel, by decide +kernel, toks_of (by decide +kernel), by decide +kernel, toks_of (by decide +kernel), by decide +kernel⟩
theorem ko4 : KOct oK4 9 21 := ⟨by decide +kernel, by decide, by decide, by decide +kernel, by decide +kernel, by decide +kernel, by decide +kernel, by decide +kernel, toks_of (by decide +kernel), by decide +kernel, toks_of (by decide +kernel), by decide +kernel⟩
theorem ko5 : KOct oK5 5 9 := ⟨by decide +kernel, by decide, by decide, by decide +kernel, by decide +kernel, by decide +kernel, by decide +kernel, by decide +kernel, toks_of (by decide +kernel), by decide +kernel, toks_of (by decide +kernel), by decide +kernel⟩
theorem po1 : POct oK1 15 25 := ⟨by decide +kernel, by decide, by decide +kernel, by decide +kernel, by decide +kernel, by decide +kernel, by decide +kernel, toks_of (by decide +kernel), by decide +kernel, by decide +kernel, by decide +kernel, by decide +kernel, by decide +kernel, by decide +kernel⟩
theorem po2 : POct oK2 16 26 := ⟨by decide +kernel, by decide, by decide +kernel, by decide +kernel, by decide +kernel, by decide +kernel, by decide +kernel, toks_of (by decide +kernel), by decide +kernel, by decide +kernel, by decide +kernel, by decide +kernel, by decide +kernel, by decide +kernel⟩
theorem qu2 : Quo oK2 27 := ⟨by decide +kernel, by decide +kernel, by decide +kernel, by decide +kernel, by decide +kernel, by decide +kernel, by decide +kernel⟩
theorem one_ascii {x : UInt8} (h : decide ((x.toNat : Int) < 128) = true) : ([x] : List UInt8).length ≤ 1000 ∧ ∀ i, i < ([x] : List UInt8).length → decide ((([x].getD i 0 : UInt8).toNat : Int) < 128) = true := by
  refine ⟨by simp, fun i hi => ?_⟩
  obtain rfl : i = 0 := by simp at hi; exact hi
  exact h
theorem pa1 (w : World) : PairsAt w oK1 15 [(Str.ofString "boundary", txt [97])] := by
  have := pairs_one w oK1 15 25 [97] po1 (one_ascii (by decide)) (fun c dx ct ta rest hcd off =>
    (take_worth_ok w c dx ct oK1 26 27 27 ta rest (by decide) (by decide) (by decide +kernel) (by decide +kernel) (by decide +kernel) (fun i h1 h2 => by rw [show i = 26 by (first | lia | omega)]; decide +kernel) (fun h => absurd h (by decide)) hcd off).imp fun all r ⟨t, t', e1, e2⟩ => ⟨t, t', e1, e2⟩)
  exact this
theorem pa2 (w : World) : PairsAt w oK2 16 [(Str.ofString "boundary", txt [98])] := by
  have := pairs_one w oK2 16 26 [98] po2 (one_ascii (by decide)) (fun c dx ct ta rest hcd off =>
    (take_worth_q w c dx ct oK2 27 30 ta rest (by decide) (by decide +kernel) (by decide +kernel) (by decide +kernel) qu2 hcd off).imp fun all r ⟨t, t', e1, e2⟩ => ⟨t, t', e1, e2⟩)
  exact this

end
/-! D11 -/
section
open PyProof.V PySem.Spec PyProof.Rows.LCg
theorem reg_30 : True := by
  k_with "my call ref" => (((fail_if_success (fail_if_success (have z9 := hsD11))); ((k_here; (with_reducible show wpAny _ _ (call (Value.ref 422) _) _ _ _); (try walk_at "m_fold"); k_dflt (refine' CtrA.useS ?k0ₘ ?k1ₘ ?k2ₘ ?k3ₘ ?k4ₘ ?k5ₘ ?kKₘ ?kdₘ ?kuₘ ?_; (case k1ₘ => k_asm); (case k2ₘ => k_asm); (case k3ₘ => k_asm); (case k4ₘ => k_asm); (case k5ₘ => k_asm); (case k0ₘ => exact (plain_kind_ok _ _)); (case kKₘ => first | exact rfl | assumption); (case kdₘ => ktr_room); (case kuₘ => ktr_units); k_whole); intro r9ₘ tl9ₘ h9ₘ tk9ₘ F9ₘ N9ₘ hl9ₘ ho9ₘ; (try k_unfold); (try dsimp only); (try walk_at "m_fold")))))
  k_with "my call ref" => (((fail_if_success (fail_if_success (have z9 := hsD11))); ((k_here; (with_reducible show wpAny _ _ (call (Value.ref 521) _) _ _ _); (try walk_at "m_fold"); k_dflt (refine' CtrA.useS ?k0ₘ ?k1ₘ ?k2ₘ ?k3ₘ ?k4ₘ ?k5ₘ ?kKₘ ?kdₘ ?kuₘ ?_; (case k1ₘ => k_asm); (case k2ₘ => k_asm); (case k3ₘ => k_asm); (case k4ₘ => k_asm); (case k5ₘ => k_asm); (case k0ₘ => exact (hsk _)); (case kKₘ => first | exact rfl | assumption); (case kdₘ => ktr_room); (case kuₘ => ktr_units); k_whole); intro r9 tl9 h9 tk9 F9 N9 hl9 ho9; (try k_unfold); (try dsimp only); (try walk_at "m_fold")))))
  trivial
theorem read_kind_none (w : World) (news : List (Addr × Obj)) : CtrA w 528 9 [.none] news (KindOut w plainK) := by
  have hsD11 : True := trivial
  unfold CtrA
  intro prog dp un gd cn cs aF ccd cl outer A₀ base h₀ L m s loose mean mg mb Q E B F X N T hk hdp hu hret
  refine wpAny_call ?_
  k_dflt (refine' code_def (binds := [(Str.ofString "octets", .none)]) ?k1 ?k2 ?k3 ?k4 ?k5 ?kA ?kF ?kK ?k6 ?k7 ?k8 ?k9 ?kB ?_ ?c2 ?c3 ?c4 ?c5; (case kA => exact rfl); (case kF => exact rfl); (case kK => assumption); (case k1 => exact B); (case k2 => exact F); (case k3 => exact X); (case k4 => exact N); (case k5 => exact T); (case k6 => k_is); (case k7 => k_is); (case k8 => ktr_room); (case k9 => first | exact BindsTo.of_eq rfl | exact binds_K (Frag.In.keeps X F.keep) rfl (by k_is) rfl rfl rfl); (case c5 => decide); (case kB => exact locs rfl); (case c2 => exact rfl); (case c3 => exact rfl); (case c4 => exact rfl); k_whole; intro g L₁ h₁ FG F₁ N₁ B₁ X₁ T₁; (try dsimp only); (try walk_at "m_fold"))
  replace F₁ : Fr g L₁ h₁ (fun y => List.lookup y [(Str.ofString "octets", .none)]) := F₁
  k_steps
  rename KindOut _ _ _ _ => hko
  rename News _ _ _ _ => Nx
  rename (∀ q : Addr × Obj, q ∈ news → ∀ p : Addr × Obj, _) => hlt
  exact hret _ _ _ _ (by k_asm) Nx hlt hko
theorem read_kind_some (w : World) (d : List UInt8) (u : Tok) (z : KD) (hsk : ∀ news, CtrA w 521 8 [.bytes d.toArray u] news (KindOut w z)) (news : List (Addr × Obj)) : CtrA w 528 9 [.bytes d.toArray u] news (KindOut w z) := by
  have hsD11 : True := trivial
  unfold CtrA
  intro prog dp un gd cn cs aF ccd cl outer A₀ base h₀ L m s loose mean mg mb Q E B F X N T hk hdp hu hret
  refine wpAny_call ?_
  k_dflt (refine' code_def (binds := [(Str.ofString "octets", .bytes d.toArray u)]) ?k1 ?k2 ?k3 ?k4 ?k5 ?kA ?kF ?kK ?k6 ?k7 ?k8 ?k9 ?kB ?_ ?c2 ?c3 ?c4 ?c5; (case kA => exact rfl); (case kF => exact rfl); (case kK => assumption); (case k1 => exact B); (case k2 => exact F); (case k3 => exact X); (case k4 => exact N); (case k5 => exact T); (case k6 => k_is); (case k7 => k_is); (case k8 => ktr_room); (case k9 => first | exact BindsTo.of_eq rfl | exact binds_K (Frag.In.keeps X F.keep) rfl (by k_is) rfl rfl rfl); (case c5 => decide); (case kB => exact locs rfl); (case c2 => exact rfl); (case c3 => exact rfl); (case c4 => exact rfl); k_whole; intro g L₁ h₁ FG F₁ N₁ B₁ X₁ T₁; (try dsimp only); (try walk_at "m_fold"))
  replace F₁ : Fr g L₁ h₁ (fun y => List.lookup y [(Str.ofString "octets", .bytes d.toArray u)]) := F₁
  k_steps
  rename KindOut _ _ _ _ => hko
  rename News _ _ _ _ => Nx
  rename (∀ q : Addr × Obj, q ∈ news → ∀ p : Addr × Obj, _) => hlt
  exact hret _ _ _ _ (by k_asm) Nx hlt hko
/-- the kinds of the five heads -/
noncomputable def kd1 : KD := ("multipart", "mixed", [("boundary", "a")])
noncomputable def kd2 : KD := ("multipart", "digest", [("boundary", "b")])
noncomputable def kd3 : KD := ("message", "rfc822", [])
noncomputable def kd4 : KD := ("multipart", "alternative", [])
noncomputable def kd5 : KD := ("image", "png", [])
theorem kd1_eq : (txt (lowN (seg oK1 0 9)), txt (lowN (seg oK1 (9 + 1) 15)), [(Str.ofString "boundary", txt [97])]) = kd1 := by decide +kernel
theorem kd2_eq : (txt (lowN (seg oK2 0 9)), txt (lowN (seg oK2 (9 + 1) 16)), [(Str.ofString "boundary", txt [98])]) = kd2 := by decide +kernel
theorem kd3_eq : (txt (lowN (seg oK3 0 7)), txt (lowN (seg oK3 (7 + 1) 14)), ([] : List (Str × Str))) = kd3 := by decide +kernel
theorem kd4_eq : (txt (lowN (seg oK4 0 9)), txt (lowN (seg oK4 (9 + 1) 21)), ([] : List (Str × Str))) = kd4 := by decide +kernel
theorem kd5_eq : (txt (lowN (seg oK5 0 5)), txt (lowN (seg oK5 (5 + 1) 9)), ([] : List (Str × Str))) = kd5 := by decide +kernel
noncomputable def kindOct : List UInt8 → KD → Prop := fun d z => (d = oK1 ∧ z = kd1) ∨ (d = oK2 ∧ z = kd2) ∨ (d = oK3 ∧ z = kd3) ∨ (d = oK4 ∧ z = kd4) ∨ (d = oK5 ∧ z = kd5)
theorem read_kind_ok (w : World) (d : List UInt8) (u : Tok) (z : KD) (h : kindOct d z) (news : List (Addr × Obj)) : CtrA w 528 9 [.bytes d.toArray u] news (KindOut w z) := by
  refine read_kind_some w d u z (fun news => ?_) news
  rcases h with ⟨rfl, rfl⟩ | ⟨rfl, rfl⟩ | ⟨rfl, rfl⟩ | ⟨rfl, rfl⟩ | ⟨rfl, rfl⟩
  · have := strict_kind_ok w oK1 u 9 15 _ ko1 (pa1 w) news
    rw [kd1_eq] at this
    exact this
  · have := strict_kind_ok w oK2 u 9 16 _ ko2 (pa2 w) news
    rw [kd2_eq] at this
    exact this
  · have := strict_kind_ok w oK3 u 7 14 _ ko3 (pairs_none w oK3 (by decide +kernel)) news
    rw [kd3_eq] at this
    exact this
  · have := strict_kind_ok w oK4 u 9 21 _ ko4 (pairs_none w oK4 (by decide +kernel)) news
    rw [kd4_eq] at this
    exact this
  · have := strict_kind_ok w oK5 u 5 9 _ ko5 (pairs_none w oK5 (by decide +kernel)) news
    rw [kd5_eq] at this
    exact this

end
/-! E1 -/
section
open PyProof.V PySem.Spec PyProof.Rows.LCg
noncomputable abbrev PTk := Tok × Tok × Tok × Tok × Tok × Tok × Tok × Tok × Tok × Tok × Tok × Tok
/-- a part's fields -/
noncomputable abbrev partD (P : Params) (T : PTk) (b bo e : Nat) (fl k : Value) (enc : Str) (kids inner : Value) : Obj :=
  dictOf [⟨PyData.keyHash P "begin", .str "begin" T.1, .int (b : Int) T.2.1⟩, ⟨PyData.keyHash P "body", .str "body" T.2.2.1, .int (bo : Int) T.2.2.2.1⟩, ⟨PyData.keyHash P "end", .str "end" T.2.2.2.2.1, .int (e : Int) T.2.2.2.2.2.1⟩, ⟨PyData.keyHash P "fields", .str "fields" T.2.2.2.2.2.2.1, fl⟩,
    ⟨PyData.keyHash P "kind", .str "kind" T.2.2.2.2.2.2.2.1, k⟩, ⟨PyData.keyHash P "encoding", .str "encoding" T.2.2.2.2.2.2.2.2.1, .str enc T.2.2.2.2.2.2.2.2.2.1⟩, ⟨PyData.keyHash P "kids", .str "kids" T.2.2.2.2.2.2.2.2.2.2.1, kids⟩, ⟨PyData.keyHash P "inner", .str "inner" T.2.2.2.2.2.2.2.2.2.2.2, inner⟩] 8
theorem reg_31 : True := by
  k_with "my call ref" => (((fail_if_success (fail_if_success (have z9 := hsE1))); ((k_here; (with_reducible show wpAny _ _ (call (Value.ref 560) _) _ _ _); (try walk_at "m_fold"); k_dflt (refine' CtrV1.useS ?k0ₘ ?k1ₘ ?k2ₘ ?k3ₘ ?k4ₘ ?k5ₘ ?kKₘ ?kdₘ ?kuₘ ?_; (case k1ₘ => k_asm); (case k2ₘ => k_asm); (case k3ₘ => k_asm); (case k4ₘ => k_asm); (case k5ₘ => k_asm); (case k0ₘ => exact (encoding_of_ok _ _ _ _ _ _ (by walk_at "m_mem") (flds_mono (by assumption) (by walk_at "m_sub")) (by assumption))); (case kKₘ => first | exact rfl | assumption); (case kdₘ => ktr_room); (case kuₘ => ktr_units); k_whole); intro _ _ _ _ _; (try k_unfold); (try dsimp only); (try walk_at "m_fold")))))
  trivial
theorem part_ok (w : World) (b bo e : Nat) (tb tbo te : Tok) (D : Addr) (ys : List Value) (n : Nat) (fs : List FieldD) (kv : Value) (news : List (Addr × Obj)) (hD : (D, listOf ys.toArray n) ∈ news) (hy : Two (FldRef w.params news) ys fs) (hf : ∀ x ∈ fs, FOk x) :
    CtrA w 551 12 [.int b tb, .int bo tbo, .int e te, .ref D, kv] news (fun tl v => ∃ p dx l m T, v = .ref p ∧ tl = [(l, listOf #[] m), (p, instObj 551 dx), (dx, partD w.params T b bo e (.ref D) kv (txt (encOf fs)) (.ref l) .none)] ∧ @LT.lt Nat _ dx p ∧ @LT.lt Nat _ dx l ∧ @LT.lt Nat _ p l) := by
  have hsE1 : True := trivial
  unfold CtrA
  intro prog dp un gd cn cs aF ccd cl outer A₀ base h₀ L m s loose mean mg mb Q E B F X N T hk hdp hu hret
  k_dflt (refine' call_cls ?k1 ?k2 ?k3 ?k4 ?k5 ?k6 ?_; (case k1 => exact F); (case k2 => exact X); (case k3 => exact N); (case k4 => k_is); (case k5 => k_is); (case k6 => k_is); intro x dx hx₁ Fx Nx l1 l2)
  replace l1 := allLt_of l1
  replace l2 := ltN l2
  k_dflt (refine' code_def (s := ⟨hx₁, s.gens, s.drawn, s.toks, s.os⟩) (binds := [(Str.ofString "self", .ref x), (Str.ofString "begin", .int b tb), (Str.ofString "body", .int bo tbo), (Str.ofString "end", .int e te), (Str.ofString "fields", .ref D), (Str.ofString "kind", kv)]) ?k1 ?k2 ?k3 ?k4 ?k5 ?kA ?kF ?kK ?k6 ?k7 ?k8 ?k9 ?kB ?_ ?c2 ?c3 ?c4 ?c5; (case kA => exact rfl); (case kF => exact rfl); (case kK => assumption); (case k1 => exact B); (case k2 => exact Fx); (case k3 => exact X); (case k4 => exact Nx); (case k5 => exact T); (case k6 => k_is); (case k7 => k_is); (case k8 => ktr_room); (case k9 => first | exact BindsTo.of_eq rfl | exact binds_K (Frag.In.keeps X Fx.keep) rfl (by k_is) rfl rfl rfl); (case c5 => decide); (case kB => exact locs rfl); (case c2 => exact rfl); (case c3 => exact rfl); (case c4 => exact rfl); k_whole; intro g L₁ h₁ FG F₁ N₁ B₁ X₁ T₁; (try dsimp only); (try walk_at "m_fold"))
  replace F₁ : Fr g L₁ h₁ (fun y => List.lookup y [(Str.ofString "kind", kv), (Str.ofString "fields", .ref D), (Str.ofString "end", .int e te), (Str.ofString "body", .int bo tbo), (Str.ofString "begin", .int b tb), (Str.ofString "self", .ref x)]) := F₁
  k_steps
  rename (x < _ ∧ _) => l9
  rename News _ _ _ _ => Nx
  exact hret _ [_, _, _] _ _ (by k_asm) Nx (ord_cons l9.2.2 (ord_cons (allLt_of fun q hq => Nat.lt_trans (allLt_mem l1 q hq) l2) (ord_cons l1 ord_nil))) ⟨x, dx, _, _, (_, _, _, _, _, _, _, _, _, _, _, _), rfl, rfl, l2, l9.2.1, l9.1⟩
theorem reg_32 : True := by
  k_with "my call ref" => (((fail_if_success (fail_if_success (have z9 := hsE1))); ((k_here; (with_reducible show wpAny _ _ (call (Value.ref 401) _) _ _ _); (try walk_at "m_fold"); k_dflt (refine' CtrV1.useS ?k0ₘ ?k1ₘ ?k2ₘ ?k3ₘ ?k4ₘ ?k5ₘ ?kKₘ ?kdₘ ?kuₘ ?_; (case k1ₘ => k_asm); (case k2ₘ => k_asm); (case k3ₘ => k_asm); (case k4ₘ => k_asm); (case k5ₘ => k_asm); (case k0ₘ => exact (is_letter_ok _ _ _ _ (KindIn.mono (by assumption) (by walk_at "m_sub")))); (case kKₘ => first | exact rfl | assumption); (case kdₘ => ktr_room); (case kuₘ => ktr_units); k_whole); intro _ _ _ _ _; (try k_unfold); (try dsimp only); (try walk_at "m_fold")))))
  trivial
theorem is_open_ok (w : World) (p dx : Addr) (T : PTk) (b bo e : Nat) (fl : Value) (k : Addr) (z : KD) (enc : Str) (kids inner : Value) (news : List (Addr × Obj)) (hp : (p, instObj 551 dx) ∈ news) (hd : (dx, partD w.params T b bo e fl (.ref k) enc kids inner) ∈ news) (hk : KindIn w news k z) :
    CtrV1 w 586 4 [.ref p] news (fun _ => .bool ((z.1 == "message" && z.2.1 == "rfc822") && ("7bit" == enc || ("8bit" == enc || "binary" == enc)))) := by
  have hsE1 : True := trivial
  unfold CtrV1
  (refine Mine.ex_8_5 (id hk) ?_; intro dxk q o u1 u2 u3 u4 u5 g1 g2 g3 g4 g5)
  unfold CtrA
  intro prog dp un gd cn cs aF ccd cl outer A₀ base h₀ L m s loose mean mg mb Q E B F X N T hk hdp hu hret
  refine wpAny_call ?_
  k_dflt (refine' code_def (binds := [(Str.ofString "part", .ref p)]) ?k1 ?k2 ?k3 ?k4 ?k5 ?kA ?kF ?kK ?k6 ?k7 ?k8 ?k9 ?kB ?_ ?c2 ?c3 ?c4 ?c5; (case kA => exact rfl); (case kF => exact rfl); (case kK => assumption); (case k1 => exact B); (case k2 => exact F); (case k3 => exact X); (case k4 => exact N); (case k5 => exact T); (case k6 => k_is); (case k7 => k_is); (case k8 => ktr_room); (case k9 => first | exact BindsTo.of_eq rfl | exact binds_K (Frag.In.keeps X F.keep) rfl (by k_is) rfl rfl rfl); (case c5 => decide); (case kB => exact locs rfl); (case c2 => exact rfl); (case c3 => exact rfl); (case c4 => exact rfl); k_whole; intro g L₁ h₁ FG F₁ N₁ B₁ X₁ T₁; (try dsimp only); (try walk_at "m_fold"))
  replace F₁ : Fr g L₁ h₁ (fun y => List.lookup y [(Str.ofString "part", .ref p)]) := F₁
  replace N₁ := news_more (news_more (news_more (news_more N₁ hd) (.tail _ hp)) (.tail _ (.tail _ g2))) (.tail _ (.tail _ (.tail _ g1)))
  k_steps
  · rename (_ && _) = true => hz
    refine end_LB hret (by k_asm) (by walk_at "m_news") ?_
    rw [show (z.1 == ("message" : Str) && z.2.1 == ("rfc822" : Str)) = true from hz, Bool.true_and]
  · rename (_ && _) = false => hz
    refine end_LB hret (by k_asm) (by walk_at "m_news") ?_
    rw [show (z.1 == ("message" : Str) && z.2.1 == ("rfc822" : Str)) = false from hz, Bool.false_and]

end
/-! E2 -/
section
open PyProof.V PySem.Spec PyProof.Rows.LCg
noncomputable def SpanIn (led : List (Addr × Obj)) (v : Value) (x : Nat × Nat × Nat) : Prop := ∃ p t1 t2 t3, v = .ref p ∧ (p, tup [.int (x.1 : Int) t1, .int (x.2.1 : Int) t2, .int (x.2.2 : Int) t3]) ∈ led
theorem SpanIn.mono {led led' : List (Addr × Obj)} {v : Value} {x : Nat × Nat × Nat} (h : SpanIn led v x) (s : ∀ p ∈ led, p ∈ led') : SpanIn led' v x := by
  (refine Mine.ex_4_2 (h) ?_; (try clear h); intro p t1 t2 t3 e a)
  exact ⟨p, t1, t2, t3, e, s _ a⟩
noncomputable def SpansOut (z : List (Nat × Nat × Nat)) (tl : List (Addr × Obj)) (r : Value) : Prop := ∃ D ys n, r = .ref D ∧ (D, listOf (List.toArray ys) n) ∈ tl ∧ Two (SpanIn tl) ys z
structure SS where
  done : List (Nat × Nat × Nat)
  ys : List Value
  n : Nat
  tl : List (Addr × Obj)
  here : Nat
  th : Tok
noncomputable abbrev ssLed (D : Addr) (news : List (Addr × Obj)) (c : SS) : List (Addr × Obj) := (D, listOf c.ys.toArray c.n) :: (c.tl ++ news)
noncomputable abbrev ssPs (c : SS) : List (Str × Value) := [(Str.ofString "begin", .int (c.here : Int) c.th)]
noncomputable abbrev ssP (d : List UInt8) (e a : Nat) (D : Addr) (news : List (Addr × Obj)) (c : SS) : Prop := c.here ≤ e ∧ spansAt d e a = c.done ++ spansAt d e c.here ∧ Two (SpanIn c.tl) c.ys c.done ∧ (∀ p ∈ c.tl ++ news, p.1 ≠ D) ∧ (∀ q ∈ news, ∀ p ∈ (D, listOf c.ys.toArray c.n) :: c.tl, q.1 < p.1) ∧ c.ys.length ≤ c.here
theorem ss_more {led : List (Addr × Obj)} {D' : Addr} {o : Obj} {ys : List Value} {done : List (Nat × Nat × Nat)} {x : Nat × Nat × Nat} {t1 t2 t3 : Tok} (h : Two (SpanIn led) ys done) (e : o = tup [.int (x.1 : Int) t1, .int (x.2.1 : Int) t2, .int (x.2.2 : Int) t3]) : Two (SpanIn ((D', o) :: led)) (ys ++ [.ref D']) (done ++ [x]) :=
  (h.mono fun _ _ k => k.mono fun p hp => List.Mem.tail _ hp).snoc ⟨D', t1, t2, t3, rfl, by rw [e]; exact .head _⟩
theorem ss_step {g h' : Heap} {L D D' : Addr} {m' m₀ : Str → Option Value} {news tl : List (Addr × Obj)} {s₁ : Shared} {Q : Flow → Shared → Prop} {xs : List Str} {tk' : Nat} {d : List UInt8} {e a here n x y : Nat} {th t1 t2 t3 t9 : Tok} {ys : List Value} {done : List (Nat × Nat × Nat)}
    (F : Fr g L h' m') (N : News g L h' ((D', tup [.int (here : Int) t1, .int (x : Int) t2, .int (y : Int) t3]) :: (D, listOf (ys.toArray.push (.ref D')) (n + 1)) :: (tl ++ news)))
    (l1 : D < D' ∧ AllLt D' (tl ++ news)) (k : FrOk xs [(Str.ofString "begin", .int (y : Int) t9)] m₀ m') (hlt : here < e) (hl : lineAt d here e = (x, y)) (hi : ssP d e a D news ⟨done, ys, n, tl, here, th⟩) :
    WhPost g L (ssLed D news) ssPs xs m₀ (ssP d e a D news) (fun c => e - c.here) (e - here) s₁ Q .next { s₁ with heap := h', toks := tk' } := by
  (refine Mine.ex_0_6 (hi) ?_; (try clear hi); intro hhe hsp htwo hoff hord hys)
  dsimp only at hhe hsp htwo hoff hord hys
  have hlt2 := lineAt_lt (d := d) hlt
  have hle2 := lineAt_le (d := d) hhe
  rw [hl] at hlt2 hle2
  dsimp only at hlt2 hle2
  rw [List.push_toArray] at N
  refine WhPost.next ⟨done ++ [(here, x, y)], ys ++ [.ref D'], n + 1, (D', tup [.int (here : Int) t1, .int (x : Int) t2, .int (y : Int) t3]) :: tl, y, t9⟩ F N ?_ k ⟨hle2.2.2, ?_, ss_more (x := (here, x, y)) htwo rfl, ?_, ?_, ?_⟩ ?_
  · intro p hp
    dsimp only [ssLed] at hp
    simp only [List.cons_append, List.mem_cons, List.mem_append] at hp ⊢
    rcases hp with h | h | h | h <;> simp [h]
  · rw [hsp, spansAt_line hlt, hl]; simp
  · dsimp only [List.cons_append]
    exact off_cons (Nat.ne_of_gt l1.1) hoff
  · dsimp only
    exact ord_cons (allLt_of fun z hz => hord z hz _ (.head _)) (ord_cons (allLt_right l1.2) fun z hz y hy => hord z hz y (.tail _ hy))
  · dsimp only
    rw [List.length_append, List.length_singleton]
    (first | lia | omega)
  · dsimp only
    (first | lia | omega)
theorem ss_end {h₀ h' : Heap} {L D D' : Addr} {m : Str → Option Value} {news tl : List (Addr × Obj)} {s : Shared} {Q : Value → Shared → Prop} {d : List UInt8} {e a here n : Nat} {th t1 t2 t3 : Tok} {tk' : Nat} {ys : List Value} {done : List (Nat × Nat × Nat)}
    (hret : ∀ r tl h' tk', Fr h₀ L h' m → News h₀ L h' (tl ++ news) → (∀ q ∈ news, ∀ p ∈ tl, q.1 < p.1) → SpansOut (spansAt d e a) tl r → Q r { s with heap := h', toks := tk' })
    (F : Fr h₀ L h' m) (N : News h₀ L h' ((D', tup [.int (here : Int) t1, .int (e : Int) t2, .int (e : Int) t3]) :: (D, listOf (ys.toArray.push (.ref D')) (n + 1)) :: (tl ++ news)))
    (l1 : D < D' ∧ AllLt D' (tl ++ news)) (hlt : here < e) (hl : lineAt d here e = (e, e)) (hi : ssP d e a D news ⟨done, ys, n, tl, here, th⟩) : Q (.ref D) { s with heap := h', toks := tk' } := by
  (refine Mine.ex_0_6 (hi) ?_; (try clear hi); intro hhe hsp htwo hoff hord hys)
  dsimp only at hhe hsp htwo hoff hord hys
  rw [List.push_toArray] at N
  refine hret _ ((D', tup [.int (here : Int) t1, .int (e : Int) t2, .int (e : Int) t3]) :: (D, listOf (ys ++ [Value.ref D']).toArray (n + 1)) :: tl) _ _ F N
    (ord_cons (allLt_right l1.2) (ord_cons (allLt_of fun z hz => hord z hz _ (.head _)) fun z hz y hy => hord z hz y (.tail _ hy))) ⟨D, ys ++ [Value.ref D'], n + 1, rfl, .tail _ (.head _), ?_⟩
  rw [hsp, spansAt_line hlt, hl, spansAt_end (Nat.le_refl _)]
  exact (ss_more (x := (here, e, e)) htwo rfl).mono fun _ _ k => k.mono fun p hp => by
    rcases List.mem_cons.mp hp with h | h
    · rw [h]; exact .head _
    · exact .tail _ (.tail _ h)
theorem ss_done {h₀ h' : Heap} {L D : Addr} {m : Str → Option Value} {news tl : List (Addr × Obj)} {s : Shared} {Q : Value → Shared → Prop} {d : List UInt8} {e a here n : Nat} {th : Tok} {tk' : Nat} {ys : List Value} {done : List (Nat × Nat × Nat)}
    (hret : ∀ r tl h' tk', Fr h₀ L h' m → News h₀ L h' (tl ++ news) → (∀ q ∈ news, ∀ p ∈ tl, q.1 < p.1) → SpansOut (spansAt d e a) tl r → Q r { s with heap := h', toks := tk' })
    (F : Fr h₀ L h' m) (N : News h₀ L h' ((D, listOf ys.toArray n) :: (tl ++ news))) (hge : e ≤ here) (hi : ssP d e a D news ⟨done, ys, n, tl, here, th⟩) : Q (.ref D) { s with heap := h', toks := tk' } := by
  (refine Mine.ex_0_6 (hi) ?_; (try clear hi); intro hhe hsp htwo hoff hord hys)
  dsimp only at hhe hsp htwo hoff hord hys
  refine hret _ ((D, listOf ys.toArray n) :: tl) _ _ F N hord ⟨D, ys, n, rfl, .head _, ?_⟩
  rw [hsp, spansAt_end hge, List.append_nil]
  exact htwo.mono fun _ _ k => k.mono fun p hp => .tail _ hp
theorem line_spans_ok (w : World) (d : List UInt8) (t : Tok) (a : Nat) (ta : Tok) (e : Nat) (te : Tok) (hz : d.length ≤ 16777216) (ha : a ≤ e) (he : e ≤ d.length) (news : List (Addr × Obj)) :
   CtrA w 132 3 [.bytes d.toArray t, .int a ta, .int e te] news (SpansOut (spansAt d e a)) := by
  unfold CtrA
  intro prog dp un gd cn cs aF ccd cl outer A₀ base h₀ L m s loose mean mg mb Q E B F X N T hk hdp hu hret
  refine wpAny_call ?_
  k_dflt (refine' code_def (binds := [(Str.ofString "data", .bytes d.toArray t), (Str.ofString "at", .int a ta), (Str.ofString "end", .int e te)]) ?k1 ?k2 ?k3 ?k4 ?k5 ?kA ?kF ?kK ?k6 ?k7 ?k8 ?k9 ?kB ?_ ?c2 ?c3 ?c4 ?c5; (case kA => exact rfl); (case kF => exact rfl); (case kK => assumption); (case k1 => exact B); (case k2 => exact F); (case k3 => exact X); (case k4 => exact N); (case k5 => exact T); (case k6 => k_is); (case k7 => k_is); (case k8 => ktr_room); (case k9 => first | exact BindsTo.of_eq rfl | exact binds_K (Frag.In.keeps X F.keep) rfl (by k_is) rfl rfl rfl); (case c5 => decide); (case kB => exact locs rfl); (case c2 => exact rfl); (case c3 => exact rfl); (case c4 => exact rfl); k_whole; intro g L₁ h₁ FG F₁ N₁ B₁ X₁ T₁; (try dsimp only); (try walk_at "m_fold"))
  replace F₁ : Fr g L₁ h₁ (fun y => List.lookup y [(Str.ofString "end", .int e te), (Str.ofString "at", .int a ta), (Str.ofString "data", .bytes d.toArray t)]) := F₁
  k_steps
  unfold Stop
  rename Fr _ _ _ _ => Fw
  rename News _ _ _ _ => Nw
  rename (∀ p : Addr × Obj, p ∈ news → p.1 < _) => l1
  rename_i D _ _ _ _ _
  have hif : ¬ ((d.toArray.size : Int) < (e : Int)) := by rw [List.size_toArray]; (first | lia | omega)
  rw [if_neg hif, if_neg hif] at Fw
  refine while_st (σ := SS) (ssLed D news) ssPs [Str.ofString "feed", Str.ofString "last"] (ssP d e a D news) (fun c => e - c.here) ⟨[], [], 0, [], a, ta⟩ Fw Nw (by walk_at "m_all") ⟨ha, rfl, .nil, fun p hp => Nat.ne_of_lt (l1 p hp), ord_cons (allLt_of l1) ord_nil, Nat.zero_le _⟩ ?_
  clear Fw Nw
  rintro ⟨done, ys, n, tl, here, th⟩ u h2 tk2 hi F₂ N₂
  have hhe := hi.1
  have hsp := hi.2.1
  have htwo := hi.2.2.1
  have hoff := hi.2.2.2.1
  have hord := hi.2.2.2.2.1
  have hys := hi.2.2.2.2.2
  dsimp only [ssLed, ssPs] at hhe hsp htwo hoff hord hys F₂ N₂ ⊢
  dsimp only [frB, kstB] at F₂
  k_steps
  all_goals (first
    | exact ss_end hret (by k_asm) (by k_asm) (by assumption) (by (first | lia | omega)) (lineAt_none (by assumption)) hi
    | exact ss_step (by k_asm) (by k_asm) (by assumption) (by walk_at "m_frok") (by (first | lia | omega)) (lineAt_cr (by assumption) (by assumption) (by assumption)) hi
    | exact ss_step (by k_asm) (by k_asm) (by assumption) (by walk_at "m_frok") (by (first | lia | omega)) (lineAt_lf (by assumption) (by assumption)) hi
    | exact ss_step (by k_asm) (by k_asm) (by assumption) (by walk_at "m_frok") (by (first | lia | omega)) (lineAt_lf2 (by assumption) (by assumption)) hi
    | exact ss_done hret (by k_asm) (by k_asm) (by (first | lia | omega)) hi)

end
/-! E3 -/
section
open PyProof.V PySem.Spec PyProof.Rows.LCg
theorem reg_33 : True := by
  k_with "my call builtin:len" => (((fail_if_success (fail_if_success (have z9 := hsE3))); ((k_here; (with_reducible show wpAny _ _ (call (Value.builtin "len") [Value.bytes _ _]) _ _ _); k_dflt (refine Mine.len_B ?zₘ ?_; (case zₘ => walk_at "m_om")); intro _ _))))
  trivial
noncomputable def markOf (b : List UInt8) : List UInt8 := [45, 45] ++ b
/-- what a line is, beside a boundary -/
noncomputable def wayOf (l b : List UInt8) : Str :=
  if (l.take (markOf b).length != markOf b) = true then Str.ofString ""
  else if (stripR #[32, 9] (l.drop (markOf b).length) == []) = true then Str.ofString "next"
  else if (stripR #[32, 9] (l.drop (markOf b).length) == [45, 45]) = true then Str.ofString "last" else Str.ofString ""
section
variable {l b : List UInt8}
theorem way1 (h : (l.take ([45, 45] ++ b).length != [45, 45] ++ b) = true) : Str.ofString "" = wayOf l b := by
  unfold wayOf markOf
  rw [if_pos h]
theorem way2 (h : (l.take ([45, 45] ++ b).length != [45, 45] ++ b) = false) (h2 : (stripR #[32, 9] (l.drop ([45, 45] ++ b).length) == []) = true) : Str.ofString "next" = wayOf l b := by
  unfold wayOf markOf
  rw [if_neg (by rw [h]; exact Bool.false_ne_true), if_pos h2]
theorem way3 (h : (l.take ([45, 45] ++ b).length != [45, 45] ++ b) = false) (h2 : (stripR #[32, 9] (l.drop ([45, 45] ++ b).length) == []) = false) (h3 : (stripR #[32, 9] (l.drop ([45, 45] ++ b).length) == [45, 45]) = true) : Str.ofString "last" = wayOf l b := by
  unfold wayOf markOf
  rw [if_neg (by rw [h]; exact Bool.false_ne_true), if_neg (by rw [h2]; exact Bool.false_ne_true), if_pos h3]
theorem way4 (h : (l.take ([45, 45] ++ b).length != [45, 45] ++ b) = false) (h2 : (stripR #[32, 9] (l.drop ([45, 45] ++ b).length) == []) = false) (h3 : (stripR #[32, 9] (l.drop ([45, 45] ++ b).length) == [45, 45]) = false) : Str.ofString "" = wayOf l b := by
  unfold wayOf markOf
  rw [if_neg (by rw [h]; exact Bool.false_ne_true), if_neg (by rw [h2]; exact Bool.false_ne_true), if_neg (by rw [h3]; exact Bool.false_ne_true)]
end
theorem bway_ok (w : World) (l b : List UInt8) (t u : Tok) (hz : l.length ≤ 16777216) (hb : b.length ≤ 1000) : CtrV w 567 1 [.bytes l.toArray t, .bytes b.toArray u] (fun t => .str (wayOf l b) t) := by
  have hsE3 : True := trivial
  have hd : ∀ n, (l.drop n).length ≤ 16777216 := fun n => by rw [List.length_drop]; (first | lia | omega)
  unfold CtrV
  intro prog dp un gd cn cs aF ccd cl outer A₀ base h₀ L m news s loose mean mg mb Q E B F X N T hk hdp hu hret
  refine wpAny_call ?_
  k_dflt (refine' code_def (binds := [(Str.ofString "line", .bytes l.toArray t), (Str.ofString "boundary", .bytes b.toArray u)]) ?k1 ?k2 ?k3 ?k4 ?k5 ?kA ?kF ?kK ?k6 ?k7 ?k8 ?k9 ?kB ?_ ?c2 ?c3 ?c4 ?c5; (case kA => exact rfl); (case kF => exact rfl); (case kK => assumption); (case k1 => exact B); (case k2 => exact F); (case k3 => exact X); (case k4 => exact N); (case k5 => exact T); (case k6 => k_is); (case k7 => k_is); (case k8 => ktr_room); (case k9 => first | exact BindsTo.of_eq rfl | exact binds_K (Frag.In.keeps X F.keep) rfl (by k_is) rfl rfl rfl); (case c5 => decide); (case kB => exact locs rfl); (case c2 => exact rfl); (case c3 => exact rfl); (case c4 => exact rfl); k_whole; intro g L₁ h₁ FG F₁ N₁ B₁ X₁ T₁; (try dsimp only); (try walk_at "m_fold"))
  replace F₁ : Fr g L₁ h₁ (fun y => List.lookup y [(Str.ofString "boundary", .bytes b.toArray u), (Str.ofString "line", .bytes l.toArray t)]) := F₁
  have hd2 := hd ([45, 45] ++ b).length
  have hm : ([45, 45] ++ b).length ≤ 16777216 := by simp only [List.length_append, List.length_cons, List.length_nil]; (first | lia | omega)
  k_steps
  all_goals (first | exact end_S hret (by k_asm) (by walk_at "m_news") (by exact way1 (by assumption)) | exact end_S hret (by k_asm) (by walk_at "m_news") (by exact way2 (by assumption) (by assumption)) | exact end_S hret (by k_asm) (by walk_at "m_news") (by exact way3 (by assumption) (by assumption) (by assumption)) | exact end_S hret (by k_asm) (by walk_at "m_news") (by exact way4 (by assumption) (by assumption) (by assumption)))

end
/-! E4 -/
section
open PyProof.V PySem.Spec PyProof.Rows.LCg
theorem reg_34 : True := by
  k_with "my call ref" => (((fail_if_success (fail_if_success (have z9 := hsE4))); ((k_here; (with_reducible show wpAny _ _ (call (Value.ref 567) _) _ _ _); (try walk_at "m_fold"); k_dflt (refine' CtrV.useS ?k0ₘ ?k1ₘ ?k2ₘ ?k3ₘ ?k4ₘ ?k5ₘ ?kKₘ ?kdₘ ?kuₘ ?_; (case k1ₘ => k_asm); (case k2ₘ => k_asm); (case k3ₘ => k_asm); (case k4ₘ => k_asm); (case k5ₘ => k_asm); (case k0ₘ => exact (bway_ok _ _ _ _ _ (by first | walk_at "m_om" | (refine Mine.seg_le ?_; walk_at "m_om")) (by walk_at "m_om"))); (case kKₘ => first | exact rfl | assumption); (case kdₘ => ktr_room); (case kuₘ => ktr_units); k_whole); intro _ _ _ _ _; (try k_unfold); (try dsimp only); (try walk_at "m_fold")))))
  trivial
noncomputable def endOf : Option Nat → Nat → List (Nat × Nat)
  | none, _ => []
  | some g, e => [(g, e)]
noncomputable def preOf : Option Nat → Nat → List (Nat × Nat)
  | none, _ => []
  | some g, bf => [(g, max g bf)]
/-- the parts between the boundary's lines -/
noncomputable def partsGo (d b : List UInt8) (e : Nat) : List (Nat × Nat × Nat) → Option Nat → Nat → List (Nat × Nat)
  | [], begun, _ => endOf begun e
  | x :: r, begun, before =>
    if (wayOf (seg d x.1 x.2.1) b != Str.ofString "") = true then
      preOf begun before ++ (if (wayOf (seg d x.1 x.2.1) b == Str.ofString "last") = true then [] else partsGo d b e r (some x.2.2) x.2.1)
    else partsGo d b e r begun x.2.1
noncomputable def PairIn (led : List (Addr × Obj)) (v : Value) (x : Nat × Nat) : Prop := ∃ p t1 t2, v = .ref p ∧ (p, tup [.int (x.1 : Int) t1, .int (x.2 : Int) t2]) ∈ led
theorem PairIn.mono {led led' : List (Addr × Obj)} {v : Value} {x : Nat × Nat} (h : PairIn led v x) (s : ∀ p ∈ led, p ∈ led') : PairIn led' v x := by
  (refine Mine.ex_3_2 (h) ?_; (try clear h); intro p t1 t2 e a)
  exact ⟨p, t1, t2, e, s _ a⟩
noncomputable def PairsOut (z : List (Nat × Nat)) (tl : List (Addr × Obj)) (r : Value) : Prop := ∃ D ys n, r = .ref D ∧ (D, listOf (List.toArray ys) n) ∈ tl ∧ Two (PairIn tl) ys z
theorem reg_35 : True := by
  k_with "my call ref" => (((fail_if_success (fail_if_success (have z9 := hsE4))); ((k_here; (with_reducible show wpAny _ _ (call (Value.ref 132) _) _ _ _); (try walk_at "m_fold"); k_dflt (refine' CtrA.useS ?k0ₘ ?k1ₘ ?k2ₘ ?k3ₘ ?k4ₘ ?k5ₘ ?kKₘ ?kdₘ ?kuₘ ?_; (case k1ₘ => k_asm); (case k2ₘ => k_asm); (case k3ₘ => k_asm); (case k4ₘ => k_asm); (case k5ₘ => k_asm); (case k0ₘ => exact (line_spans_ok _ _ _ _ _ _ _ (by walk_at "m_om") (by walk_at "m_om") (by walk_at "m_om") _)); (case kKₘ => first | exact rfl | assumption); (case kdₘ => ktr_room); (case kuₘ => ktr_units); k_whole); intro r9 tl9 h9 tk9 F9 N9 hl9 ho9; (refine Mine.ex_3_3 (ho9) ?_; (try clear ho9); intro D9 ys9 n9 e9 hD9 two9); subst e9; replace N9 := news_more N9 (List.mem_append_left _ hD9); (try k_unfold); (try dsimp only); (try walk_at "m_fold")))))
  trivial
noncomputable def begV : Option Nat → Tok → Value
  | none, t => .int (-1) t
  | some g, t => .int (g : Int) t
structure PS where
  done : List (Nat × Nat)
  ys : List Value
  n : Nat
  tl : List (Addr × Obj)
  begun : Option Nat
  tb : Tok
  before : Nat
  tf : Tok
section
variable {d b : List UInt8} {e i : Nat} {l : List (Nat × Nat × Nat)} {x : Nat × Nat × Nat} {bg : Option Nat} {bf : Nat}
theorem drop_at {α : Type} {l : List α} {i : Nat} {x : α} (hx : l[i]? = some x) : l.drop i = x :: l.drop (i + 1) := by
  have h := List.getElem?_eq_some_iff.mp hx
  rw [List.drop_eq_getElem_cons h.1, h.2]
theorem pg_skip (hx : l[i]? = some x) (h : (wayOf (seg d x.1 x.2.1) b != Str.ofString "") = false) : partsGo d b e (l.drop i) bg bf = partsGo d b e (l.drop (i + 1)) bg x.2.1 := by
  rw [drop_at hx, partsGo, if_neg (by rw [h]; exact Bool.false_ne_true)]
theorem pg_next (hx : l[i]? = some x) (h : (wayOf (seg d x.1 x.2.1) b != Str.ofString "") = true) (h2 : (wayOf (seg d x.1 x.2.1) b == Str.ofString "last") = false) : partsGo d b e (l.drop i) bg bf = preOf bg bf ++ partsGo d b e (l.drop (i + 1)) (some x.2.2) x.2.1 := by
  rw [drop_at hx, partsGo, if_pos h, if_neg (by rw [h2]; exact Bool.false_ne_true)]
theorem pg_last (hx : l[i]? = some x) (h : (wayOf (seg d x.1 x.2.1) b != Str.ofString "") = true) (h2 : (wayOf (seg d x.1 x.2.1) b == Str.ofString "last") = true) : partsGo d b e (l.drop i) bg bf = preOf bg bf := by
  rw [drop_at hx, partsGo, if_pos h, if_pos h2, List.append_nil]
end
theorem spansRun_len {d : List UInt8} {e : Nat} : ∀ (n a : Nat), (spansRun d e n a).length ≤ n
  | 0, _ => Nat.le_refl _
  | n + 1, a => by
    unfold spansRun
    split
    · rw [List.length_cons]
      have := spansRun_len (d := d) (e := e) n (lineAt d a e).2
      (first | lia | omega)
    · exact Nat.zero_le _
noncomputable abbrev psLed (D : Addr) (tl9 news : List (Addr × Obj)) (c : PS) : List (Addr × Obj) := (D, listOf c.ys.toArray c.n) :: (c.tl ++ (tl9 ++ news))
noncomputable abbrev psPs (c : PS) : List (Str × Value) := [(Str.ofString "begun", begV c.begun c.tb), (Str.ofString "before", .int (c.before : Int) c.tf)]
noncomputable abbrev psP (d b : List UInt8) (e a : Nat) (D : Addr) (tl9 news : List (Addr × Obj)) (i : Nat) (c : PS) : Prop :=
  partsGo d b e (spansAt d e a) none a = c.done ++ partsGo d b e ((spansAt d e a).drop i) c.begun c.before ∧ Two (PairIn c.tl) c.ys c.done ∧ (∀ p ∈ c.tl ++ (tl9 ++ news), p.1 ≠ D) ∧ (∀ q ∈ news, ∀ p ∈ (D, listOf c.ys.toArray c.n) :: c.tl, q.1 < p.1) ∧ c.ys.length ≤ i
theorem max_if (g b : Nat) : (if (b : Int) > (g : Int) then (b : Int) else (g : Int)) = ((max g b : Nat) : Int) := by split <;> (first | lia | omega)
theorem pr_more {led : List (Addr × Obj)} {D' : Addr} {o : Obj} {ys : List Value} {done : List (Nat × Nat)} {x : Nat × Nat} {t1 t2 : Tok} (h : Two (PairIn led) ys done) (e : o = tup [.int (x.1 : Int) t1, .int (x.2 : Int) t2]) : Two (PairIn ((D', o) :: led)) (ys ++ [.ref D']) (done ++ [x]) :=
  (h.mono fun _ _ k => k.mono fun p hp => List.Mem.tail _ hp).snoc ⟨D', t1, t2, rfl, by rw [e]; exact .head _⟩
theorem sub_nB {I D x p : Addr × Obj} {tl X : List (Addr × Obj)} : ∀ q ∈ I :: D :: ((x :: tl) ++ X), q ∈ x :: p :: I :: D :: (tl ++ X) := fun q hq => by
  simp only [List.cons_append, List.mem_cons] at hq ⊢
  rcases hq with h | h | h | h <;> simp [h]
theorem sub_rA {I D p : Addr × Obj} {tl tl9 news : List (Addr × Obj)} : ∀ q ∈ (D :: tl) ++ news, q ∈ p :: I :: D :: (tl ++ (tl9 ++ news)) := fun q hq => by
  simp only [List.cons_append, List.mem_cons, List.mem_append] at hq ⊢
  rcases hq with h | h | h <;> simp [h]
theorem sub_rB {I D x p : Addr × Obj} {tl tl9 news : List (Addr × Obj)} : ∀ q ∈ (D :: x :: tl) ++ news, q ∈ x :: p :: I :: D :: (tl ++ (tl9 ++ news)) := fun q hq => by
  simp only [List.cons_append, List.mem_cons, List.mem_append] at hq ⊢
  rcases hq with h | h | h | h <;> simp [h]
theorem sub_rC {D x : Addr × Obj} {tl tl9 news : List (Addr × Obj)} : ∀ q ∈ (D :: x :: tl) ++ news, q ∈ x :: D :: (tl ++ (tl9 ++ news)) := fun q hq => by
  simp only [List.cons_append, List.mem_cons, List.mem_append] at hq ⊢
  rcases hq with h | h | h | h <;> simp [h]
theorem sub_rD {D : Addr × Obj} {tl tl9 news : List (Addr × Obj)} : ∀ q ∈ (D :: tl) ++ news, q ∈ D :: (tl ++ (tl9 ++ news)) := fun q hq => by
  simp only [List.cons_append, List.mem_cons, List.mem_append] at hq ⊢
  rcases hq with h | h | h <;> simp [h]
theorem ord_D {news tl : List (Addr × Obj)} {D D' : Addr} {o o' o2 : Obj} (hord : ∀ q ∈ news, ∀ p ∈ (D, o) :: tl, q.1 < p.1) (l : AllLt D' news) : ∀ q ∈ news, ∀ p ∈ (D, o2) :: (D', o') :: tl, q.1 < p.1 :=
  ord_cons (allLt_of fun z hz => hord z hz _ (.head _)) (ord_cons l fun z hz y hy => hord z hz y (.tail _ hy))
theorem ord_E {news tl : List (Addr × Obj)} {D : Addr} {o o2 : Obj} (hord : ∀ q ∈ news, ∀ p ∈ (D, o) :: tl, q.1 < p.1) : ∀ q ∈ news, ∀ p ∈ (D, o2) :: tl, q.1 < p.1 :=
  ord_cons (allLt_of fun z hz => hord z hz _ (.head _)) fun z hz y hy => hord z hz y (.tail _ hy)
theorem pairs_skip {D D' : Addr} {o o' : Obj} {tl : List (Addr × Obj)} {ys : List Value} {z : List (Nat × Nat)} (h : Two (PairIn ((D', o') :: tl)) ys z) : Two (PairIn ((D, o) :: (D', o') :: tl)) ys z := h.mono fun _ _ k => k.mono fun p hp => List.Mem.tail _ hp
theorem part_spans_ok (w : World) (d b : List UInt8) (t u : Tok) (a : Nat) (ta : Tok) (e : Nat) (te : Tok) (hz : d.length ≤ 16777216) (hb : b.length ≤ 1000) (ha : a ≤ e) (he : e ≤ d.length) (news : List (Addr × Obj)) :
   CtrA w 574 5 [.bytes d.toArray t, .int a ta, .int e te, .bytes b.toArray u] news (PairsOut (partsGo d b e (spansAt d e a) none a)) := by
  have hsE4 : True := trivial
  unfold CtrA
  intro prog dp un gd cn cs aF ccd cl outer A₀ base h₀ L m s loose mean mg mb Q E B F X N T hk hdp hu hret
  refine wpAny_call ?_
  k_dflt (refine' code_def (binds := [(Str.ofString "data", .bytes d.toArray t), (Str.ofString "at", .int a ta), (Str.ofString "end", .int e te), (Str.ofString "boundary", .bytes b.toArray u)]) ?k1 ?k2 ?k3 ?k4 ?k5 ?kA ?kF ?kK ?k6 ?k7 ?k8 ?k9 ?kB ?_ ?c2 ?c3 ?c4 ?c5; (case kA => exact rfl); (case kF => exact rfl); (case kK => assumption); (case k1 => exact B); (case k2 => exact F); (case k3 => exact X); (case k4 => exact N); (case k5 => exact T); (case k6 => k_is); (case k7 => k_is); (case k8 => ktr_room); (case k9 => first | exact BindsTo.of_eq rfl | exact binds_K (Frag.In.keeps X F.keep) rfl (by k_is) rfl rfl rfl); (case c5 => decide); (case kB => exact locs rfl); (case c2 => exact rfl); (case c3 => exact rfl); (case c4 => exact rfl); k_whole; intro g L₁ h₁ FG F₁ N₁ B₁ X₁ T₁; (try dsimp only); (try walk_at "m_fold"))
  replace F₁ : Fr g L₁ h₁ (fun y => List.lookup y [(Str.ofString "boundary", .bytes b.toArray u), (Str.ofString "end", .int e te), (Str.ofString "at", .int a ta), (Str.ofString "data", .bytes d.toArray t)]) := F₁
  k_steps
  unfold Stop
  rename Fr _ _ _ _ => Fw
  rename News _ _ _ _ => Nw
  rename_i D _ l1 _ _ _ _ _ _ _
  have hln : ys9.length ≤ 16777216 := by
    have h1 := two9.length
    have h2 := spansRun_len (d := d) (e := e) (e - a) a
    have h3 : (spansAt d e a).length = (spansRun d e (e - a) a).length := rfl
    (first | lia | omega)
  refine turns_led_st (σ := PS) (its := ys9) (nl := n9) (psLed D tl9 news) psPs [Str.ofString "first", Str.ofString "last", Str.ofString "behind", Str.ofString "way"] (psP d b e a D tl9 news) ⟨[], [], 0, [], none, _, a, ta⟩ rfl (fun c => .tail _ (List.mem_append_right _ (List.mem_append_left _ hD9))) Fw
    (news_sub Nw (fun p hp => by
      dsimp only [psLed] at hp
      simp only [List.nil_append, List.mem_cons, List.mem_append] at hp ⊢
      (try walk_at "m_fold")
      rcases hp with h | h | h <;> simp [h])) (by walk_at "m_all")
    ⟨rfl, .nil, fun p hp => (by
      dsimp only [List.nil_append] at hp
      (try walk_at "m_fold")
      rcases List.mem_append.mp hp with h | h
      · exact (Nat.ne_of_lt (hl9 _ (.head _) _ h)).symm
      · exact Nat.ne_of_lt (l1 p h)), ord_cons (allLt_of l1) ord_nil, Nat.zero_le _⟩ ?_ ?_
  · clear Fw Nw
    rintro i v ⟨done, ys, n, tl, begun, tb, before, tf⟩ u2 I oI h2 tk2 hv hP off F₂ N₂
    (try walk_at "m_fold")
    obtain ⟨⟨f, l, bh⟩, hx, p, t1, t2, t3, rfl, hp⟩ := two9.get hv
    have hi : i < ys9.length := (List.getElem?_eq_some_iff.mp hv).1
    replace N₂ := news_more N₂ (.tail _ (.tail _ (List.mem_append_right _ (List.mem_append_left _ hp))))
    have hgo := hP.1
    have htwo := hP.2.1
    have hoff := hP.2.2.1
    have hord := hP.2.2.2.1
    have hys := hP.2.2.2.2
    dsimp only [psLed, psPs] at hgo htwo hoff hord hys off F₂ N₂ ⊢
    dsimp only [frB, kstB] at F₂
    have hDI : @Ne Nat D I := off _ (.head _)
    have hpD : @Ne Nat p D := hoff _ (List.mem_append_right _ (List.mem_append_left _ hp))
    (try walk_at "m_fold")
    rcases begun with _ | g0
    · dsimp only [begV] at F₂
      k_steps
      · rename News _ _ _ _ => Nx
        refine hret _ ((D, listOf ys.toArray n) :: tl) _ _ (by k_asm) (news_sub Nx sub_rA) hord ⟨D, ys, n, rfl, .head _, ?_⟩
        rw [hgo, pg_last hx (by assumption) (by assumption)]
        dsimp only [preOf]
        rw [List.append_nil]
        exact htwo.mono fun _ _ k => k.mono fun p hp => .tail _ hp
      · rename News _ _ _ _ => Nx
        refine ForPostS.next (⟨done, ys, n, tl, some bh, _, l, _⟩ : PS) (by k_asm) Nx (fun _ h => .tail _ h) off (by walk_at "m_frok") ?_
        refine ⟨?_, htwo, hoff, hord, Nat.le_succ_of_le hys⟩
        rw [hgo, pg_next hx (by assumption) (by assumption)]
        rfl
      · rename News _ _ _ _ => Nx
        refine ForPostS.next (⟨done, ys, n, tl, none, tb, l, _⟩ : PS) (by k_asm) Nx (fun _ h => .tail _ h) off (by walk_at "m_frok") ?_
        refine ⟨?_, htwo, hoff, hord, Nat.le_succ_of_le hys⟩
        rw [hgo, pg_skip hx (by assumption)]
    · dsimp only [begV] at F₂
      k_steps
      · rename News _ _ _ _ => Nx
        rename (p < _ ∧ _) => l9
        rw [List.push_toArray, max_if] at Nx
        refine hret _ (_ :: _ :: tl) _ _ (by k_asm) (news_sub Nx sub_rB) (ord_D hord (allLt_right (allLt_right l9.2.2.2))) ⟨D, _, _, rfl, .head _, ?_⟩
        rw [hgo, pg_last hx (by assumption) (by assumption)]
        exact pairs_skip (pr_more (x := (g0, max g0 before)) htwo rfl)
      · rename News _ _ _ _ => Nx
        rename (p < _ ∧ _) => l9
        rw [List.push_toArray, max_if] at Nx
        refine ForPostS.next (⟨done ++ [(g0, max g0 before)], ys ++ [_], n + 1, _ :: tl, some bh, _, l, _⟩ : PS) (by k_asm) Nx sub_nB ?_ (by walk_at "m_frok") ?_
        · exact off_cons hDI (off_cons (Nat.ne_of_gt l9.2.1) fun q hq => off q (.tail _ hq))
        refine ⟨?_, pr_more (x := (g0, max g0 before)) htwo rfl, ?_, ?_, ?_⟩
        · dsimp only
          rw [hgo, pg_next hx (by assumption) (by assumption), List.append_assoc]
          rfl
        · exact off_cons (Nat.ne_of_gt l9.2.2.1) hoff
        · exact ord_D hord (allLt_right (allLt_right l9.2.2.2))
        · dsimp only
          rw [List.length_append, List.length_singleton]
          (first | lia | omega)
      · rename News _ _ _ _ => Nx
        refine ForPostS.next (⟨done, ys, n, tl, some g0, tb, l, _⟩ : PS) (by k_asm) Nx (fun _ h => .tail _ h) off (by walk_at "m_frok") ?_
        refine ⟨?_, htwo, hoff, hord, Nat.le_succ_of_le hys⟩
        rw [hgo, pg_skip hx (by assumption)]
  · clear Fw Nw
    rintro ⟨done, ys, n, tl, begun, tb, before, tf⟩ u2 h2 tk2 ⟨hgo, htwo, hoff, hord, hys⟩ F₂ N₂
    rw [List.drop_of_length_le (by rw [two9.length]; exact Nat.le_refl _)] at hgo
    dsimp only [psLed, psPs] at hgo htwo hoff hord hys F₂ N₂ ⊢
    dsimp only [frB, kstB] at F₂
    (try walk_at "m_fold")
    rcases begun with _ | g0
    · dsimp only [begV] at F₂
      k_steps
      rename News _ _ _ _ => Nx
      refine hret _ ((D, listOf ys.toArray n) :: tl) _ _ (by k_asm) (news_sub Nx sub_rD) hord ⟨D, ys, n, rfl, .head _, ?_⟩
      rw [hgo, partsGo]
      dsimp only [endOf]
      rw [List.append_nil]
      exact htwo.mono fun _ _ k => k.mono fun p hp => .tail _ hp
    · dsimp only [begV] at F₂
      k_steps
      rename News _ _ _ _ => Nx
      rename (D < _ ∧ _) => l9
      rw [List.push_toArray] at Nx
      refine hret _ (_ :: _ :: tl) _ _ (by k_asm) (news_sub Nx sub_rC) (ord_D hord (allLt_right (allLt_right l9.2))) ⟨D, _, _, rfl, .head _, ?_⟩
      rw [hgo, partsGo]
      exact pairs_skip (pr_more (x := (g0, e)) htwo rfl)

end
/-! E5 -/
section
open PyProof.V PySem.Spec PyProof.Rows.LCg PyProof.Rows.LCt
theorem reg_36 : True := by
  k_with "my call ref" => (((fail_if_success (fail_if_success (have z9 := hsE5))); ((k_here; (with_reducible show wpAny _ _ (call (Value.ref 574) _) _ _ _); (try walk_at "m_fold"); k_dflt (refine' CtrA.useS ?k0ₘ ?k1ₘ ?k2ₘ ?k3ₘ ?k4ₘ ?k5ₘ ?kKₘ ?kdₘ ?kuₘ ?_; (case k1ₘ => k_asm); (case k2ₘ => k_asm); (case k3ₘ => k_asm); (case k4ₘ => k_asm); (case k5ₘ => k_asm); (case k0ₘ => exact (part_spans_ok _ _ _ _ _ _ _ _ _ (by walk_at "m_om") (by exact Nat.le_of_ble_eq_true rfl) (by walk_at "m_om") (by walk_at "m_om") _)); (case kKₘ => first | exact rfl | assumption); (case kdₘ => ktr_room); (case kuₘ => ktr_units); k_whole); intro r9 tl9 h9 tk9 F9 N9 hl9 ho9; (refine Mine.ex_3_3 (ho9) ?_; (try clear ho9); intro D9 ys9 n9 e9 hD9 two9); subst e9; replace N9 := news_more (news_more (news_more N9 (List.mem_append_left _ hD9)) (show (dx, partD w.params ct b bo e fl (.ref k) enc kids inner) ∈ _ from by simp [hd])) (show (p, instObj 551 dx) ∈ _ from by simp [hp]); (try k_unfold); (try dsimp only); (try walk_at "m_fold")))))
  k_with "my m_alt" => (((fail_if_success (fail_if_success (have z9 := hsE5))); (first | assumption | exact And.right (by assumption) | exact And.right (And.right (by assumption)) | exact And.right (And.right (And.right (by assumption))) | exact And.right (And.right (And.right (And.right (by assumption)))) | exact And.right (And.right (And.right (And.right (And.right (by assumption))))) | exact And.right (And.right (And.right (And.right (And.right (And.right (by assumption)))))) | exact And.right (And.right (And.right (And.right (And.right (And.right (And.right (by assumption))))))) | exact And.right (And.right (And.right (And.right (And.right (And.right (And.right (And.right (by assumption)))))))) | exact And.right (And.right (And.right (And.right (And.right (And.right (And.right (And.right (And.right (by assumption))))))))) | exact And.right (And.right (And.right (And.right (And.right (And.right (And.right (And.right (And.right (And.right (by assumption)))))))))) | exact And.right (And.right (And.right (And.right (And.right (And.right (And.right (And.right (And.right (And.right (And.right (by assumption))))))))))) | exact And.right (And.right (And.right (And.right (And.right (And.right (And.right (And.right (And.right (And.right (And.right (And.right (by assumption)))))))))))) | exact And.right (And.right (And.right (And.right (And.right (And.right (And.right (And.right (And.right (And.right (And.right (And.right (And.right (by assumption))))))))))))) | exact And.right (And.right (And.right (And.right (And.right (And.right (And.right (And.right (And.right (And.right (And.right (And.right (And.right (And.right (by assumption)))))))))))))) | exact And.right (And.right (And.right (And.right (And.right (And.right (And.right (And.right (And.right (And.right (And.right (And.right (And.right (And.right (And.right (by assumption))))))))))))))))))
  trivial
noncomputable def orEnd (e : Nat) (l : List (Nat × Nat)) : List (Nat × Nat) := if l = [] then [(e, e)] else l
theorem reg_37 : True := by
  k_with "my eval ListComp" => (((fail_if_success (fail_if_success (have z9 := hsE5))); ((k_here; k_dflt (refine Mine.ListComp_GT (by k_asm) (by rfl) (by decide) (by rfl) (by decide) (by rfl) ?_); k_whole))))
  trivial
noncomputable def pairD (x : Nat × Nat) : PyData := .tuple [.int x.1, .int x.2]
theorem pairs_read {h₀ h : Heap} {L : Addr} {led news : List (Addr × Obj)} (N : News h₀ L h news) {ys : List Value} {z : List (Nat × Nat)} (two : Two (PairIn led) ys z) (sub : ∀ p ∈ led, p ∈ news) : ∃ as, ReadsAll h ys (z.map pairD) as := by
  induction two with
  | nil => exact ⟨_, .nil⟩
  | cons r _ ih =>
    (refine Mine.ex_3_2 (r) ?_; (try clear r); intro p t1 t2 eq3 hp; subst eq3)
    (refine Mine.ex_1_1 (ih) ?_; (try clear ih); intro bs rb)
    exact ⟨_, .cons (reads_tuple_at (N.get (sub _ hp)) rfl rfl (.cons (.int _ _) (.cons (.int _ _) .nil))) rb⟩
theorem pairs_lay : ∀ z : List (Nat × Nat), PyData.canLayAll0 (z.map pairD) = true ∧ PyData.depthAll (z.map pairD) ≤ 3
  | [] => ⟨rfl, Nat.zero_le _⟩
  | x :: z => by
    have h := pairs_lay z
    have h1 : (pairD x).canLay0 = true := rfl
    have h2 : (pairD x).depth ≤ 3 := Nat.le_of_ble_eq_true rfl
    have h3 := h.2
    rw [List.map_cons]
    simp only [PyData.canLayAll0, PyData.depthAll, h1, h.1, Bool.and_self, true_and]
    (first | lia | omega)
section
variable {prog : Program} {w : World} {A : Around} {E : Value → Shared → Prop} {s : Shared} {h₀ : Heap} {L a b : Addr} {news led : List (Addr × Obj)} {n1 n2 : Nat} {ys : List Value} {z : List (Nat × Nat)} {Q : Value → Shared → Prop}
theorem ne_pairs (N : News h₀ L s.heap news) (ma : (a, listOf ys.toArray n1) ∈ news) (two : Two (PairIn led) ys z) (sub : ∀ p ∈ led, p ∈ news) (mb : (b, listOf #[] n2) ∈ news) (hu : A.units + 64 < cLine)
    (h0 : z = [] → Q (.bool false) s) (h1 : z ≠ [] → Q (.bool true) s) : wpAny (model prog w) A (compareOp .NotEq (.ref a) (.ref b)) Q E s := by
  (refine Mine.ex_1_1 (pairs_read N two sub) ?_; intro as ra)
  have l := pairs_lay z
  refine ne_dataH (reads_list_at (N.get ma) rfl rfl (by simpa using ra)) (reads_list_at (xs := []) (N.get mb) rfl rfl (by exact .nil)) ?_ rfl hu ?_
  · have l2 := l.2
    unfold SeqAt.shaped
    simp only [PyData.canLay0, PyData.depth, l.1, Bool.true_and]
    refine decide_eq_true ?_
    (first | lia | omega)
  · cases z with
    | nil => exact h0 rfl
    | cons x z => exact h1 (fun h => nomatch h)
theorem ne_nil (N : News h₀ L s.heap news) (ma : (a, listOf #[] n1) ∈ news) (mb : (b, listOf #[] n2) ∈ news) (hu : A.units + 64 < cLine) (h1 : Q (.bool false) s) : wpAny (model prog w) A (compareOp .NotEq (.ref a) (.ref b)) Q E s :=
  ne_pairs (led := []) (ys := []) (z := []) N ma .nil (fun _ h => nomatch h) mb hu (fun _ => h1) (fun h => (h rfl).elim)
theorem len_txt1 {c : Nat} {t : Tok} (h : Q (.int 1 (s.toks + 1)) { s with toks := s.toks + 1 + 1 }) : wpAny (model prog w) A (call (.builtin "len") [.str (txt [c]) t]) Q E s :=
  P.len_str (by show ¬ ((1 : Int) ≥ 2 ^ 63); decide) h
end
theorem reg_38 : True := by
  k_with "my call builtin:len" => (((fail_if_success (fail_if_success (have z9 := hsE5))); ((k_here; k_dflt (refine Mine.len_txt1 ?_); k_whole))))
  k_with "my compareOp NotEq ref ref" => (((fail_if_success (fail_if_success (have z9 := hsE5))); ((k_here; k_dflt (refine' Mine.ne_pairs ?h1ₘ ?h2ₘ ?h6ₘ ?h3ₘ ?h4ₘ ?h5ₘ (fun hz9 => ?_) (fun hz9 => ?_); (case h1ₘ => k_asm); (case h6ₘ => assumption); (case h2ₘ => k_mem); (case h3ₘ => (intro p hp; repeat' (first | exact List.mem_append_left _ hp | refine List.Mem.tail _ ?_))); (case h4ₘ => k_mem); (case h5ₘ => ktr_units); k_whole)))))
  k_with "my compareOp NotEq ref ref" => (((fail_if_success (fail_if_success (have z9 := hsE5))); ((k_here; k_dflt (refine' Mine.ne_nil ?h1ₘ ?h2ₘ ?h4ₘ ?h5ₘ ?_; (case h1ₘ => k_asm); (case h2ₘ => k_mem); (case h4ₘ => k_mem); (case h5ₘ => ktr_units); k_whole)))))
  trivial
theorem compT_zero {prog : Program} {w : World} {A : Around} {s : Shared} {h₀ : Heap} {L : Addr} {m : Str → Option Value} {env : Env} {ct elt : Expr} {x : Str} {scope : Scope} {cl : List (Str × Addr)} {S : List (Addr × Obj) → Prop} {P : Nat → Value → Prop} {Fin : List Value → List (Addr × Obj) → Prop} {i : Nat} {ys : List Value} {news : List (Addr × Obj)} (h : ∀ zs, zs = ys → Fin zs news) :
    CompRestT prog w A h₀ L m env ct elt x scope cl s S P Fin 0 i ys news := h ys rfl
theorem comp_end0 {h₀ h' : Heap} {L I C D : Addr} {m : Str → Option Value} {s₁ : Shared} {oI oC oD : Obj} {S : List (Addr × Obj) → Prop} {rest : Value → List (Addr × Obj) → Prop} {y : Value} {tk : Nat} {led : List (Addr × Obj)}
    (F : Fr h₀ L h' m) (N : News h₀ L h' ((I, oI) :: (C, oC) :: (D, oD) :: led)) (off : Off3 I C D led) (hS : S led) (r : rest y led) :
    CompEnd h₀ L m s₁ I oI C oC D oD S rest y { s₁ with heap := h', toks := tk } :=
  CompEnd.intro F N led (fun p hp => hp) off hS r
theorem kid_spans_none (w : World) (d : List UInt8) (t : Tok) (p dx : Addr) (ct : PTk) (b bo e : Nat) (fl : Value) (k : Addr) (z1 z2 : Str) (enc : Str) (kids inner : Value) (news : List (Addr × Obj)) (hp : (p, instObj 551 dx) ∈ news) (hd : (dx, partD w.params ct b bo e fl (.ref k) enc kids inner) ∈ news) (hk : KindIn w news k (z1, z2, [])) :
    CtrA w 579 10 [.bytes d.toArray t, .ref p] news (PairsOut [(e, e)]) := by
  have hsE5 : True := trivial
  (refine Mine.ex_8_5 (hk) ?_; (try clear hk); intro dxk q o u1 u2 u3 u4 u5 g1 g2 g3 g4 hpm)
  (refine Mine.ex_1_2 (hpm) ?_; (try clear hpm); intro kvs g5 g6)
  unfold CtrA
  intro prog dp un gd cn cs aF ccd cl outer A₀ base h₀ L m s loose mean mg mb Q E B F X N T hk hdp hu hret
  refine wpAny_call ?_
  k_dflt (refine' code_def (binds := [(Str.ofString "data", .bytes d.toArray t), (Str.ofString "part", .ref p)]) ?k1 ?k2 ?k3 ?k4 ?k5 ?kA ?kF ?kK ?k6 ?k7 ?k8 ?k9 ?kB ?_ ?c2 ?c3 ?c4 ?c5; (case kA => exact rfl); (case kF => exact rfl); (case kK => assumption); (case k1 => exact B); (case k2 => exact F); (case k3 => exact X); (case k4 => exact N); (case k5 => exact T); (case k6 => k_is); (case k7 => k_is); (case k8 => ktr_room); (case k9 => first | exact BindsTo.of_eq rfl | exact binds_K (Frag.In.keeps X F.keep) rfl (by k_is) rfl rfl rfl); (case c5 => decide); (case kB => exact locs rfl); (case c2 => exact rfl); (case c3 => exact rfl); (case c4 => exact rfl); k_whole; intro g L₁ h₁ FG F₁ N₁ B₁ X₁ T₁; (try dsimp only); (try walk_at "m_fold"))
  replace F₁ : Fr g L₁ h₁ (fun y => List.lookup y [(Str.ofString "part", .ref p), (Str.ofString "data", .bytes d.toArray t)]) := F₁
  replace N₁ := news_more (news_more (news_more (news_more (news_more N₁ hd) (.tail _ hp)) (.tail _ (.tail _ g2))) (.tail _ (.tail _ (.tail _ g1)))) (.tail _ (.tail _ (.tail _ (.tail _ g3))))
  replace g5 := g5 prog
  dsimp only [List.map] at g6
  k_steps
  (try unfold Stop)
  rename Fr _ _ _ _ => Fw
  rename News _ _ _ _ => Nw
  refine iterG_str (l := []) rfl Fw Nw (by exact Nat.le_of_ble_eq_true rfl) ?_
  intro hg
  refine compT_zero ?_
  clear Fw Nw
  intro ys0 hys0
  have two : Nums ys0 [] := hys0 ▸ .nil
  clear hys0
  have h256 : ∀ c ∈ ([] : List Nat), c < 256 := nofun
  have hl0 : ([] : List Nat).length ≤ 16777216 := Nat.zero_le _
  k_steps
  rename News _ _ _ _ => Nx
  exact end_top2 hret (by k_asm) Nx (by walk_at "m_incl") (by walk_at "m_alt") (by walk_at "m_alt") ⟨_, [_], _, rfl, .head _, .cons ⟨_, _, _, rfl, .tail _ (.head _)⟩ .nil⟩
theorem kid_spans_one (w : World) (d : List UInt8) (t : Tok) (p dx : Addr) (ct : PTk) (b bo e : Nat) (fl : Value) (k : Addr) (z1 z2 : Str) (c : Nat) (enc : Str) (kids inner : Value) (news : List (Addr × Obj)) (hp : (p, instObj 551 dx) ∈ news) (hd : (dx, partD w.params ct b bo e fl (.ref k) enc kids inner) ∈ news)
    (hk : KindIn w news k (z1, z2, [("boundary", txt [c])])) (hc : c < 128) (hz : d.length ≤ 16777216) (hbe : bo ≤ e) (he : e ≤ d.length) :
    CtrA w 579 10 [.bytes d.toArray t, .ref p] news (PairsOut (orEnd e (partsGo d [c.toUInt8] e (spansAt d e bo) none bo))) := by
  have hsE5 : True := trivial
  (refine Mine.ex_8_5 (hk) ?_; (try clear hk); intro dxk q o u1 u2 u3 u4 u5 g1 g2 g3 g4 hpm)
  (refine Mine.ex_1_2 (hpm) ?_; (try clear hpm); intro kvs g5 g6)
  unfold CtrA
  intro prog dp un gd cn cs aF ccd cl outer A₀ base h₀ L m s loose mean mg mb Q E B F X N T hk hdp hu hret
  refine wpAny_call ?_
  k_dflt (refine' code_def (binds := [(Str.ofString "data", .bytes d.toArray t), (Str.ofString "part", .ref p)]) ?k1 ?k2 ?k3 ?k4 ?k5 ?kA ?kF ?kK ?k6 ?k7 ?k8 ?k9 ?kB ?_ ?c2 ?c3 ?c4 ?c5; (case kA => exact rfl); (case kF => exact rfl); (case kK => assumption); (case k1 => exact B); (case k2 => exact F); (case k3 => exact X); (case k4 => exact N); (case k5 => exact T); (case k6 => k_is); (case k7 => k_is); (case k8 => ktr_room); (case k9 => first | exact BindsTo.of_eq rfl | exact binds_K (Frag.In.keeps X F.keep) rfl (by k_is) rfl rfl rfl); (case c5 => decide); (case kB => exact locs rfl); (case c2 => exact rfl); (case c3 => exact rfl); (case c4 => exact rfl); k_whole; intro g L₁ h₁ FG F₁ N₁ B₁ X₁ T₁; (try dsimp only); (try walk_at "m_fold"))
  replace F₁ : Fr g L₁ h₁ (fun y => List.lookup y [(Str.ofString "part", .ref p), (Str.ofString "data", .bytes d.toArray t)]) := F₁
  replace N₁ := news_more (news_more (news_more (news_more (news_more N₁ hd) (.tail _ hp)) (.tail _ (.tail _ g2))) (.tail _ (.tail _ (.tail _ g1)))) (.tail _ (.tail _ (.tail _ (.tail _ g3))))
  replace g5 := g5 prog
  dsimp only [List.map] at g6
  k_steps
  (try unfold Stop)
  rename Fr _ _ _ _ => Fw
  rename News _ _ _ _ => Nw
  refine iterG_str (l := [c]) rfl Fw Nw (by exact Nat.le_of_ble_eq_true rfl) ?_
  intro hg
  refine CompRestT.succ ?_
  rintro v I oI C oC D m₂ h tk E' ⟨c', u, hc', rfl⟩ hC hx F₂ N₂ off ne
  obtain rfl : c = c' := Option.some.inj hc'
  have off0 := off
  k_steps
  rename Fr _ _ _ _ => Fx
  rename News _ _ _ _ => Nx
  refine comp_end0 Fx Nx off0 trivial ?_
  refine compT_zero ?_
  clear Fx Nx off off0
  intro ys0 hys0
  have two : Nums ys0 [c] := hys0 ▸ .cons ⟨_, rfl⟩ .nil
  clear hys0
  have hl0 : [c].length ≤ 16777216 := by exact Nat.le_of_ble_eq_true rfl
  have hne : (txt [c] != Str.ofString "") = true := rfl
  have hsz : (((List.map Nat.toUInt8 [c]).toArray.size : Int) == 1) = true := rfl
  have h256 : ∀ x ∈ [c], x < 256 := fun x hx => by rw [List.mem_singleton.mp hx]; (first | lia | omega)
  k_steps
  · refine end_top2 hret (by k_asm) (by k_asm) (fun y hy => by simp [hy]) (allLt_of fun y hy => ?_) (allLt_of fun y hy => ?_) ?_
    · exact allLt_mem (show _ ∧ _ ∧ p < _ ∧ dx < _ ∧ D9 < _ ∧ AllLt _ _ from by assumption).2.2.2.2.2 y (by simp [hy])
    · exact allLt_mem (show _ ∧ p < _ ∧ dx < _ ∧ D9 < _ ∧ AllLt _ _ from by assumption).2.2.2.2 y (by simp [hy])
    rw [orEnd, if_pos (show partsGo d [c.toUInt8] e (spansAt d e bo) none bo = [] from hz9)]
    exact ⟨_, [_], _, rfl, .head _, .cons ⟨_, _, _, rfl, .tail _ (.head _)⟩ .nil⟩
  · rename News _ _ _ _ => Nx
    refine hret _ tl9 _ _ (by k_asm) (news_sub Nx fun y hy => ?_) (fun y hy z hz => hl9 y (by simp [hy]) z hz) ?_
    · rcases List.mem_append.mp hy with h | h
      · simp [h]
      · simp [h]
    · rw [orEnd, if_neg (show ¬ partsGo d [c.toUInt8] e (spansAt d e bo) none bo = [] from hz9)]
      exact ⟨D9, ys9, n9, rfl, hD9, two9⟩

end
/-! E6 -/
section
open PyProof.V PySem.Spec PyProof.Rows.LCg PyProof.Rows.LCt
noncomputable def OneP (kd : KD) : Prop := kd.2.2 = [] ∨ ∃ x y, kd.2.2 = [(x, y)]
theorem kind_told_any (w : World) (k : Addr) (kd : KD) (news : List (Addr × Obj)) (hk : KindIn w news k kd) (h : OneP kd) : CtrA w 387 4 [.ref k] news (fun tl v => RD w tl v (kindD kd)) := by
  obtain ⟨a, b, c⟩ := kd
  rcases h with h | ⟨x, y, h⟩
  · dsimp only at h; subst h; exact kind_told_nil w k a b news hk
  · dsimp only at h; subst h; exact kind_told_one w k a b x y news hk
/-- a part in the heap, and what is told of it -/
noncomputable def PartIn (w : World) (led : List (Addr × Obj)) : Nat → Value → PyData → Prop
  | 0, _, _ => False
  | n + 1, v, z => ∃ p dx ct b bo e fl k kd enc kl ys mk zs iv zi, v = .ref p ∧ (p, instObj 551 dx) ∈ led ∧ (dx, partD w.params ct b bo e fl (.ref k) enc (.ref kl) iv) ∈ led ∧ KindIn w led k kd ∧ OneP kd ∧
      (kl, listOf (List.toArray ys) mk) ∈ led ∧ ys.length ≤ 16777216 ∧ Two (PartIn w led n) ys zs ∧ ((iv = .none ∧ zi = .none) ∨ PartIn w led n iv zi) ∧
      z = .tuple [.int (b : Int), .int (bo : Int), .int (e : Int), kindD kd, .str enc, .tuple zs, zi]
theorem PartIn.mono {w : World} {led led' : List (Addr × Obj)} (s : ∀ p ∈ led, p ∈ led') {n : Nat} {v : Value} {z : PyData} (h : PartIn w led n v z) : PartIn w led' n v z := by
  induction n generalizing v z with
  | zero => exact h
  | succ n ih =>
    (refine Mine.ex_16_10 (h) ?_; (try clear h); intro p dx ct b bo e fl k kd enc kl ys mk zs iv zi h1 h2 h3 h4 h5 h6 h7 h8 h9 h10)
    exact ⟨p, dx, ct, b, bo, e, fl, k, kd, enc, kl, ys, mk, zs, iv, zi, h1, s _ h2, s _ h3, h4.mono s, h5, s _ h6, h7, h8.mono fun _ _ h => ih h, h9.imp id fun h => ih h, h10⟩
theorem PartIn.up {w : World} {led led' : List (Addr × Obj)} {n : Nat} {v : Value} {z : PyData} (h : PartIn w led n v z) (s : ∀ p ∈ led, p ∈ led') : PartIn w led' n v z := PartIn.mono s h
theorem PartIn.obj {w : World} {led : List (Addr × Obj)} {v : Value} {z : PyData} : ∀ {n : Nat}, PartIn w led n v z → ∃ p dx ct b bo e fl kv enc kids inner, v = .ref p ∧ (p, instObj 551 dx) ∈ led ∧ (dx, partD w.params ct b bo e fl kv enc kids inner) ∈ led := by
  intro n h
  cases n with
  | zero => exact h.elim
  | succ n =>
    (refine Mine.ex_16_4 (h) ?_; (try clear h); intro _ _ _ _ _ _ _ _ _ _ _ _ _ _ _ _ h1 h2 h3 _)
    exact ⟨_, _, _, _, _, _, _, _, _, _, _, h1, h2, h3⟩
theorem KindIn.obj {w : World} {led : List (Addr × Obj)} {k : Addr} {z : KD} (h : KindIn w led k z) : ∃ dx q t1 t2 t3 t4 t5, (k, instObj 411 dx) ∈ led ∧ (dx, dictOf [⟨PyData.keyHash w.params "top", .str "top" t1, .str z.1 t4⟩, ⟨PyData.keyHash w.params "sub", .str "sub" t2, .str z.2.1 t5⟩, ⟨PyData.keyHash w.params "params", .str "params" t3, .ref q⟩] 3) ∈ led :=
  by (refine Mine.ex_8_3 (h) ?_; (try clear h); intro dx q _ _ _ _ _ _ a b _); exact ⟨dx, q, _, _, _, _, _, a, b⟩
theorem news_comm {h₀ h : Heap} {L : Addr} {a b : List (Addr × Obj)} (N : News h₀ L h (a ++ b)) : News h₀ L h (b ++ a) := fun p hp => N p (List.mem_append.mpr (List.mem_append.mp hp).symm)
theorem reg_39 : True := by
  k_with "my m_sub" => (((fail_if_success (fail_if_success (have z9 := hsE6))); ((intro q9ₘ hq9ₘ; repeat' (first | exact hq9ₘ | exact List.mem_append_left _ hq9ₘ | exact List.mem_append_right _ hq9ₘ | refine List.Mem.tail _ ?_ | exact List.mem_append_right _ (List.mem_append_left _ hq9ₘ))))))
  trivial
theorem told_turn {w : World} {h₀ h' : Heap} {L I C D : Addr} {m : Str → Option Value} {s₁ : Shared} {oI oC oD : Obj} {tk i : Nat} {tl9 tlk X news : List (Addr × Obj)} {x y0 x1 x2 x3 x4 x5 : Addr × Obj} {r : Value} {zk : PyData} {us : List Value} {zs : List PyData}
    (F : Fr h₀ L h' m) (N : News h₀ L h' (x :: y0 :: (I, oI) :: (C, oC) :: (D, oD) :: x1 :: x2 :: x3 :: x5 :: x4 :: ((tlk ++ X) ++ tl9))) (off : Off3 I C D (x1 :: x2 :: x3 :: x5 :: x4 :: (tlk ++ X)))
    (hl : ∀ q ∈ x :: y0 :: (I, oI) :: (C, oC) :: (D, oD) :: x1 :: x2 :: x3 :: x5 :: x4 :: (tlk ++ X), ∀ p ∈ tl9, q.1 ≠ p.1) (hsub : ∀ q ∈ news, q ∈ X) (hne : ∀ q ∈ news, ∀ y ∈ tlk, q.1 ≠ y.1) (hz : zs[i]? = some zk) (htwo : Two (RD w tlk) us (zs.take i)) (ho : RD w tl9 r zk) :
    CompEnd h₀ L m s₁ I oI C oC D oD (fun nw => x4 ∈ nw) (fun y nw => ∃ tl, nw = x1 :: x2 :: x3 :: x5 :: x4 :: (tl ++ X) ∧ (∀ q ∈ news, ∀ y ∈ tl, q.1 ≠ y.1) ∧ Two (RD w tl) (us ++ [y]) (zs.take (i + 1))) r { s₁ with heap := h', toks := tk } := by
  have off0 := off.mem
  refine CompEnd.intro F N (x1 :: x2 :: x3 :: x5 :: x4 :: ((tl9 ++ tlk) ++ X)) (fun p hp => ?_) (Off3.of fun p hp => ?_) (.tail _ (.tail _ (.tail _ (.tail _ (.head _))))) ⟨tl9 ++ tlk, rfl, fun q hq y hy => ?_, ?_⟩
  · exact (show ∀ p ∈ (I, oI) :: (C, oC) :: (D, oD) :: x1 :: x2 :: x3 :: x5 :: x4 :: ((tl9 ++ tlk) ++ X), p ∈ _ from by walk_at "m_sub9") p hp
  · have key : ∀ p ∈ x1 :: x2 :: x3 :: x5 :: x4 :: ((tl9 ++ tlk) ++ X), p ∈ tl9 ++ (x1 :: x2 :: x3 :: x5 :: x4 :: (tlk ++ X)) := by walk_at "m_sub9"
    rcases List.mem_append.mp (key p hp) with h | h
    · exact ⟨(hl (I, oI) (by walk_at "m_mem9") p h).symm, (hl (C, oC) (by walk_at "m_mem9") p h).symm, (hl (D, oD) (by walk_at "m_mem9") p h).symm⟩
    · exact off0 p h
  · rcases List.mem_append.mp hy with h | h
    · have hx := hsub q hq
      exact hl q (by walk_at "m_mem9") y h
    · exact hne q hq y h
  · rw [List.take_add_one, hz]
    exact (htwo.mono fun _ _ h => h.mono fun p hp => List.mem_append_right _ hp).snoc (ho.mono fun p hp => List.mem_append_left _ hp)
theorem tuple_L {prog : Program} {w : World} {A : Around} {E : Value → Shared → Prop} {s : Shared} {h₀ : Heap} {L l : Addr} {m : Str → Option Value} {news : List (Addr × Obj)} {its : List Value} {c : Nat} {Q : Value → Shared → Prop} (F : Fr h₀ L s.heap m) (N : News h₀ L s.heap news) (hl : (l, ({ cls := .type "list", data := .seq its.toArray c } : Obj)) ∈ news) (hz : its.length ≤ 16777216)
    (h : ∀ D h', Fr h₀ L h' m → News h₀ L h' ((D, ({ cls := .type "tuple", data := .seq its.toArray } : Obj)) :: news) → (∀ p ∈ news, p.1 < D) → Q (.ref D) { s with heap := h' }) : wpAny (model prog w) A (call (.type "tuple") [.ref l]) Q E s := by
  refine call_tuple_list (items := its.toArray) ⟨_, (N _ hl).1, rfl, _, rfl⟩ (fun h' hk => ?_) (by rw [sizeLine_eq, List.size_toArray]; (first | lia | omega))
  have F' : Fr h₀ L h' m := F.keeps hk
  have N' : News h₀ L h' news := fun p hp => ⟨hk _ _ (N p hp).1, (N p hp).2⟩
  exact h _ _ (F'.push _) (N'.push F' _) fun p hp => Heap.lt_size (N' p hp).1
theorem reg_40 : True := by
  k_with "my call type:tuple" => (((fail_if_success (fail_if_success (have z9 := hsE6))); ((k_here; (with_reducible show wpAny _ _ (call (Value.type _) [Value.ref _]) _ _ _); k_dflt (refine' Mine.tuple_L ?k1ₘ ?k2ₘ ?k3ₘ ?k4ₘ ?_; (case k1ₘ => k_asm); (case k2ₘ => k_asm); (case k3ₘ => k_mem); (case k4ₘ => walk_at "m_om"); k_whole); intro D'ₘ h'ₘ F'ₘ N'ₘ l1ₘ; (try k_lt l1ₘ); (try k_sweep)))))
  trivial
theorem told_end {h₀ h' : Heap} {L : Addr} {m : Str → Option Value} {news rest tlx : List (Addr × Obj)} {s : Shared} {Q : Value → Shared → Prop} {tk' : Tok} {Out : List (Addr × Obj) → Value → Prop} {v : Value} {a b : Addr × Obj}
    (hret : ∀ r tl h' tk', Fr h₀ L h' m → News h₀ L h' (tl ++ news) → (∀ q ∈ news, ∀ p ∈ tl, q.1 ≠ p.1) → Out tl r → Q r { s with heap := h', toks := tk' })
    (F : Fr h₀ L h' m) (N : News h₀ L h' (a :: b :: rest)) (sub : ∀ p ∈ tlx ++ news, p ∈ rest) (la : ∀ q ∈ news, q.1 < a.1) (lb : ∀ q ∈ news, q.1 < b.1) (hne : ∀ q ∈ news, ∀ y ∈ tlx, q.1 ≠ y.1) (ho : Out (a :: b :: tlx) v) : Q v { s with heap := h', toks := tk' } :=
  hret _ (a :: b :: tlx) _ _ F (fun p hp => by
    rcases List.mem_cons.mp hp with rfl | hp
    · exact N _ (.head _)
    · rcases List.mem_cons.mp hp with rfl | hp
      · exact N _ (.tail _ (.head _))
      · exact N _ (.tail _ (.tail _ (sub _ hp)))) (fun q hq y hy => by
    rcases List.mem_cons.mp hy with rfl | hy
    · exact Nat.ne_of_lt (la q hq)
    · rcases List.mem_cons.mp hy with rfl | hy
      · exact Nat.ne_of_lt (lb q hq)
      · exact hne q hq y hy) ho
theorem reg_41 : True := by
  k_with "my call ref" => (((fail_if_success (fail_if_success (have z9 := hsE6))); ((k_here; (with_reducible show wpAny _ _ (call (Value.ref 548) _) _ _ _); (try walk_at "m_fold"); k_dflt (refine' CtrN.useS ?k0ₘ ?k1ₘ ?k2ₘ ?k3ₘ ?k4ₘ ?k5ₘ ?kKₘ ?kdₘ ?kuₘ ?_; (case k1ₘ => k_asm); (case k2ₘ => k_asm); (case k3ₘ => k_asm); (case k4ₘ => k_asm); (case k5ₘ => k_asm); (case k0ₘ => exact (ih _ _ _ (PartIn.up (by assumption) (by walk_at "m_sub")))); (case kKₘ => first | exact rfl | assumption); (case kdₘ => ktr_room); (case kuₘ => ktr_units); k_whole); intro r9 tl9 h9 tk9 F9 N9 hl9 ho9; replace N9 := Mine.news_comm N9; (try simp only [List.cons_append] at N9); (try k_unfold); (try dsimp only); (try walk_at "m_fold")))))
  k_with "my call ref" => (((fail_if_success (fail_if_success (have z9 := hsE6))); ((k_here; (with_reducible show wpAny _ _ (call (Value.ref 387) _) _ _ _); (try walk_at "m_fold"); k_dflt (refine' CtrA.useS ?k0ₘ ?k1ₘ ?k2ₘ ?k3ₘ ?k4ₘ ?k5ₘ ?kKₘ ?kdₘ ?kuₘ ?_; (case k1ₘ => k_asm); (case k2ₘ => k_asm); (case k3ₘ => k_asm); (case k4ₘ => k_asm); (case k5ₘ => k_asm); (case k0ₘ => exact (kind_told_any _ _ _ _ (KindIn.mono (by assumption) (by walk_at "m_sub")) (by assumption))); (case kKₘ => first | exact rfl | assumption); (case kdₘ => ktr_room); (case kuₘ => ktr_units); k_whole); intro r8 tl8 h8 tk8 F8 N8 hl8 ho8; replace N8 := Mine.news_comm N8; (try simp only [List.cons_append] at N8); (try k_unfold); (try dsimp only); (try walk_at "m_fold")))))
  trivial
/-- a cut: an expression whose value is told of -/
theorem cut_RD {M : Model} {A : Around} {c : Sem Value} {w : World} {h₀ h : Heap} {L : Addr} {m : Str → Option Value} {all : List (Addr × Obj)} {s : Shared} {k : Tok} {zi : PyData} {Q E : Value → Shared → Prop} (F : Fr h₀ L h m) (N : News h₀ L h all)
    (hc : ∀ Q' : Value → Shared → Prop, (∀ r tl h' tk, Fr h₀ L h' m → News h₀ L h' (tl ++ all) → (∀ q ∈ all, ∀ p ∈ tl, q.1 ≠ p.1) → RD w tl r zi → Q' r ⟨h', s.gens, s.drawn, tk, s.os⟩) → wpAny M A c Q' E ⟨h, s.gens, s.drawn, k, s.os⟩)
    (key : ∀ r tl h' tk, Fr h₀ L h' m → News h₀ L h' (all ++ tl) → (∀ q ∈ all, ∀ p ∈ tl, q.1 ≠ p.1) → RD w tl r zi → Q r ⟨h', s.gens, s.drawn, tk, s.os⟩) : wpAny M A c Q E ⟨h, s.gens, s.drawn, k, s.os⟩ :=
  hc Q fun r tl h' tk F' N' => key r tl h' tk F' (news_comm N')
theorem reg_42 : True := by
  k_with "my eval IfExp" => (((fail_if_success (fail_if_success (have z9 := hsE6))); (((fail_if_success (have zz9ₘ := hcut9)); refine Mine.stop_here ?_))))
  trivial
theorem told_any (w : World) (n : Nat) (ih : ∀ v z news, PartIn w news n v z → CtrN w 548 (2 * n + 4) [v] news (fun tl r => RD w tl r z))
    (p dx : Addr) (ct : PTk) (b bo e : Nat) (fl : Value) (k : Addr) (kd : KD) (enc : Str) (kl : Addr) (ys : List Value) (mk : Nat) (zs : List PyData) (iv : Value) (zi : PyData) (news : List (Addr × Obj)) (h2 : (p, instObj 551 dx) ∈ news) (h3 : (dx, partD w.params ct b bo e fl (.ref k) enc (.ref kl) iv) ∈ news)
    (h4 : KindIn w news k kd) (h5 : OneP kd) (h6 : (kl, listOf (List.toArray ys) mk) ∈ news) (h7 : ys.length ≤ 16777216) (h8 : Two (PartIn w news n) ys zs) (h9 : (iv = .none ∧ zi = .none) ∨ PartIn w news n iv zi) :
    CtrN w 548 (2 * (n + 1) + 4) [.ref p] news (fun tl r => RD w tl r (.tuple [.int (b : Int), .int (bo : Int), .int (e : Int), kindD kd, .str enc, .tuple zs, zi])) := by
  have hsE6 : True := trivial
  (refine Mine.ex_7_2 (h4.obj) ?_; intro dxk qz u1 u2 u3 u4 u5 h10 h11)
  unfold CtrN
  intro prog dp un gd cn cs aF ccd cl outer A₀ base h₀ L m s loose mean mg mb Q E B F X N T hk hdp hu hret
  refine wpAny_call ?_
  k_dflt (refine' code_def (binds := [(Str.ofString "self", .ref p)]) ?k1 ?k2 ?k3 ?k4 ?k5 ?kA ?kF ?kK ?k6 ?k7 ?k8 ?k9 ?kB ?_ ?c2 ?c3 ?c4 ?c5; (case kA => exact rfl); (case kF => exact rfl); (case kK => assumption); (case k1 => exact B); (case k2 => exact F); (case k3 => exact X); (case k4 => exact N); (case k5 => exact T); (case k6 => k_is); (case k7 => k_is); (case k8 => ktr_room); (case k9 => first | exact BindsTo.of_eq rfl | exact binds_K (Frag.In.keeps X F.keep) rfl (by k_is) rfl rfl rfl); (case c5 => decide); (case kB => exact locs rfl); (case c2 => exact rfl); (case c3 => exact rfl); (case c4 => exact rfl); k_whole; intro g L₁ h₁ FG F₁ N₁ B₁ X₁ T₁; (try dsimp only); (try walk_at "m_fold"))
  replace F₁ : Fr g L₁ h₁ (fun y => List.lookup y [(Str.ofString "self", .ref p)]) := F₁
  replace N₁ := news_more (news_more (news_more (news_more (news_more N₁ h6) (.tail _ h11)) (.tail _ (.tail _ h10))) (.tail _ (.tail _ (.tail _ h3)))) (.tail _ (.tail _ (.tail _ (.tail _ h2))))
  k_steps
  unfold Stop
  rename Fr _ _ _ _ => Fa
  rename News _ _ _ _ => Na
  refine cut_RD (w := w) (zi := zi) Fa Na (fun Q' hq' => ?_) (fun r0 tl0 h0 tk0 F0 N0 hl0 ho0 => ?_)
  · have hcut9 : True := trivial
    (try walk_at "m_fold")
    rcases h9 with ⟨rfl, rfl⟩ | h9
    · k_steps
      exact hq' _ [] _ _ Fa Na (fun _ _ _ h => nomatch h) RD.none
    · (refine Mine.ex_11_3 (h9.obj) ?_; intro pa dxa cta ba boa ea fla kva enca kidsa innera eq11 hpa hda; subst eq11)
      replace Na := news_more (news_more Na (show (dxa, partD w.params cta ba boa ea fla kva enca kidsa innera) ∈ _ from by walk_at "m_mem9")) (show (pa, instObj 551 dxa) ∈ _ from by walk_at "m_mem9")
      k_steps
      exact hq' _ tl9 _ _ (by k_asm) (news_sub N9 (by walk_at "m_sub9")) (fun q hq => hl9 q (.tail _ (.tail _ hq))) ho9
  clear Fa Na h9
  (try simp only [List.cons_append] at N0)
  k_steps
  unfold Stop
  rename Fr _ _ _ _ => Fw
  rename News _ _ _ _ => Nw
  have hsub : ∀ q ∈ news, q ∈ news ++ tl0 := fun y hy => in_l hy
  refine iterG_list (ax := kl) (its := ys) (k := mk) (news := (p, instObj 551 dx) :: (dx, partD w.params ct b bo e fl (.ref k) enc (.ref kl) iv) :: (k, instObj 411 dxk) :: (dxk, dictOf [⟨PyData.keyHash w.params "top", .str "top" u1, .str kd.1 u4⟩, ⟨PyData.keyHash w.params "sub", .str "sub" u2, .str kd.2.1 u5⟩, ⟨PyData.keyHash w.params "params", .str "params" u3, .ref qz⟩] 3) :: (kl, listOf ys.toArray mk) :: ([] ++ (news ++ tl0))) rfl Fw Nw (by k_mem) (by rw [sizeLine_eq]; (first | lia | omega)) ?_
  intro hg
  clear Fw Nw
  refine comp_all (fun i us nw => ∃ tl, nw = (p, instObj 551 dx) :: (dx, partD w.params ct b bo e fl (.ref k) enc (.ref kl) iv) :: (k, instObj 411 dxk) :: (dxk, dictOf [⟨PyData.keyHash w.params "top", .str "top" u1, .str kd.1 u4⟩, ⟨PyData.keyHash w.params "sub", .str "sub" u2, .str kd.2.1 u5⟩, ⟨PyData.keyHash w.params "params", .str "params" u3, .ref qz⟩] 3) :: (kl, listOf ys.toArray mk) :: (tl ++ (news ++ tl0)) ∧ (∀ q ∈ news, ∀ y ∈ tl, q.1 ≠ y.1) ∧ Two (RD w tl) us (zs.take i)) ?_ ?_ _ 0 [] _ (Nat.zero_add _) ⟨[], rfl, (fun _ _ _ h => nomatch h), .nil⟩
  · rintro i v us nw I oI C oC D m₂ h tk E' hi hv ⟨tlk, rfl, hne, htwo⟩ hC hx F₂ N₂ off ne
    (try walk_at "m_fold")
    (refine Mine.ex_1_2 (h8.get hv) ?_; intro zk hzk hkid)
    replace hkid := hkid.up hsub
    (try walk_at "m_fold")
    (refine Mine.ex_11_3 (hkid.obj) ?_; intro pk dxp ctk bk bok ez flk kvk enck kidsk innerk eq11 hpk hdk; subst eq11)
    replace N₂ := news_more (news_more N₂ (show (dxp, partD w.params ctk bk bok ez flk kvk enck kidsk innerk) ∈ _ from by walk_at "m_mem9")) (show (pk, instObj 551 dxp) ∈ _ from by walk_at "m_mem9")
    k_steps
    rename News _ _ _ _ => Nx
    rename Fr _ _ _ _ => Fx
    exact told_turn Fx Nx off hl9 hsub hne hzk htwo ho9
  · rintro us nw ⟨tlk, rfl, hne, htwo⟩
    rw [List.take_of_length_le (by rw [h8.length]; exact Nat.le_refl _)] at htwo
    have hus : us.length ≤ 16777216 := by rw [htwo.length, ← h8.length]; exact h7
    k_steps
    refine told_end (tlx := tlk ++ (tl0 ++ tl8)) hret (by k_asm) (by k_asm) (by walk_at "m_sub9") (fun q hq => allLt_mem (al7 (show _ ∧ _ ∧ p < _ ∧ dx < _ ∧ k < _ ∧ dxk < _ ∧ kl < _ ∧ AllLt _ _ from by assumption)) q (by walk_at "m_mem9")) (fun q hq => allLt_mem (al6 (show _ ∧ p < _ ∧ dx < _ ∧ k < _ ∧ dxk < _ ∧ kl < _ ∧ AllLt _ _ from by assumption)) q (by walk_at "m_mem9")) (fun q hq => all_app (hne q hq) (all_app (hl0 q (by walk_at "m_mem9")) fun y h => Nat.ne_of_lt (hl8 q (by walk_at "m_mem9") y h))) ?_
    refine RD.tup (.head _) (.cons RD.int (.cons RD.int (.cons RD.int (.cons (ho8.mono (by walk_at "m_sub9")) (.cons RD.str (.cons (RD.tup (.tail _ (.head _)) (htwo.mono fun _ _ h => h.mono (by walk_at "m_sub9"))) (.cons (ho0.mono (by walk_at "m_sub9")) .nil)))))))
theorem told_ok (w : World) (n : Nat) : ∀ (v : Value) (z : PyData) (news : List (Addr × Obj)), PartIn w news n v z → CtrN w 548 (2 * n + 4) [v] news (fun tl r => RD w tl r z) := by
  induction n with
  | zero => exact fun _ _ _ h => h.elim
  | succ n ih =>
    intro v z news h
    (refine Mine.ex_16_10 (h) ?_; (try clear h); intro p dx ct b bo e fl k kd enc kl ys mk zs iv zi h1 h2 h3 h4 h5 h6 h7 h8 h9 h10)
    subst h1
    subst h10
    exact told_any w n ih p dx ct b bo e fl k kd enc kl ys mk zs iv zi news h2 h3 h4 h5 h6 h7 h8 h9

end
/-! E7a -/
section
open PyProof.Rows.LCt
open PyProof.V PySem.Spec PyProof.Rows.LCg PyProof.Rows.LCt
theorem reg_43 : True := by
  k_with "my m_sub" => (((fail_if_success (fail_if_success (have z9 := hsE7a))); ((intro q9ₘ hq9ₘ; first | exact hq9ₘ | (simp only [List.mem_cons, List.mem_append]; simp only [hq9ₘ, true_or, or_true]; done)))))
  trivial
theorem perm1 {α : Type} {T B X : List α} {p : α} (hp : p ∈ B ++ X) : p ∈ B ++ (T ++ X) := by
  rcases List.mem_append.mp hp with h | h
  · exact in_l h
  · exact in_r (in_r h)
theorem perm2 {α : Type} {t5 T B X : List α} {p : α} (hp : p ∈ B ++ ((t5 ++ T) ++ X)) : p ∈ t5 ++ (B ++ (T ++ X)) := by
  simp only [List.mem_append] at hp ⊢
  rcases hp with h | (h | h) | h <;> simp [h]
theorem perm3 {α : Type} {a b c : α} {t5 T B X : List α} {p : α} (hp : p ∈ a :: b :: c :: (B ++ ((t5 ++ T) ++ X))) : p ∈ a :: b :: c :: (t5 ++ (B ++ (T ++ X))) := by
  rcases List.mem_cons.mp hp with rfl | hp
  · exact .head _
  rcases List.mem_cons.mp hp with rfl | hp
  · exact .tail _ (.head _)
  rcases List.mem_cons.mp hp with rfl | hp
  · exact .tail _ (.tail _ (.head _))
  exact .tail _ (.tail _ (.tail _ (perm2 hp)))
section
variable {prog : Program} {w : World} {A : Around} {s : Shared} {h₀ : Heap} {L : Addr} {m : Str → Option Value} {env : Env}
/-- how a turn over pairs ends: new objects on top -/
noncomputable def TurnP (h₀ : Heap) (L : Addr) (m : Str → Option Value) (s₁ : Shared) (I : Addr) (oI : Obj) (C : Addr) (oC : Obj) (D : Addr) (oD : Obj) (base : List (Addr × Obj)) (R : List (Addr × Obj) → Value → Prop) (y : Value) (s₂ : Shared) : Prop :=
  ∃ h' tk tl5 all, s₂ = { s₁ with heap := h', toks := tk } ∧ Fr h₀ L h' m ∧ News h₀ L h' all ∧ (∀ p ∈ (I, oI) :: (C, oC) :: (D, oD) :: (tl5 ++ base), p ∈ all) ∧ (∀ q ∈ (I, oI) :: (C, oC) :: (D, oD) :: base, ∀ p ∈ tl5, q.1 ≠ p.1) ∧ R tl5 y
theorem TurnP.intro {s₁ : Shared} {I C D : Addr} {oI oC oD : Obj} {base tl5 all : List (Addr × Obj)} {R : List (Addr × Obj) → Value → Prop} {y : Value} {h' : Heap} {tk : Nat} (F : Fr h₀ L h' m) (N : News h₀ L h' all) (sub : ∀ p ∈ (I, oI) :: (C, oC) :: (D, oD) :: (tl5 ++ base), p ∈ all)
    (hl : ∀ q ∈ (I, oI) :: (C, oC) :: (D, oD) :: base, ∀ p ∈ tl5, q.1 ≠ p.1) (r : R tl5 y) : TurnP h₀ L m s₁ I oI C oC D oD base R y { s₁ with heap := h', toks := tk } := ⟨h', tk, tl5, all, rfl, F, N, sub, hl, r⟩
theorem kids_compG {elt : Expr} {x x₂ : Str} {scope : Scope} {cl : List (Str × Addr)} {Fin : Shared → List Value → List (Addr × Obj) → Prop} {ax : Addr} {ys : List Value} {n : Nat} {BB X : List (Addr × Obj)} {zs : List (Nat × Nat)} {m8 : Nat} {tr : Nat × Nat → PyData}
    (hB : (ax, listOf ys.toArray n) ∈ BB) (hh : A.handled = none) (F : Fr h₀ L s.heap m) (N : News h₀ L s.heap (BB ++ X)) (hsz : ys.length ≤ 16777216) (two : Two (PairIn X) ys zs)
    (turn : ∀ xa xb t1 t2 us tl I oI C oC D m₂ h tk (E' : Value → Shared → Prop), (xa, xb) ∈ zs → NsObj oC m₂ → m₂ x = some (.int (xa : Nat) t1) → m₂ x₂ = some (.int (xb : Nat) t2) → Fr h₀ L h m → News h₀ L h ((I, oI) :: (C, oC) :: (D, lst us) :: BB ++ (tl ++ X)) → Off3 I C D (BB ++ (tl ++ X)) → ((@Ne Nat I C) ∧ (@Ne Nat I D) ∧ (@Ne Nat C D)) →
      wpAny (model prog w) A (eval elt (compEnvC scope cl C env)) (TurnP h₀ L m { s with heap := h, toks := tk } I oI C oC D (lst us) (BB ++ (tl ++ X)) (fun tl5 r => PartIn w tl5 m8 r (tr (xa, xb)))) E' { s with heap := h, toks := tk })
    (fin : ∀ g us tl, us.length ≤ 16777216 → (∀ q ∈ BB ++ X, ∀ y ∈ tl, q.1 ≠ y.1) → Two (PartIn w tl m8) us (zs.map tr) → Fin { s with heap := g } us (BB ++ (tl ++ X))) :
    LCp.SrcLP prog w A h₀ L m env elt x x₂ scope cl Fin (.ref ax) s := by
  refine LCp.SrcLP.ledger (its := ys.toArray) (k := n) hh F (news := BB ++ ([] ++ X)) N (in_l hB) (by rw [List.size_toArray, sizeLine_eq]; (first | lia | omega)) ?_
  intro g
  rw [List.size_toArray]
  have key : ∀ (k i : Nat) (us : List Value) (tl : List (Addr × Obj)), i + k = ys.length → us.length = i → (∀ q ∈ BB ++ X, ∀ y ∈ tl, q.1 ≠ y.1) → Two (PartIn w tl m8) us ((zs.map tr).take i) →
      LCp.CompRestP prog w A h₀ L m env elt x x₂ scope cl { s with heap := g } (LCg.SrcAt h₀ ax ys.toArray) (fun i v => ys.toArray[i]? = some v) (Fin { s with heap := g }) k i us (BB ++ (tl ++ X)) := by
    intro k
    induction k with
    | zero =>
      intro i us tl hi hu hne htwo
      have hl := two.length
      rw [List.take_of_length_le (by rw [List.length_map]; (first | lia | omega))] at htwo
      exact fin g us tl (by (first | lia | omega)) hne htwo
    | succ k ih =>
      intro i us tl hi hu hne htwo
      refine LCp.CompRestP.succ ?_
      intro v hv
      rw [List.getElem?_toArray] at hv
      obtain ⟨⟨xa, xb⟩, hx, pt, t1, t2, rfl, hpt⟩ := two.get hv
      refine ⟨pt, tup [.int (xa : Int) t1, .int (xb : Int) t2], .int (xa : Int) t1, .int (xb : Int) t2, 0, rfl, in_r (in_r hpt), rfl, rfl, ?_⟩
      intro I oI C oC D m₂ h tk E' hC h1 h2 F₂ N₂ off ne
      refine wpAny_mono (turn xa xb t1 t2 us tl I oI C oC D m₂ h tk E' (List.mem_of_getElem? hx) hC h1 h2 F₂ N₂ off ne) (fun y s₂ hq => ?_) fun _ _ e => e
      (refine Mine.ex_4_6 (hq) ?_; (try clear hq); intro h' tk' tl5 all eq4 F' N' sub hl hr; subst eq4)
      have off0 := off.mem
      refine CompEnd.intro F' N' (BB ++ ((tl5 ++ tl) ++ X)) (fun p hp => sub p (perm3 hp)) (Off3.of fun p hp => ?_) ?_ (ih (i + 1) _ (tl5 ++ tl) (by (first | lia | omega)) (by rw [List.length_append, List.length_singleton, hu]) (fun q hq => all_app (hl q (.tail _ (.tail _ (.tail _ (perm1 hq))))) (hne q hq)) ?_)
      · rcases List.mem_append.mp (perm2 hp) with h | h
        · exact ⟨(hl (I, oI) (.head _) p h).symm, (hl (C, oC) (.tail _ (.head _)) p h).symm, (hl (D, lst us) (.tail _ (.tail _ (.head _))) p h).symm⟩
        · exact off0 p h
      · exact .inr ⟨_, in_l hB, rfl, _, rfl⟩
      · rw [List.take_add_one, List.getElem?_map, hx]
        exact (htwo.mono fun _ _ h => h.up fun p hp => List.mem_append_right _ hp).snoc (hr.up fun p hp => List.mem_append_left _ hp)
  exact key ys.length 0 [] [] (Nat.zero_add _) rfl (fun _ _ _ h => nomatch h) .nil
theorem kids_comp {elt : Expr} {x x₂ : Str} {scope : Scope} {cl : List (Str × Addr)} {Fin : Shared → List Value → List (Addr × Obj) → Prop} {ax : Addr} {ys : List Value} {n : Nat} {X : List (Addr × Obj)} {b1 b2 b3 b4 b5 b6 b7 b8 b9 b10 : Addr × Obj} {zs : List (Nat × Nat)} {m8 : Nat} {tr : Nat × Nat → PyData}
    (hh : A.handled = none) (F : Fr h₀ L s.heap m) (N : News h₀ L s.heap ((ax, listOf ys.toArray n) :: b1 :: b2 :: b3 :: b4 :: b5 :: b6 :: b7 :: b8 :: b9 :: b10 :: X)) (hsz : ys.length ≤ 16777216) (two : Two (PairIn X) ys zs)
    (turn : ∀ xa xb t1 t2 us tl I oI C oC D m₂ h tk (E' : Value → Shared → Prop), (xa, xb) ∈ zs → NsObj oC m₂ → m₂ x = some (.int (xa : Nat) t1) → m₂ x₂ = some (.int (xb : Nat) t2) → Fr h₀ L h m → News h₀ L h ((I, oI) :: (C, oC) :: (D, lst us) :: (ax, listOf ys.toArray n) :: b1 :: b2 :: b3 :: b4 :: b5 :: b6 :: b7 :: b8 :: b9 :: b10 :: (tl ++ X)) → Off3 I C D ((ax, listOf ys.toArray n) :: b1 :: b2 :: b3 :: b4 :: b5 :: b6 :: b7 :: b8 :: b9 :: b10 :: (tl ++ X)) → ((@Ne Nat I C) ∧ (@Ne Nat I D) ∧ (@Ne Nat C D)) →
      wpAny (model prog w) A (eval elt (compEnvC scope cl C env)) (TurnP h₀ L m { s with heap := h, toks := tk } I oI C oC D (lst us) ((ax, listOf ys.toArray n) :: b1 :: b2 :: b3 :: b4 :: b5 :: b6 :: b7 :: b8 :: b9 :: b10 :: (tl ++ X)) (fun tl5 r => PartIn w tl5 m8 r (tr (xa, xb)))) E' { s with heap := h, toks := tk })
    (fin : ∀ g us tl, us.length ≤ 16777216 → (∀ q ∈ (ax, listOf ys.toArray n) :: b1 :: b2 :: b3 :: b4 :: b5 :: b6 :: b7 :: b8 :: b9 :: b10 :: X, ∀ y ∈ tl, q.1 ≠ y.1) → Two (PartIn w tl m8) us (zs.map tr) → Fin { s with heap := g } us ((ax, listOf ys.toArray n) :: b1 :: b2 :: b3 :: b4 :: b5 :: b6 :: b7 :: b8 :: b9 :: b10 :: (tl ++ X))) :
    LCp.SrcLP prog w A h₀ L m env elt x x₂ scope cl Fin (.ref ax) s := by
  exact kids_compG (BB := [(ax, listOf ys.toArray n), b1, b2, b3, b4, b5, b6, b7, b8, b9, b10]) (.head _) hh F N hsz two turn fin
end

end
/-! E7 -/
section
open PyProof.V PySem.Spec PyProof.Rows.LCg PyProof.Rows.LCt
theorem news_nil {h₀ h : Heap} {L : Addr} {l : List (Addr × Obj)} (N : News h₀ L h ([] ++ l)) : News h₀ L h l := N
theorem off_ap9 {l r : List (Addr × Obj)} {D : Addr} (h1 : ∀ y ∈ l, y.1 ≠ D) (h2 : ∀ y ∈ r, y.1 ≠ D) : ∀ y ∈ l ++ r, y.1 ≠ D := fun y hy => (List.mem_append.mp hy).elim (h1 y) (h2 y)
theorem offc_mk {L₁ : Addr} {news tl1 tl2 : List (Addr × Obj)} (l1 : ∀ p ∈ news, p.1 < L₁) (h1 : ∀ p ∈ tl1, @Ne Nat (L₁ + 1 + 1 + 1) p.1) (h2 : ∀ p ∈ tl2, @LT.lt Nat _ (L₁ + 1 + 1 + 1) p.1) : ∀ y ∈ news ++ tl1 ++ tl2, y.1 ≠ L₁ + 1 + 1 + 1 := fun y hy => by
  rcases List.mem_append.mp hy with h | h
  · rcases List.mem_append.mp h with h | h
    · have h3 : @LT.lt Nat _ y.1 L₁ := l1 y h
      exact Nat.ne_of_lt (Nat.lt_succ_of_lt (Nat.lt_succ_of_lt (Nat.lt_succ_of_lt h3)))
    · exact (h1 y h).symm
  · exact (Nat.ne_of_lt (h2 y h)).symm
theorem reg_44 : True := by
  k_with "my call ref" => (((fail_if_success (fail_if_success (have z9 := hsE7))); ((k_here; (with_reducible show wpAny _ _ (call (Value.ref 201) _) _ _ _); (try walk_at "m_fold"); k_dflt (refine' CtrN.useS ?k0ₘ ?k1ₘ ?k2ₘ ?k3ₘ ?k4ₘ ?k5ₘ ?kKₘ ?kdₘ ?kuₘ ?_; (case k1ₘ => k_asm); (case k2ₘ => k_asm); (case k3ₘ => k_asm); (case k4ₘ => k_asm); (case k5ₘ => k_asm); (case k0ₘ => exact (hrf _ _ _ _)); (case kKₘ => first | exact rfl | assumption); (case kdₘ => ktr_room); (case kuₘ => ktr_units); k_whole); intro r1 tl1 h1 tk1 F9 N9 hl1 ho1; (refine Mine.ex_5_4 (ho1) ?_; (try clear ho1); intro p1 D1 ys1 n1 t1 e9 hp1 hD1 two1); subst e9; replace N9 := news_more (news_more (Mine.news_comm N9) (List.mem_append_right _ hD1)) (.tail _ (List.mem_append_right _ hp1)); (try simp only [List.cons_append] at N9); (have n1D : @Ne Nat (L₁ + 1 + 1 + 1) D1 := hl1 _ (.head _) _ hD1); (have n1p : @Ne Nat (L₁ + 1 + 1 + 1) p1 := hl1 _ (.head _) _ hp1); (try k_unfold); (try dsimp only); (try walk_at "m_fold")))))
  k_with "my call ref" => (((fail_if_success (fail_if_success (have z9 := hsE7))); ((k_here; (with_reducible show wpAny _ _ (call (Value.ref 222) _) _ _ _); (try walk_at "m_fold"); k_dflt (refine' CtrA.useS ?k0ₘ ?k1ₘ ?k2ₘ ?k3ₘ ?k4ₘ ?k5ₘ ?kKₘ ?kdₘ ?kuₘ ?_; (case k1ₘ => k_asm); (case k2ₘ => k_asm); (case k3ₘ => k_asm); (case k4ₘ => k_asm); (case k5ₘ => k_asm); (case k0ₘ => exact (hfb _ _ _ _ _ (by k_mem) (flds_mono (by assumption) (by walk_at "m_sub9")))); (case kKₘ => first | exact rfl | assumption); (case kdₘ => ktr_room); (case kuₘ => ktr_units); k_whole); intro vk tl7 h7 tk7 F7 N7 hl7 ho7; (refine Mine.ex_0_2 (ho7) ?_; (try clear ho7); intro e9 hvk); subst e9; replace N7 := Mine.news_nil N7; (try k_unfold); (try dsimp only); (try walk_at "m_fold")))))
  k_with "my call ref" => (((fail_if_success (fail_if_success (have z9 := hsE7))); ((k_here; (with_reducible show wpAny _ _ (call (Value.ref 528) _) _ _ _); (try walk_at "m_fold"); k_dflt (refine' CtrA.useS ?k0ₘ ?k1ₘ ?k2ₘ ?k3ₘ ?k4ₘ ?k5ₘ ?kKₘ ?kdₘ ?kuₘ ?_; (case k1ₘ => k_asm); (case k2ₘ => k_asm); (case k3ₘ => k_asm); (case k4ₘ => k_asm); (case k5ₘ => k_asm); (case k0ₘ => first | exact (hrk _ _) | exact (hrk _)); (case kKₘ => first | exact rfl | assumption); (case kdₘ => ktr_room); (case kuₘ => ktr_units); k_whole); intro r2 tl2 h2 tk2 F9 N9 hl2 ho2; (try k_unfold); (try dsimp only); (try walk_at "m_fold")))))
  k_with "my call ref" => (((fail_if_success (fail_if_success (have z9 := hsE7))); ((k_here; (with_reducible show wpAny _ _ (call (Value.ref 551) _) _ _ _); (try walk_at "m_fold"); k_dflt (refine' CtrA.useS ?k0ₘ ?k1ₘ ?k2ₘ ?k3ₘ ?k4ₘ ?k5ₘ ?kKₘ ?kdₘ ?kuₘ ?_; (case k1ₘ => k_asm); (case k2ₘ => k_asm); (case k3ₘ => k_asm); (case k4ₘ => k_asm); (case k5ₘ => k_asm); (case k0ₘ => exact (part_ok _ _ _ _ _ _ _ _ _ _ _ _ _ (by k_mem) (flds_mono (by assumption) (by walk_at "m_sub9")) (by assumption))); (case kKₘ => first | exact rfl | assumption); (case kdₘ => ktr_room); (case kuₘ => ktr_units); k_whole); intro r3 tl3 h3 tk3 F9 N9 hl3 ho3; (refine Mine.ex_5_5 (ho3) ?_; (try clear ho3); intro p3 dx3 l3 m3 ct3 e8 e9 lt1 lt2 lt3); subst e8; subst e9; (try simp only [List.cons_append, List.nil_append] at N9); (have la3 : AllLt dx3 _ := allLt_of (fun q hq => hl3 q hq _ (.tail _ (.tail _ (.head _))))); (have offd : ∀ y ∈ news ++ tl1 ++ tl2, y.1 ≠ dx3 := fun y hy => Nat.ne_of_lt (allLt_mem la3 y (by walk_at "m_mem9"))); (try simp only [AllLt, and_true] at la3); (try k_unfold); (try dsimp only); (try walk_at "m_fold")))))
  k_with "my call ref" => (((fail_if_success (fail_if_success (have z9 := hsE7))); ((k_here; (with_reducible show wpAny _ _ (call (Value.ref 394) _) _ _ _); (try walk_at "m_fold"); k_dflt (refine' CtrV1.useS ?k0ₘ ?k1ₘ ?k2ₘ ?k3ₘ ?k4ₘ ?k5ₘ ?kKₘ ?kdₘ ?kuₘ ?_; (case k1ₘ => k_asm); (case k2ₘ => k_asm); (case k3ₘ => k_asm); (case k4ₘ => k_asm); (case k5ₘ => k_asm); (case k0ₘ => exact (is_multi_ok _ _ _ _ (KindIn.mono (by assumption) (by walk_at "m_sub9")))); (case kKₘ => first | exact rfl | assumption); (case kdₘ => ktr_room); (case kuₘ => ktr_units); k_whole); intro _ _ _ _ _; (try k_unfold); (try dsimp only); (try walk_at "m_fold")))))
  k_with "my call ref" => (((fail_if_success (fail_if_success (have z9 := hsE7))); ((k_here; (with_reducible show wpAny _ _ (call (Value.ref 586) _) _ _ _); (try walk_at "m_fold"); k_dflt (refine' CtrV1.useS ?k0ₘ ?k1ₘ ?k2ₘ ?k3ₘ ?k4ₘ ?k5ₘ ?kKₘ ?kdₘ ?kuₘ ?_; (case k1ₘ => k_asm); (case k2ₘ => k_asm); (case k3ₘ => k_asm); (case k4ₘ => k_asm); (case k5ₘ => k_asm); (case k0ₘ => exact (is_open_ok _ _ _ _ _ _ _ _ _ _ _ _ _ _ (by k_mem) (by k_mem) (KindIn.mono (by assumption) (by walk_at "m_sub9")))); (case kKₘ => first | exact rfl | assumption); (case kdₘ => ktr_room); (case kuₘ => ktr_units); k_whole); intro _ _ _ _ _; (try k_unfold); (try dsimp only); (try walk_at "m_fold")))))
  k_with "my call ref" => (((fail_if_success (fail_if_success (have z9 := hsE7))); ((k_here; (with_reducible show wpAny _ _ (call (Value.ref 579) _) _ _ _); (try walk_at "m_fold"); k_dflt (refine' CtrA.useS ?k0ₘ ?k1ₘ ?k2ₘ ?k3ₘ ?k4ₘ ?k5ₘ ?kKₘ ?kdₘ ?kuₘ ?_; (case k1ₘ => k_asm); (case k2ₘ => k_asm); (case k3ₘ => k_asm); (case k4ₘ => k_asm); (case k5ₘ => k_asm); (case k0ₘ => exact (hks _ _ _ _ _ _ _ _ _ _ (by k_mem) (by k_mem) (KindIn.mono (by assumption) (by walk_at "m_sub9")) (by assumption))); (case kKₘ => first | exact rfl | assumption); (case kdₘ => ktr_room); (case kuₘ => ktr_units); k_whole); intro r4 tl4 h4 tk4 F9 N9 hl4 ho4; (refine Mine.ex_3_3 (ho4) ?_; (try clear ho4); intro D4 ys4 n4 e9 hD4 two4); subst e9; replace N9 := news_more (Mine.news_comm N9) (List.mem_append_right _ hD4); (have n4D : @LT.lt Nat _ dx3 D4 := hl4 _ (.tail _ (.tail _ (.head _))) _ hD4); (try simp only [List.cons_append] at N9); (try k_unfold); (try dsimp only); (try walk_at "m_fold")))))
  k_with "my call ref" => (((fail_if_success (fail_if_success (have z9 := hsE7))); ((k_here; (with_reducible show wpAny _ _ (call (Value.ref 591) _) _ _ _); (try walk_at "m_fold"); k_dflt (refine' CtrN.useS ?k0ₘ ?k1ₘ ?k2ₘ ?k3ₘ ?k4ₘ ?k5ₘ ?kKₘ ?kdₘ ?kuₘ ?_; (case k1ₘ => k_asm); (case k2ₘ => k_asm); (case k3ₘ => k_asm); (case k4ₘ => k_asm); (case k5ₘ => k_asm); (case k0ₘ => first | exact (hin (by assumption) (by assumption) _ _ _ _ _) | exact (hkid (by assumption) _ (by assumption) _ _ _ _ _)); (case kKₘ => first | exact rfl | assumption); (case kdₘ => ktr_room); (case kuₘ => ktr_units); k_whole); intro r5 tl5 h5 tk5 F9 N9 hl5 ho5; replace N9 := Mine.news_comm N9; (try simp only [List.cons_append] at N9); (try k_unfold); (try dsimp only); (try walk_at "m_fold")))))
  k_with "my eval ListComp" => (((fail_if_success (fail_if_success (have z9 := hsE7))); ((k_here; k_dflt (refine LCp.ListComp_P (F₀ := by k_asm) (by with_unfolding_all rfl) (by decide) (by rfl) (by decide) (by rfl) (by rfl) (by decide) ?_); k_whole))))
  k_with "my eval IfExp" => (((fail_if_success (fail_if_success (have z9 := hsE7))); (((fail_if_success (have zz9ₘ := hcut9)); refine Mine.stop_here ?_))))
  k_with "my exec Assign cons ListComp" => (((fail_if_success (fail_if_success (have z9 := hsE7))); (walk_at "exec Assign")))
  k_with "my setAttr" => (((fail_if_success (fail_if_success (have z9 := hsE7))); (((fail_if_success (fail_if_success (have zz9ₘ := hset9))); refine Mine.stop_here ?_))))
  k_with "my setAttr ref" => (((fail_if_success (fail_if_success (have z9 := hsE7))); (((fail_if_success (fail_if_success (have zz9ₘ := hset9))); refine Mine.stop_here ?_))))
  k_with "my SrcLP" => (((fail_if_success (fail_if_success (have z9 := hsE7))); (((fail_if_success (fail_if_success (have zz9ₘ := hset9))); refine Mine.stop_here ?_))))
  k_with "my call ref" => (((fail_if_success (fail_if_success (have z9 := hsE7))); ((k_here; (with_reducible show wpAny _ _ (call (Value.ref 411) _) _ _ _); (try walk_at "m_fold"); k_dflt (refine' CtrA.useS ?k0ₘ ?k1ₘ ?k2ₘ ?k3ₘ ?k4ₘ ?k5ₘ ?kKₘ ?kdₘ ?kuₘ ?_; (case k1ₘ => k_asm); (case k2ₘ => k_asm); (case k3ₘ => k_asm); (case k4ₘ => k_asm); (case k5ₘ => k_asm); (case k0ₘ => exact (kind_ok _ _ _ _ _)); (case kKₘ => first | exact rfl | assumption); (case kdₘ => ktr_room); (case kuₘ => ktr_units); k_whole); intro r6 tl6 h6 tk6 F9 N9 hl6 ho6; (refine Mine.ex_5_2 (ho6) ?_; (try clear ho6); intro k2 dx2 u1 u2 u3 e8 e9); subst e8; subst e9; (try simp only [List.cons_append, List.nil_append] at N9); (try k_unfold); (try dsimp only); (try walk_at "m_fold")))))
  trivial
noncomputable def treeOut (a bo e : Nat) (kd : KD) (fs : List FieldD) (kids : List PyData) (inner : PyData) : PyData := .tuple [.int (a : Int), .int (bo : Int), .int (e : Int), kindD kd, .str (txt (encOf fs)), .tuple kids, inner]
noncomputable def openB (kd : KD) (fs : List FieldD) : Bool := (kd.1 == Str.ofString "message" && kd.2.1 == Str.ofString "rfc822") && (Str.ofString "7bit" == txt (encOf fs) || (Str.ofString "8bit" == txt (encOf fs) || Str.ofString "binary" == txt (encOf fs)))
theorem read_end {w : World} {h₀ h' : Heap} {L : Addr} {m : Str → Option Value} {news all tlx : List (Addr × Obj)} {s : Shared} {Q : Value → Shared → Prop} {tk' : Tok} {a bo e : Nat} {kd : KD} {fs : List FieldD} {kids : List PyData} {inner : PyData} {p3 dx3 k2 kl : Addr} {ct3 : PTk} {fl iv : Value} {ys : List Value} {mk m8 : Nat}
    (hret : ∀ r tl h' tk', Fr h₀ L h' m → News h₀ L h' (tl ++ news) → (∀ q ∈ news, ∀ p ∈ tl, q.1 ≠ p.1) → PartIn w tl (m8 + 1) r (treeOut a bo e kd fs kids inner) → Q r { s with heap := h', toks := tk' })
    (F : Fr h₀ L h' m) (N : News h₀ L h' all) (m1 : (kl, listOf ys.toArray mk) ∈ all) (m2 : (p3, instObj 551 dx3) ∈ all) (m3 : (dx3, partD w.params ct3 a bo e fl (.ref k2) (txt (encOf fs)) (.ref kl) iv) ∈ all) (m4 : ∀ p ∈ tlx, p ∈ all) (m5 : ∀ p ∈ news, p ∈ all)
    (n1 : ∀ q ∈ news, q.1 ≠ kl) (n2 : ∀ q ∈ news, q.1 ≠ p3) (n3 : ∀ q ∈ news, q.1 ≠ dx3) (n4 : ∀ q ∈ news, ∀ y ∈ tlx, q.1 ≠ y.1) (hk : KindIn w tlx k2 kd) (ho : OneP kd) (hy : ys.length ≤ 16777216) (two : Two (PartIn w tlx m8) ys kids) (hin : (iv = .none ∧ inner = .none) ∨ PartIn w tlx m8 iv inner) :
    Q (.ref p3) { s with heap := h', toks := tk' } := by
  have sub : ∀ p ∈ tlx, p ∈ (kl, listOf ys.toArray mk) :: (p3, instObj 551 dx3) :: (dx3, partD w.params ct3 a bo e fl (.ref k2) (txt (encOf fs)) (.ref kl) iv) :: tlx := fun p hp => .tail _ (.tail _ (.tail _ hp))
  refine hret _ ((kl, listOf ys.toArray mk) :: (p3, instObj 551 dx3) :: (dx3, partD w.params ct3 a bo e fl (.ref k2) (txt (encOf fs)) (.ref kl) iv) :: tlx) _ _ F (fun p hp => ?_) (fun q hq y hy => ?_)
    ⟨p3, dx3, ct3, a, bo, e, fl, k2, kd, txt (encOf fs), kl, ys, mk, kids, iv, inner, rfl, .tail _ (.head _), .tail _ (.tail _ (.head _)), hk.mono sub, ho, .head _, hy, two.mono fun _ _ h => h.up sub, hin.imp id fun h => h.up sub, rfl⟩
  · simp only [List.cons_append, List.mem_cons, List.mem_append] at hp
    rcases hp with rfl | rfl | rfl | h | h
    · exact N _ m1
    · exact N _ m2
    · exact N _ m3
    · exact N _ (m4 _ h)
    · exact N _ (m5 _ h)
  · simp only [List.mem_cons] at hy
    rcases hy with rfl | rfl | rfl | h
    · exact n1 q hq
    · exact n2 q hq
    · exact n3 q hq
    · exact n4 q hq y h
theorem dig_pack {prog : Program} {w : World} {h₀ h' : Heap} {L k2 dx2 q : Addr} {o : Obj} {R : List (Addr × Obj)} {kd : KD} {u1 u2 u3 u4 u5 : Tok} {kvs : List (Str × Value)} (hkd : kd.2.2 = [])
    (N : News h₀ L h' ((k2, instObj 411 dx2) :: (dx2, dictOf [⟨PyData.keyHash w.params "top", .str "top" u1, .str kd.1 u4⟩, ⟨PyData.keyHash w.params "sub", .str "sub" u2, .str kd.2.1 u5⟩, ⟨PyData.keyHash w.params "params", .str "params" u3, .ref q⟩] 3) :: (q, o) :: R))
    (hl : ∀ x ∈ (q, o) :: R, ∀ y ∈ [(k2, instObj 411 dx2), (dx2, dictOf [⟨PyData.keyHash w.params "top", .str "top" u1, .str kd.1 u4⟩, ⟨PyData.keyHash w.params "sub", .str "sub" u2, .str kd.2.1 u5⟩, ⟨PyData.keyHash w.params "params", .str "params" u3, .ref q⟩] 3)], x.1 < y.1)
    (l1 : AllLt q R) (hq : (q == sysModules) = false) (hs : o.IsDictOf (PySem.strKind prog w) kvs) (hfl : FlatPairs PyData.str kvs []) :
    ∃ tl2, News h₀ L h' ((k2, instObj 411 dx2) :: (dx2, dictOf [⟨PyData.keyHash w.params "top", .str "top" u1, .str kd.1 u4⟩, ⟨PyData.keyHash w.params "sub", .str "sub" u2, .str kd.2.1 u5⟩, ⟨PyData.keyHash w.params "params", .str "params" u3, .ref q⟩] 3) :: (R ++ tl2)) ∧ KindIn w tl2 k2 kd ∧ (k2, instObj 411 dx2) ∈ tl2 ∧
      (dx2, dictOf [⟨PyData.keyHash w.params "top", .str "top" u1, .str kd.1 u4⟩, ⟨PyData.keyHash w.params "sub", .str "sub" u2, .str kd.2.1 u5⟩, ⟨PyData.keyHash w.params "params", .str "params" u3, .ref q⟩] 3) ∈ tl2 ∧ ∀ x ∈ R, ∀ y ∈ tl2, x.1 < y.1 := by
  refine ⟨[(k2, instObj 411 dx2), (dx2, dictOf [⟨PyData.keyHash w.params "top", .str "top" u1, .str kd.1 u4⟩, ⟨PyData.keyHash w.params "sub", .str "sub" u2, .str kd.2.1 u5⟩, ⟨PyData.keyHash w.params "params", .str "params" u3, .ref q⟩] 3), (q, o)], news_sub N fun p hp => ?_,
    ⟨dx2, q, o, u1, u2, u3, u4, u5, .head _, .tail _ (.head _), .tail _ (.tail _ (.head _)), hq, ?_⟩, .head _, .tail _ (.head _), fun x hx y hy => ?_⟩
  · simp only [List.mem_cons, List.mem_append, List.not_mem_nil, or_false] at hp ⊢
    rcases hp with h | h | h | h | h | h <;> simp [h]
  · rw [hkd]; exact PMap.of hs hfl
  · simp only [List.mem_cons, List.not_mem_nil, or_false] at hy
    rcases hy with h | h | h
    · exact hl x (.tail _ hx) y (by simp [h])
    · exact hl x (.tail _ hx) y (by simp [h])
    · rw [h]; exact allLt_mem l1 x hx
/-- what the head tells of the kind -/
noncomputable def KindV (w : World) (kd : KD) (dig : Bool) (v : Value) : Prop :=
  (∃ l t, v = .bytes (List.toArray l) t ∧ ∀ u news, CtrA w 528 9 [.bytes (List.toArray l) u] news (KindOut w kd)) ∨ (v = .none ∧ dig = false ∧ ∀ news, CtrA w 528 9 [.none] news (KindOut w kd)) ∨ (v = .none ∧ dig = true ∧ kd = (Str.ofString "message", Str.ofString "rfc822", []))
/-- a cut: an expression that makes the kind -/
theorem cut_kind {M : Model} {A : Around} {c : Sem Value} {w : World} {h₀ h : Heap} {L : Addr} {m : Str → Option Value} {all : List (Addr × Obj)} {s : Shared} {k : Tok} {kd : KD} {Q E : Value → Shared → Prop} (F : Fr h₀ L h m) (N : News h₀ L h all)
    (hc : ∀ Q' : Value → Shared → Prop, (∀ k2 tl h' tk, Fr h₀ L h' m → News h₀ L h' (tl ++ all) → (∀ q ∈ all, ∀ p ∈ tl, @LT.lt Nat _ q.1 p.1) → KindIn w tl k2 kd → Q' (.ref k2) ⟨h', s.gens, s.drawn, tk, s.os⟩) → wpAny M A c Q' E ⟨h, s.gens, s.drawn, k, s.os⟩)
    (key : ∀ k2 tl h' tk, Fr h₀ L h' m → News h₀ L h' (tl ++ all) → (∀ q ∈ all, ∀ p ∈ tl, @LT.lt Nat _ q.1 p.1) → KindIn w tl k2 kd → Q (.ref k2) ⟨h', s.gens, s.drawn, tk, s.os⟩) : wpAny M A c Q E ⟨h, s.gens, s.drawn, k, s.os⟩ := hc Q key
set_option maxHeartbeats 2000000 in
theorem part_any (w : World) (d : List UInt8) (t : Tok) (a : Nat) (ta : Tok) (e : Nat) (te : Tok) (dz : Int) (td : Tok) (dig : Bool) (bo : Nat) (fs : List FieldD) (kd : KD) (m9 m8 : Nat) (zs : List (Nat × Nat)) (tr : Nat × Nat → PyData) (tri : PyData) (news : List (Addr × Obj))
    (hz : d.length ≤ 16777216) (hbe : bo ≤ e) (he : e ≤ d.length) (hf : ∀ x ∈ fs, FOk x) (hzs : zs.length ≤ 16777216) (ho : OneP kd)
    (hfb : ∀ D ys n t news, (D, listOf (List.toArray ys) n) ∈ news → Two (FldRef w.params news) ys fs → CtrA w 222 5 [.ref D, .str (Str.ofString "content-type") t] news (fun tl v => tl = [] ∧ KindV w kd dig v))
    (hrf : ∀ t ta te news, CtrN w 201 6 [.bytes d.toArray t, .int a ta, .int e te] news (FieldsOut w.params fs bo))
    (hks : ∀ p dx ct fl k enc kids inner news t, (p, instObj 551 dx) ∈ news → (dx, partD w.params ct a bo e fl (.ref k) enc kids inner) ∈ news → KindIn w news k kd → (kd.1 == Str.ofString "multipart") = true → CtrA w 579 10 [.bytes d.toArray t, .ref p] news (PairsOut zs))
    (hkid : dz < 20 → ∀ x ∈ zs, ∀ t t1 t2 t3 news, CtrN w 591 (2 * m9 + 14) [.bytes d.toArray t, .int (x.1 : Int) t1, .int (x.2 : Int) t2, .int (dz + 1) t3, .bool (kd.2.1 == "digest")] news (fun tl v => PartIn w tl m8 v (tr x)))
    (hin : dz < 20 → openB kd fs = true → ∀ t t1 t2 t3 news, CtrN w 591 (2 * m9 + 14) [.bytes d.toArray t, .int (bo : Int) t1, .int (e : Int) t2, .int (dz + 1) t3, .bool false] news (fun tl v => PartIn w tl m8 v tri)) :
   CtrN w 591 (2 * m9 + 16) [.bytes d.toArray t, .int a ta, .int e te, .int dz td, .bool dig] news (fun tl v => PartIn w tl (m8 + 1) v (treeOut a bo e kd fs (if dz < 20 ∧ (kd.1 == Str.ofString "multipart") = true then zs.map tr else []) (if dz < 20 ∧ (kd.1 == Str.ofString "multipart") = false ∧ openB kd fs = true then tri else .none))) := by
  have hsE7 : True := trivial
  unfold CtrN
  intro prog dp un gd cn cs aF ccd cl outer A₀ base h₀ L m s loose mean mg mb Q E B F X N T hk hdp hu hret
  refine wpAny_call ?_
  k_dflt (refine' code_defC (binds := [(Str.ofString "data", .bytes d.toArray t), (Str.ofString "begin", .int a ta), (Str.ofString "end", .int e te), (Str.ofString "depth", .int dz td), (Str.ofString "is_digest", .bool dig)]) ?k1 ?k2 ?k3 ?k4 ?k5 ?kA ?kF ?kK ?k6 ?k7 ?k8 ?k9 ?kB ?kD ?_ ?c2 ?c3 ?c4; (case kA => exact rfl); (case kF => exact rfl); (case kK => assumption); (case k1 => exact B); (case k2 => exact F); (case k3 => exact X); (case k4 => exact N); (case k5 => exact T); (case k6 => k_is); (case k7 => k_is); (case k8 => ktr_room); (case k9 => first | exact BindsTo.of_eq rfl | exact binds_K (Frag.In.keeps X F.keep) rfl (by k_is) rfl rfl rfl); (case kB => exact rfl); (case kD => decide +kernel); (case c2 => exact rfl); (case c3 => exact rfl); (case c4 => exact rfl); k_whole; intro g L₁ h₁ tk₁ cells FG F₁ N₁ Y₁ B₁ X₁ T₁ l1; (try k_lt l1); k_cells Y₁; (try simp only [List.cons_append, List.nil_append] at N₁); (try dsimp only); (try k_lift B₁); (try walk_at "m_fold"))
  k_steps
  unfold Stop
  rename Fr _ _ _ _ => Fa
  rename News _ _ _ _ => Na
  refine cut_kind (w := w) (kd := kd) Fa Na (fun Q' hq' => ?_) (fun k2 tl2 h2 tk2 F9 N9 hl2 hk2 => ?_)
  · have hcut9 : True := trivial
    (try walk_at "m_fold")
    rcases hvk with ⟨l, tv, rfl, hrk⟩ | ⟨rfl, rfl, hrk⟩ | ⟨rfl, rfl, rfl⟩
    · k_steps
      (try walk_at "m_fold")
      (refine Mine.ex_1_2 (ho2) ?_; (try clear ho2); intro k2 e9 hk2)
      subst e9
      exact hq' k2 tl2 h2 tk2 F9 N9 hl2 hk2
    · k_steps
      (try walk_at "m_fold")
      (refine Mine.ex_1_2 (ho2) ?_; (try clear ho2); intro k2 e9 hk2)
      subst e9
      exact hq' k2 tl2 h2 tk2 F9 N9 hl2 hk2
    · k_steps
      (try walk_at "m_fold")
      (refine Mine.ex_1_5 (dig_pack (kd := (Str.ofString "message", Str.ofString "rfc822", [])) rfl N9 hl6 (by assumption) (by assumption) (by assumption) (by assumption)) ?_; intro tl2 N9' hk2 hk3 hk4 hl2)
      exact hq' k2 tl2 _ _ (by k_asm) (news_sub N9' (by walk_at "m_sub9")) hl2 hk2
  clear Fa Na hvk
  (try walk_at "m_fold")
  (refine Mine.ex_7_2 (hk2.obj) ?_; intro dx2 q2 u1 u2 u3 u4 u5 hk3 hk4)
  replace N9 := news_more (news_more (news_comm N9) (List.mem_append_right _ hk4)) (.tail _ (List.mem_append_right _ hk3))
  (try simp only [List.cons_append] at N9)
  have n2k : @LT.lt Nat _ (L₁ + 1 + 1 + 1) k2 := hl2 _ (.tail _ (.tail _ (.head _))) _ hk3
  have n2d : @LT.lt Nat _ (L₁ + 1 + 1 + 1) dx2 := hl2 _ (.tail _ (.tail _ (.head _))) _ hk4
  have offc := Mine.offc_mk l1 (fun y hy => hl1 _ (.head _) y hy) (fun y hy => hl2 _ (.tail _ (.tail _ (.head _))) y hy)
  have hset9 : True := trivial
  k_steps
  · unfold Stop
    clear hset9
    refine kids_comp (tr := tr) (m8 := m8) rfl (by k_asm) N9 (by rw [two4.length]; exact hzs) (two4.mono fun _ _ h => h.mono (by walk_at "m_sub9")) ?_ ?_
    · intro xa xb t7 t8 us tl I oI C oC D m₂ h tk E' hx hC h1 h2 F₂ N₂ off ne
      k_steps
      rename Fr _ _ _ _ => Fx
      exact TurnP.intro Fx N9 (by walk_at "m_sub9") hl5 ho5
    · intro gg us tl hus hne htwo
      have offk : ∀ y ∈ tl ++ (news ++ tl1 ++ tl2 ++ tl4), y.1 ≠ dx3 := off_ap9 (fun y hy => (hne (dx3, _) (.tail _ (.tail _ (.tail _ (.head _)))) y hy).symm) (off_ap9 offd fun y hy => (Nat.ne_of_lt (hl4 (dx3, _) (.tail _ (.tail _ (.head _))) y hy)).symm)
      k_steps
      have hlt : dz < 20 := by assumption
      have hm : (kd.1 == Str.ofString "multipart") = true := by assumption
      rw [if_pos ⟨hlt, hm⟩, if_neg (fun h => by rw [hm] at h; exact absurd h.2.1 (by decide))] at hret
      refine read_end (tlx := tl1 ++ tl2 ++ tl) hret (by k_asm) (by k_asm) (.head _) (by k_mem) (by k_mem) (by walk_at "m_sub9") (by walk_at "m_sub9") (fun q hq => off1_mem (show _ ∧ _ ∧ _ ∧ _ ∧ _ ∧ _ ∧ _ ∧ _ ∧ _ ∧ _ ∧ _ ∧ LCg.Off1 _ _ from by assumption).2.2.2.2.2.2.2.2.2.2.2 q (by walk_at "m_mem9")) (fun q hq => Nat.ne_of_lt (hl3 q (by walk_at "m_mem9") (p3, instObj 551 dx3) (by walk_at "m_mem9"))) (fun q hq => Nat.ne_of_lt (hl3 q (by walk_at "m_mem9") (dx3, partD w.params ct3 a bo e (.ref D1) (.ref k2) (txt (encOf fs)) (.ref l3) .none) (by walk_at "m_mem9"))) (fun q hq => all_app (all_app (hl1 q (by walk_at "m_mem9")) fun y h => Nat.ne_of_lt (hl2 q (by walk_at "m_mem9") y h)) (hne q (by walk_at "m_mem9"))) (hk2.mono (by walk_at "m_sub9")) ho hus (htwo.mono fun _ _ h => h.up (by walk_at "m_sub9")) (.inl ⟨rfl, rfl⟩)
  · unfold Stop
    clear hset9
    have offd5 : ∀ y ∈ news ++ tl1 ++ tl2 ++ tl5, y.1 ≠ dx3 := Mine.off_ap9 offd (fun y hy => (hl5 _ (.tail _ (.tail _ (.head _))) y hy).symm)
    k_steps
    have hlt : dz < 20 := by assumption
    have hm : (kd.1 == Str.ofString "multipart") = false := by assumption
    have hop : openB kd fs = true := by assumption
    rw [if_neg (fun h => by rw [hm] at h; exact Bool.false_ne_true h.2), if_pos ⟨hlt, hm, hop⟩] at hret
    refine read_end (ys := []) (tlx := tl1 ++ tl2 ++ tl5) hret (by k_asm) (by k_asm) (show (l3, listOf #[] m3) ∈ _ from by k_mem) (by k_mem) (by k_mem) (by walk_at "m_sub9") (by walk_at "m_sub9") (fun q hq => Nat.ne_of_lt (hl3 q (by walk_at "m_mem9") (l3, listOf #[] m3) (by walk_at "m_mem9"))) (fun q hq => Nat.ne_of_lt (hl3 q (by walk_at "m_mem9") (p3, instObj 551 dx3) (by walk_at "m_mem9"))) (fun q hq => Nat.ne_of_lt (hl3 q (by walk_at "m_mem9") (dx3, partD w.params ct3 a bo e (.ref D1) (.ref k2) (txt (encOf fs)) (.ref l3) .none) (by walk_at "m_mem9"))) (fun q hq => all_app (all_app (hl1 q (by walk_at "m_mem9")) fun y h => Nat.ne_of_lt (hl2 q (by walk_at "m_mem9") y h)) (hl5 q (by walk_at "m_mem9"))) (hk2.mono (by walk_at "m_sub9")) ho (Nat.zero_le _) .nil (.inr (ho5.up (by walk_at "m_sub9")))
  · have hm : (kd.1 == Str.ofString "multipart") = false := by assumption
    have hop : openB kd fs = false := by assumption
    rw [if_neg (fun h => by rw [hm] at h; exact Bool.false_ne_true h.2), if_neg (fun h => by rw [hop] at h; exact Bool.false_ne_true h.2.2)] at hret
    refine read_end (ys := []) (tlx := tl1 ++ tl2) hret (by k_asm) (by k_asm) (show (l3, listOf #[] m3) ∈ _ from by k_mem) (by k_mem) (by k_mem) (by walk_at "m_sub9") (by walk_at "m_sub9") (fun q hq => Nat.ne_of_lt (hl3 q (by walk_at "m_mem9") (l3, listOf #[] m3) (by walk_at "m_mem9"))) (fun q hq => Nat.ne_of_lt (hl3 q (by walk_at "m_mem9") (p3, instObj 551 dx3) (by walk_at "m_mem9"))) (fun q hq => Nat.ne_of_lt (hl3 q (by walk_at "m_mem9") (dx3, partD w.params ct3 a bo e (.ref D1) (.ref k2) (txt (encOf fs)) (.ref l3) .none) (by walk_at "m_mem9"))) (fun q hq => all_app (hl1 q (by walk_at "m_mem9")) fun y h => Nat.ne_of_lt (hl2 q (by walk_at "m_mem9") y h)) (hk2.mono (by walk_at "m_sub9")) ho (Nat.zero_le _) .nil (.inl ⟨rfl, rfl⟩)
  · have hlt : ¬ dz < 20 := by assumption
    rw [if_neg (fun h => hlt h.1), if_neg (fun h => hlt h.1)] at hret
    refine read_end (ys := []) (tlx := tl1 ++ tl2) hret (by k_asm) (by k_asm) (show (l3, listOf #[] m3) ∈ _ from by k_mem) (by k_mem) (by k_mem) (by walk_at "m_sub9") (by walk_at "m_sub9") (fun q hq => Nat.ne_of_lt (hl3 q (by walk_at "m_mem9") (l3, listOf #[] m3) (by walk_at "m_mem9"))) (fun q hq => Nat.ne_of_lt (hl3 q (by walk_at "m_mem9") (p3, instObj 551 dx3) (by walk_at "m_mem9"))) (fun q hq => Nat.ne_of_lt (hl3 q (by walk_at "m_mem9") (dx3, partD w.params ct3 a bo e (.ref D1) (.ref k2) (txt (encOf fs)) (.ref l3) .none) (by walk_at "m_mem9"))) (fun q hq => all_app (hl1 q (by walk_at "m_mem9")) fun y h => Nat.ne_of_lt (hl2 q (by walk_at "m_mem9") y h)) (hk2.mono (by walk_at "m_sub9")) ho (Nat.zero_le _) .nil (.inl ⟨rfl, rfl⟩)

end
/-! E8 -/
section
open PyProof.V PySem.Spec PyProof.Rows.LCg PyProof.Rows.LCt
theorem headAt_le {d : List UInt8} {e : Nat} : ∀ {n a : Nat}, e - a ≤ n → a ≤ e → a ≤ (headAt d e a).2 ∧ (headAt d e a).2 ≤ e := by
  intro n
  induction n with
  | zero => intro a hn h; rw [headAt_end (by (first | lia | omega))]; exact ⟨by (first | lia | omega), Nat.le_refl _⟩
  | succ n ih =>
    intro a hn h
    by_cases ha : a < e
    · have hl := lineAt_le (d := d) h
      have hlt := lineAt_lt (d := d) ha
      by_cases h1 : (lineAt d a e).1 = a
      · rw [headAt_blank ha h1]; exact ⟨by (first | lia | omega), hl.2.2⟩
      · cases h2 : colonAt d a (lineAt d a e).1 with
        | none => rw [headAt_no ha h1 h2]; exact ⟨Nat.le_refl _, h⟩
        | some c =>
          rw [headAt_field ha h1 h2]
          have := ih (a := (lineAt d a e).2) (by (first | lia | omega)) hl.2.2
          exact ⟨by dsimp only; (first | lia | omega), this.2⟩
    · rw [headAt_end (by (first | lia | omega))]; exact ⟨h, Nat.le_refl _⟩
theorem pg_len {d b : List UInt8} {e : Nat} : ∀ (l : List (Nat × Nat × Nat)) (g : Option Nat) (bf : Nat), (partsGo d b e l g bf).length ≤ l.length + 1
  | [], g, bf => by cases g <;> simp [partsGo, endOf]
  | x :: r, g, bf => by
    have hp : (preOf g bf).length ≤ 1 := by cases g <;> simp [preOf]
    unfold partsGo
    split
    · rw [List.length_append]
      split
      · simp; (first | lia | omega)
      · have := pg_len (d := d) (b := b) (e := e) r (some x.2.2) x.2.1
        rw [List.length_cons]; (first | lia | omega)
    · have := pg_len (d := d) (b := b) (e := e) r g x.2.1
      rw [List.length_cons]; (first | lia | omega)
noncomputable def kdOf (l : List UInt8) : KD := if l = oK1 then kd1 else if l = oK2 then kd2 else if l = oK3 then kd3 else if l = oK4 then kd4 else kd5
noncomputable def kindAt (fs : List FieldD) (dig : Bool) : KD := match firstBody fs ctW with
  | none => if dig = true then kd3 else plainK
  | some l => kdOf l
noncomputable def isOct (l : List UInt8) : Prop := l = oK1 ∨ l = oK2 ∨ l = oK3 ∨ l = oK4 ∨ l = oK5
theorem kindOct_of {l : List UInt8} (h : isOct l) : kindOct l (kdOf l) := by
  unfold kdOf kindOct
  by_cases h1 : l = oK1
  · rw [if_pos h1]; exact .inl ⟨h1, rfl⟩
  · rw [if_neg h1]
    by_cases h2 : l = oK2
    · rw [if_pos h2]; exact .inr (.inl ⟨h2, rfl⟩)
    · rw [if_neg h2]
      by_cases h3 : l = oK3
      · rw [if_pos h3]; exact .inr (.inr (.inl ⟨h3, rfl⟩))
      · rw [if_neg h3]
        by_cases h4 : l = oK4
        · rw [if_pos h4]; exact .inr (.inr (.inr (.inl ⟨h4, rfl⟩)))
        · rw [if_neg h4]
          rcases h with h | h | h | h | h
          · exact absurd h h1
          · exact absurd h h2
          · exact absurd h h3
          · exact absurd h h4
          · exact .inr (.inr (.inr (.inr ⟨h, rfl⟩)))
/-- the six kinds -/
noncomputable def SixK (kd : KD) : Prop := kd = kd1 ∨ kd = kd2 ∨ kd = kd3 ∨ kd = kd4 ∨ kd = kd5 ∨ kd = plainK
theorem six_of (l : List UInt8) : SixK (kdOf l) := by
  unfold kdOf SixK
  split
  · exact .inl rfl
  · split
    · exact .inr (.inl rfl)
    · split
      · exact .inr (.inr (.inl rfl))
      · split
        · exact .inr (.inr (.inr (.inl rfl)))
        · exact .inr (.inr (.inr (.inr (.inl rfl))))
theorem six_at (fs : List FieldD) (dig : Bool) : SixK (kindAt fs dig) := by
  unfold kindAt
  split
  · split
    · exact .inr (.inr (.inl rfl))
    · exact .inr (.inr (.inr (.inr (.inr rfl))))
  · exact six_of _
theorem SixK.one {kd : KD} (h : SixK kd) : OneP kd := by
  rcases h with rfl | rfl | rfl | rfl | rfl | rfl
  · exact .inr ⟨_, _, rfl⟩
  · exact .inr ⟨_, _, rfl⟩
  · exact .inl rfl
  · exact .inl rfl
  · exact .inl rfl
  · exact .inr ⟨_, _, rfl⟩
/-- the spans of the kids -/
noncomputable def zsAt (d : List UInt8) (kd : KD) (bo e : Nat) : List (Nat × Nat) := match kd.2.2 with
  | [] => [(e, e)]
  | (_, y) :: _ => if y = txt [97] then orEnd e (partsGo d [97] e (spansAt d e bo) none bo) else orEnd e (partsGo d [98] e (spansAt d e bo) none bo)
theorem orEnd_len {e n : Nat} {l : List (Nat × Nat)} (h : l.length ≤ n + 1) : (orEnd e l).length ≤ n + 1 := by
  unfold orEnd
  split
  · simp
  · exact h
theorem zsAt_len {d : List UInt8} {kd : KD} {bo e : Nat} : (zsAt d kd bo e).length ≤ e + 1 := by
  have hs : (spansAt d e bo).length ≤ e := Nat.le_trans (spansRun_len (d := d) (e := e) (e - bo) bo) (Nat.sub_le _ _)
  unfold zsAt
  split
  · simp
  · split
    · exact orEnd_len (Nat.le_trans (pg_len _ _ _) (Nat.succ_le_succ hs))
    · exact orEnd_len (Nat.le_trans (pg_len _ _ _) (Nat.succ_le_succ hs))
theorem kids_six (w : World) (d : List UInt8) (kd : KD) (h6 : SixK kd) (bo e : Nat) (hz : d.length ≤ 16777216) (hbe : bo ≤ e) (he : e ≤ d.length) (a : Nat) :
    ∀ p dx ct fl k enc kids inner news t, (p, instObj 551 dx) ∈ news → (dx, partD w.params ct a bo e fl (.ref k) enc kids inner) ∈ news → KindIn w news k kd → (kd.1 == Str.ofString "multipart") = true → CtrA w 579 10 [.bytes d.toArray t, .ref p] news (PairsOut (zsAt d kd bo e)) := by
  intro p dx ct fl k enc kids inner news t hp hd hk hm
  rcases h6 with rfl | rfl | rfl | rfl | rfl | rfl
  · exact kid_spans_one w d t p dx ct a bo e fl k "multipart" "mixed" 97 enc kids inner news hp hd hk (by decide) hz hbe he
  · exact kid_spans_one w d t p dx ct a bo e fl k "multipart" "digest" 98 enc kids inner news hp hd hk (by decide) hz hbe he
  · exact kid_spans_none w d t p dx ct a bo e fl k "message" "rfc822" enc kids inner news hp hd hk
  · exact kid_spans_none w d t p dx ct a bo e fl k "multipart" "alternative" enc kids inner news hp hd hk
  · exact kid_spans_none w d t p dx ct a bo e fl k "image" "png" enc kids inner news hp hd hk
  · exact absurd hm (by decide +kernel)
/-- what is told of a part: n levels are left -/
noncomputable def treeD (d : List UInt8) : Nat → Nat → Nat → Bool → PyData
  | 0, a, e, dig => treeOut a (headAt d e a).2 e (kindAt (fieldsAt d e a) dig) (fieldsAt d e a) [] .none
  | n + 1, a, e, dig => treeOut a (headAt d e a).2 e (kindAt (fieldsAt d e a) dig) (fieldsAt d e a)
      (if ((kindAt (fieldsAt d e a) dig).1 == Str.ofString "multipart") = true then (zsAt d (kindAt (fieldsAt d e a) dig) (headAt d e a).2 e).map (fun x => treeD d n x.1 x.2 ((kindAt (fieldsAt d e a) dig).2.1 == Str.ofString "digest")) else [])
      (if ((kindAt (fieldsAt d e a) dig).1 == Str.ofString "multipart") = false ∧ openB (kindAt (fieldsAt d e a) dig) (fieldsAt d e a) = true then treeD d n (headAt d e a).2 e false else .none)
noncomputable def BaseF (d : List UInt8) (a e : Nat) : Prop := a ≤ e ∧ e ≤ d.length ∧ Good d e a ∧ (∀ x ∈ fieldsAt d e a, FOk x) ∧ ∀ l, firstBody (fieldsAt d e a) ctW = some l → isOct l
noncomputable def Fine (d : List UInt8) : Nat → Nat → Nat → Bool → Prop
  | 0, a, e, _ => BaseF d a e
  | n + 1, a, e, dig => BaseF d a e ∧ (((kindAt (fieldsAt d e a) dig).1 == Str.ofString "multipart") = true → ∀ x ∈ zsAt d (kindAt (fieldsAt d e a) dig) (headAt d e a).2 e, Fine d n x.1 x.2 ((kindAt (fieldsAt d e a) dig).2.1 == Str.ofString "digest")) ∧
      (openB (kindAt (fieldsAt d e a) dig) (fieldsAt d e a) = true → Fine d n (headAt d e a).2 e false)
theorem part_step (w : World) (d : List UInt8) (a e : Nat) (dig : Bool) (dz : Int) (m9 m8 : Nat) (tr : Nat × Nat → PyData) (tri : PyData) (t ta te td : Tok) (news : List (Addr × Obj)) (hz : d.length + 1 ≤ 16777216) (hb : BaseF d a e)
    (hkid : dz < 20 → ((kindAt (fieldsAt d e a) dig).1 == Str.ofString "multipart") = true → ∀ x ∈ zsAt d (kindAt (fieldsAt d e a) dig) (headAt d e a).2 e, ∀ t t1 t2 t3 news, CtrN w 591 (2 * m9 + 14) [.bytes d.toArray t, .int (x.1 : Int) t1, .int (x.2 : Int) t2, .int (dz + 1) t3, .bool ((kindAt (fieldsAt d e a) dig).2.1 == "digest")] news (fun tl v => PartIn w tl m8 v (tr x)))
    (hin : dz < 20 → openB (kindAt (fieldsAt d e a) dig) (fieldsAt d e a) = true → ∀ t t1 t2 t3 news, CtrN w 591 (2 * m9 + 14) [.bytes d.toArray t, .int ((headAt d e a).2 : Int) t1, .int (e : Int) t2, .int (dz + 1) t3, .bool false] news (fun tl v => PartIn w tl m8 v tri)) :
   CtrN w 591 (2 * m9 + 16) [.bytes d.toArray t, .int a ta, .int e te, .int dz td, .bool dig] news (fun tl v => PartIn w tl (m8 + 1) v (treeOut a (headAt d e a).2 e (kindAt (fieldsAt d e a) dig) (fieldsAt d e a)
      (if dz < 20 ∧ ((kindAt (fieldsAt d e a) dig).1 == Str.ofString "multipart") = true then (zsAt d (kindAt (fieldsAt d e a) dig) (headAt d e a).2 e).map tr else [])
      (if dz < 20 ∧ ((kindAt (fieldsAt d e a) dig).1 == Str.ofString "multipart") = false ∧ openB (kindAt (fieldsAt d e a) dig) (fieldsAt d e a) = true then tri else .none))) := by
  (refine Mine.ex_0_5 (hb) ?_; (try clear hb); intro hae he G hf hoct)
  have hz' : d.length ≤ 16777216 := by (first | lia | omega)
  have hbe := (headAt_le (d := d) (Nat.le_refl (e - a)) hae).2
  have h6 := six_at (fieldsAt d e a) dig
  have hks := kids_six w d (kindAt (fieldsAt d e a) dig) h6 (headAt d e a).2 e hz' hbe he a
  have hzl : (zsAt d (kindAt (fieldsAt d e a) dig) (headAt d e a).2 e).length ≤ 16777216 := by
    have := zsAt_len (d := d) (kd := kindAt (fieldsAt d e a) dig) (bo := (headAt d e a).2) (e := e)
    (first | lia | omega)
  have hrf : ∀ t ta te news, CtrN w 201 6 [.bytes d.toArray t, .int a ta, .int e te] news (FieldsOut w.params (fieldsAt d e a) (headAt d e a).2) := fun t ta te news => read_fields_ok w d t a ta e te hz' hae he G news
  have key : ∀ zs : List (Nat × Nat), zs.length ≤ 16777216 →
      (∀ p dx ct fl k enc kids inner news t, (p, instObj 551 dx) ∈ news → (dx, partD w.params ct a (headAt d e a).2 e fl (.ref k) enc kids inner) ∈ news → KindIn w news k (kindAt (fieldsAt d e a) dig) → ((kindAt (fieldsAt d e a) dig).1 == Str.ofString "multipart") = true → CtrA w 579 10 [.bytes d.toArray t, .ref p] news (PairsOut zs)) →
      (dz < 20 → ∀ x ∈ zs, ∀ t t1 t2 t3 news, CtrN w 591 (2 * m9 + 14) [.bytes d.toArray t, .int (x.1 : Int) t1, .int (x.2 : Int) t2, .int (dz + 1) t3, .bool ((kindAt (fieldsAt d e a) dig).2.1 == "digest")] news (fun tl v => PartIn w tl m8 v (tr x))) →
      CtrN w 591 (2 * m9 + 16) [.bytes d.toArray t, .int a ta, .int e te, .int dz td, .bool dig] news (fun tl v => PartIn w tl (m8 + 1) v (treeOut a (headAt d e a).2 e (kindAt (fieldsAt d e a) dig) (fieldsAt d e a)
      (if dz < 20 ∧ ((kindAt (fieldsAt d e a) dig).1 == Str.ofString "multipart") = true then zs.map tr else [])
      (if dz < 20 ∧ ((kindAt (fieldsAt d e a) dig).1 == Str.ofString "multipart") = false ∧ openB (kindAt (fieldsAt d e a) dig) (fieldsAt d e a) = true then tri else .none))) := by
    clear hkid hks hzl
    intro zs hzl hks hkid
    generalize hfs : fieldsAt d e a = fs at *
    generalize (headAt d e a).2 = bo at *
    have ho := h6.one
    refine part_any w d t a ta e te dz td dig bo fs (kindAt fs dig) m9 m8 zs tr tri news hz' hbe he hf hzl ho (fun D ys n t news hD hy => ?_) hrf hks hkid hin
    cases hfb : firstBody fs ctW with
    | some l =>
      have hk : kindAt fs dig = kdOf l := by unfold kindAt; rw [hfb]
      rw [hk]
      exact CtrA.imp (first_body_some w D ys n fs "content-type" t news hfb hD hy hf ct_ok) fun tl v ⟨h1, t1, h2⟩ => ⟨h1, .inl ⟨l, t1, h2, fun u news => read_kind_ok w l u _ (kindOct_of (hoct l hfb)) news⟩⟩
    | none =>
      refine CtrA.imp (first_body_none w D ys n fs "content-type" t news hfb hD hy hf ct_ok) fun tl v h => ⟨h.1, .inr ?_⟩
      cases dig with
      | true => exact .inr ⟨h.2.elim fun _ e => e, rfl, by unfold kindAt; rw [hfb]; rfl⟩
      | false =>
        have hk : kindAt fs false = plainK := by unfold kindAt; rw [hfb]; rfl
        rw [hk]
        exact .inl ⟨h.2.elim fun _ e => e, rfl, read_kind_none w⟩
  by_cases hm : ((kindAt (fieldsAt d e a) dig).1 == Str.ofString "multipart") = true
  · exact key _ hzl hks fun h => hkid h hm
  · have := key [] (Nat.zero_le _) (fun _ _ _ _ _ _ _ _ _ _ _ _ _ h => absurd h hm) (fun _ _ h => nomatch h)
    rw [if_neg (fun h => hm h.2)] at this ⊢
    exact this
theorem ifc {p q : Prop} [Decidable p] [Decidable q] (h : p ↔ q) {α : Type} {x y : α} : (if p then x else y) = if q then x else y := by
  by_cases hp : p
  · rw [if_pos hp, if_pos (h.mp hp)]
  · rw [if_neg hp, if_neg fun hq => hp (h.mpr hq)]
theorem read_part_ok (w : World) (d : List UInt8) (hz : d.length + 1 ≤ 16777216) : ∀ (n a e : Nat) (dig : Bool), n ≤ 20 → Fine d n a e dig → ∀ (t ta te td : Tok) (news : List (Addr × Obj)),
    CtrN w 591 (2 * n + 16) [.bytes d.toArray t, .int a ta, .int e te, .int (20 - (n : Int)) td, .bool dig] news (fun tl v => PartIn w tl (n + 1) v (treeD d n a e dig))
  | 0, a, e, dig, _, hf, t, ta, te, td, news => by
    have h := part_step w d a e dig (20 - ((0 : Nat) : Int)) 0 0 (fun _ => .none) .none t ta te td news hz hf (fun h => absurd h (by decide)) (fun h => absurd h (by decide))
    rw [if_neg (fun h => absurd h.1 (by decide)), if_neg (fun h => absurd h.1 (by decide))] at h
    exact h
  | n + 1, a, e, dig, hn, hf, t, ta, te, td, news => by
    (refine Mine.ex_0_3 (hf) ?_; (try clear hf); intro hb hk hi)
    have e20 : 20 - ((n + 1 : Nat) : Int) + 1 = 20 - (n : Int) := by (first | lia | omega)
    have hlt : 20 - ((n + 1 : Nat) : Int) < 20 := by (first | lia | omega)
    have h := part_step w d a e dig (20 - ((n + 1 : Nat) : Int)) (n + 1) (n + 1) (fun x => treeD d n x.1 x.2 ((kindAt (fieldsAt d e a) dig).2.1 == Str.ofString "digest")) (treeD d n (headAt d e a).2 e false) t ta te td news hz hb
      (fun _ hm x hx t t1 t2 t3 news => by rw [e20]; exact read_part_ok w d hz n x.1 x.2 _ (by (first | lia | omega)) (hk hm x hx) t t1 t2 t3 news)
      (fun _ ho t t1 t2 t3 news => by rw [e20]; exact read_part_ok w d hz n _ e false (by (first | lia | omega)) (hi ho) t t1 t2 t3 news)
    unfold treeD
    rw [ifc (show (20 - ((n + 1 : Nat) : Int) < 20 ∧ ((kindAt (fieldsAt d e a) dig).1 == Str.ofString "multipart") = true) ↔ ((kindAt (fieldsAt d e a) dig).1 == Str.ofString "multipart") = true from ⟨fun h => h.2, fun h => ⟨hlt, h⟩⟩),
      ifc (show (20 - ((n + 1 : Nat) : Int) < 20 ∧ ((kindAt (fieldsAt d e a) dig).1 == Str.ofString "multipart") = false ∧ openB (kindAt (fieldsAt d e a) dig) (fieldsAt d e a) = true) ↔ (((kindAt (fieldsAt d e a) dig).1 == Str.ofString "multipart") = false ∧ openB (kindAt (fieldsAt d e a) dig) (fieldsAt d e a) = true) from ⟨fun h => h.2, fun h => ⟨hlt, h⟩⟩)] at h
    exact h

end
/-! E9 -/
section
open PyProof.V PySem.Spec PyProof.Rows.LCg PyProof.Rows.LCt
theorem reg_45 : True := by
  k_with "my call builtin:len" => (((fail_if_success (fail_if_success (have z9 := hsE9))); ((k_here; (with_reducible show wpAny _ _ (call (Value.builtin "len") [Value.bytes _ _]) _ _ _); k_dflt (refine Mine.len_B ?zₘ ?_; (case zₘ => walk_at "m_om")); intro _ _))))
  trivial
theorem read_whole (w : World) (d : List UInt8) (hz : d.length + 1 ≤ 16777216) (hf : Fine d 20 0 d.length false) (t ta te td : Tok) (news : List (Addr × Obj)) :
    CtrN w 591 56 [.bytes d.toArray t, .int 0 ta, .int (d.length : Int) te, .int 0 td, .bool false] news (fun tl v => PartIn w tl 21 v (treeD d 20 0 d.length false)) :=
  read_part_ok w d hz 20 0 d.length false (Nat.le_refl _) hf t ta te td news
theorem reg_46 : True := by
  k_with "my call ref" => (((fail_if_success (fail_if_success (have z9 := hsE9))); ((k_here; (with_reducible show wpAny _ _ (call (Value.ref 591) _) _ _ _); (try walk_at "m_fold"); k_dflt (refine' CtrN.useS ?k0ₘ ?k1ₘ ?k2ₘ ?k3ₘ ?k4ₘ ?k5ₘ ?kKₘ ?kdₘ ?kuₘ ?_; (case k1ₘ => k_asm); (case k2ₘ => k_asm); (case k3ₘ => k_asm); (case k4ₘ => k_asm); (case k5ₘ => k_asm); (case k0ₘ => exact (read_whole _ _ hz hf _ _ _ _ _)); (case kKₘ => first | exact rfl | assumption); (case kdₘ => ktr_room); (case kuₘ => ktr_units); k_whole); intro r5 tl5 h5 tk5 F9 N9 hl5 ho5; (try k_unfold); (try dsimp only); (try walk_at "m_fold")))))
  trivial
theorem read_message_ok (w : World) (d : List UInt8) (t : Tok) (hz : d.length + 1 ≤ 16777216) (hf : Fine d 20 0 d.length false) (news : List (Addr × Obj)) :
    CtrN w 598 58 [.bytes d.toArray t] news (fun tl v => PartIn w tl 21 v (treeD d 20 0 d.length false)) := by
  have hsE9 : True := trivial
  unfold CtrN
  intro prog dp un gd cn cs aF ccd cl outer A₀ base h₀ L m s loose mean mg mb Q E B F X N T hk hdp hu hret
  refine wpAny_call ?_
  k_dflt (refine' code_def (binds := [(Str.ofString "data", .bytes d.toArray t)]) ?k1 ?k2 ?k3 ?k4 ?k5 ?kA ?kF ?kK ?k6 ?k7 ?k8 ?k9 ?kB ?_ ?c2 ?c3 ?c4 ?c5; (case kA => exact rfl); (case kF => exact rfl); (case kK => assumption); (case k1 => exact B); (case k2 => exact F); (case k3 => exact X); (case k4 => exact N); (case k5 => exact T); (case k6 => k_is); (case k7 => k_is); (case k8 => ktr_room); (case k9 => first | exact BindsTo.of_eq rfl | exact binds_K (Frag.In.keeps X F.keep) rfl (by k_is) rfl rfl rfl); (case c5 => decide); (case kB => exact locs rfl); (case c2 => exact rfl); (case c3 => exact rfl); (case c4 => exact rfl); k_whole; intro g L₁ h₁ FG F₁ N₁ B₁ X₁ T₁; (try dsimp only); (try walk_at "m_fold"))
  replace F₁ : Fr g L₁ h₁ (fun y => List.lookup y [(Str.ofString "data", .bytes d.toArray t)]) := F₁
  k_steps
  exact hret _ tl5 _ _ (by k_asm) (by k_asm) hl5 ho5

end
/-! F1 -/
section
open PyProof.V PySem.Spec PyProof.Rows.LCg PyProof.Rows.LCt
theorem fmod_nat {lim : Nat} (z : Int) (h : 0 < lim) : ∃ x : Nat, x < lim ∧ z.fmod (lim : Int) = (x : Int) := by
  have h0 : (0 : Int) < lim := by (first | lia | omega)
  have h1 := Int.fmod_lt_of_pos z h0
  have h2 := Int.fmod_nonneg_of_pos z h0
  exact ⟨(z.fmod lim).toNat, by (first | lia | omega), by (first | lia | omega)⟩
theorem len_L {prog : Program} {w : World} {A : Around} {E : Value → Shared → Prop} {s : Shared} {h₀ : Heap} {L D : Addr} {news : List (Addr × Obj)} {its : List Value} {c : Nat} {Q : Value → Shared → Prop} (N : News h₀ L s.heap news) (hm : (D, listOf its.toArray c) ∈ news) (hf : its.length ≤ 16777216) (h : Q (.int (its.length : Nat) (s.toks + 1)) { s with toks := s.toks + 1 + 1 }) : wpAny (model prog w) A (call (.builtin "len") [.ref D]) Q E s :=
  call_len_list (items := its.toArray) ⟨_, (N _ hm).1, rfl, _, rfl⟩ (by rw [List.size_toArray]; (first | lia | omega)) (by rw [List.size_toArray]; exact h)
theorem reg_47 : True := by
  k_with "my call builtin:len" => (((fail_if_success (fail_if_success (have z9 := hsF1))); ((k_here; (with_reducible show wpAny _ _ (call (Value.builtin "len") [Value.ref _]) _ _ _); k_dflt (refine' Mine.len_L ?Nₘ ?mₘ ?fₘ ?_; (case Nₘ => k_asm); (case mₘ => k_mem); (case fₘ => walk_at "m_om"); k_whole)))))
  trivial
theorem draw_ok (w : World) (T0 c : Addr) (cz : List Value) (ns : List Int) (n nc at0 lim : Nat) (ta tl : Tok) (rest : List (Addr × Obj)) (hne : 0 < cz.length) (h40 : cz.length ≤ 40) (hi : IntsAre cz ns) (hl : 0 < lim) (ha : at0 ≤ 1000) (hTc : @Ne Nat T0 c) (off : ∀ p ∈ rest, p.1 ≠ T0) :
    CtrM w 632 1 [.ref T0, .int (lim : Int) tl] ((T0, listOf #[.ref c, .int (at0 : Int) ta] n) :: (c, listOf cz.toArray nc) :: rest) (fun all r => ∃ (x : Nat) (t t2 : Tok) (n2 : Nat), x < lim ∧ r = .int (x : Int) t ∧ all = (T0, listOf #[.ref c, .int ((at0 + 1 : Nat) : Int) t2] n2) :: (c, listOf cz.toArray nc) :: rest) := by
  have hsF1 : True := trivial
  unfold CtrM
  intro prog dp un gd cn cs aF ccd cl outer A₀ base h₀ L m s loose mean mg mb Q E B F X N T hk hdp hu hret
  refine wpAny_call ?_
  k_dflt (refine' code_def (binds := [(Str.ofString "tape", .ref T0), (Str.ofString "limit", .int (lim : Int) tl)]) ?k1 ?k2 ?k3 ?k4 ?k5 ?kA ?kF ?kK ?k6 ?k7 ?k8 ?k9 ?kB ?_ ?c2 ?c3 ?c4 ?c5; (case kA => exact rfl); (case kF => exact rfl); (case kK => assumption); (case k1 => exact B); (case k2 => exact F); (case k3 => exact X); (case k4 => exact N); (case k5 => exact T); (case k6 => k_is); (case k7 => k_is); (case k8 => ktr_room); (case k9 => first | exact BindsTo.of_eq rfl | exact binds_K (Frag.In.keeps X F.keep) rfl (by k_is) rfl rfl rfl); (case c5 => decide); (case kB => exact locs rfl); (case c2 => exact rfl); (case c3 => exact rfl); (case c4 => exact rfl); k_whole; intro g L₁ h₁ FG F₁ N₁ B₁ X₁ T₁; (try dsimp only); (try walk_at "m_fold"))
  replace F₁ : Fr g L₁ h₁ (fun y => List.lookup y [(Str.ofString "limit", .int (lim : Int) tl), (Str.ofString "tape", .ref T0)]) := F₁
  k_steps
  (try walk_at "m_fold")
  (refine Mine.ex_1_2 (fmod_nat (ns.getD ((at0 : Int).fmod cz.length).toNat 0 + (at0 : Int).fdiv cz.length * (7 * at0 + 3)) hl) ?_; intro x hx ex)
  rw [ex]
  exact hret _ _ _ _ (by k_asm) (by k_asm) ⟨x, _, _, _, hx, rfl, rfl⟩
/-- the draw over any ledger that opens with the tape -/
noncomputable def DrawOut (T0 c : Addr) (at1 lim : Nat) (R : List (Addr × Obj)) (all : List (Addr × Obj)) (r : Value) : Prop := ∃ (x : Nat) (t t2 : Tok) (n2 : Nat), x < lim ∧ r = .int (x : Int) t ∧ ∀ p ∈ (T0, listOf #[.ref c, .int (at1 : Int) t2] n2) :: R, p ∈ all
theorem draw_gen (w : World) (T0 c : Addr) (cz : List Value) (ns : List Int) (n nc at0 lim : Nat) (ta tl : Tok) (R : List (Addr × Obj)) (hne : 0 < cz.length) (h40 : cz.length ≤ 40) (hi : IntsAre cz ns) (hl : 0 < lim) (ha : at0 ≤ 1000) (hc : (c, listOf cz.toArray nc) ∈ R) (off : ∀ p ∈ R, p.1 ≠ T0) :
    CtrM w 632 1 [.ref T0, .int (lim : Int) tl] ((T0, listOf #[.ref c, .int (at0 : Int) ta] n) :: R) (DrawOut T0 c (at0 + 1) lim R) := by
  have h := draw_ok w T0 c cz ns n nc at0 lim ta tl R hne h40 hi hl ha (fun h => off _ hc h.symm) off
  intro prog dp un gd cn cs a ccd cl outer A₀ base h₀ L m st loose mean mg mb Q E B F X N T hk hdp hu hret
  refine h prog dp un gd cn cs a ccd cl outer A₀ base h₀ L m st loose mean mg mb Q E B F X (news_sub N fun p hp => ?_) T hk hdp hu fun r all h' tk' F' N' ho => ?_
  · rcases List.mem_cons.mp hp with h | h
    · rw [h]; exact .head _
    · rcases List.mem_cons.mp h with h | h
      · rw [h]; exact .tail _ hc
      · exact .tail _ h
  · (refine Mine.ex_4_3 (ho) ?_; (try clear ho); intro x t t2 n2 hx hr hall)
    refine hret r all h' tk' F' N' ⟨x, t, t2, n2, hx, hr, fun p hp => ?_⟩
    rw [hall]
    rcases List.mem_cons.mp hp with h | h
    · rw [h]; exact .head _
    · exact .tail _ (.tail _ h)
theorem draw_gen2 (w : World) (T0 c : Addr) (cz : List Value) (ns : List Int) (n nc at0 lim : Nat) (ta tl : Tok) (y : Addr × Obj) (R : List (Addr × Obj)) (hne : 0 < cz.length) (h40 : cz.length ≤ 40) (hi : IntsAre cz ns) (hl : 0 < lim) (ha : at0 ≤ 1000) (hc : (c, listOf cz.toArray nc) ∈ R) (off : ∀ p ∈ y :: R, p.1 ≠ T0) :
    CtrM w 632 1 [.ref T0, .int (lim : Int) tl] (y :: (T0, listOf #[.ref c, .int (at0 : Int) ta] n) :: R) (DrawOut T0 c (at0 + 1) lim (y :: R)) :=
  (draw_gen w T0 c cz ns n nc at0 lim ta tl (y :: R) hne h40 hi hl ha (.tail _ hc) off).mono fun p hp => by
    simp only [List.mem_cons] at hp ⊢
    rcases hp with h | h | h <;> simp [h]
theorem draw_gen3 (w : World) (T0 c : Addr) (cz : List Value) (ns : List Int) (n nc at0 lim : Nat) (ta tl : Tok) (y z : Addr × Obj) (R : List (Addr × Obj)) (hne : 0 < cz.length) (h40 : cz.length ≤ 40) (hi : IntsAre cz ns) (hl : 0 < lim) (ha : at0 ≤ 1000) (hc : (c, listOf cz.toArray nc) ∈ R) (off : ∀ p ∈ y :: z :: R, p.1 ≠ T0) :
    CtrM w 632 1 [.ref T0, .int (lim : Int) tl] (y :: z :: (T0, listOf #[.ref c, .int (at0 : Int) ta] n) :: R) (DrawOut T0 c (at0 + 1) lim (y :: z :: R)) :=
  (draw_gen w T0 c cz ns n nc at0 lim ta tl (y :: z :: R) hne h40 hi hl ha (.tail _ (.tail _ hc)) off).mono fun p hp => by
    simp only [List.mem_cons] at hp ⊢
    rcases hp with h | h | h | h <;> simp [h]
/-- a row of the data, with its end -/
noncomputable def IsRow (r : List UInt8) : Prop := ∃ m ∈ menu, r = m ++ [10] ∨ r = m ++ [13, 10]
noncomputable def BytesV (v : Value) (r : List UInt8) : Prop := ∃ t, v = .bytes r.toArray t
structure DS where
  done : List (List UInt8)
  ys : List Value
  n : Nat
  at1 : Nat
  ta : Tok
  nn : Nat

end
/-! F1b -/
section
open PyProof.V PySem.Spec PyProof.Rows.LCg PyProof.Rows.LCt
section
variable {prog : Program} {w : World} {A : Around} {E : Value → Shared → Prop} {s : Shared} {K : Frag} {a : Addr} {d : Option Addr} {sl} {value slice : PySem.Expr} {vs : List Value} {n x : Nat} {u : Tok} {P : Value → Prop} {Q : Value → Shared → Prop}
theorem seq_nat {x k : Nat} (h : x < k) : seqIndex? (x : Int) k = some x := by
  unfold seqIndex?
  simp
  (first | lia | omega)
theorem const_at (X : K.In s.heap) (ho : K.lookup a = some ⟨.type "tuple", d, .seq vs.toArray n, sl⟩) (hx : x < vs.length) (hl : vs.length ≤ 1000) (hall : ∀ v ∈ vs, P v) (h : ∀ v, P v → Q v s)
    (hs : noSl slice = true := by rfl) :
    wpAny (model prog w) A (subscriptTail value slice (.ref a) (.int (x : Int) u)) Q E s :=
  item_tupleT (l := vs) ⟨_, X _ _ ho, rfl, _, rfl⟩ (by (first | lia | omega)) (by (first | lia | omega)) (seq_nat hx) (List.getElem?_eq_getElem hx) (h _ (hall _ (List.getElem_mem hx))) (ix_plain hs)
theorem line_at {z : Int} (X : K.In s.heap) (ho : K.lookup a = some ⟨.type "tuple", d, .seq vs.toArray n, sl⟩) (h0 : 0 ≤ z) (hx : z < (vs.length : Int)) (hl : vs.length ≤ 1000) (hall : ∀ v ∈ vs, P v) (h : ∀ v, P v → Q v s)
    (hs : noSl slice = true := by rfl) :
    wpAny (model prog w) A (subscriptTail value slice (.ref a) (.int z u)) Q E s := by
  (refine Mine.ex_1_1 (Int.eq_ofNat_of_zero_le h0) ?_; intro x eq1; subst eq1)
  exact const_at X ho (by (first | lia | omega)) hl hall h hs
theorem const_0 {v0 : Value} {rest : List Value} (X : K.In s.heap) (ho : K.lookup a = some ⟨.type "tuple", d, .seq (v0 :: rest).toArray n, sl⟩) (h : Q v0 s)
    (hs : noSl slice = true := by rfl) :
    wpAny (model prog w) A (subscriptTail value slice (.ref a) (.int 0 u)) Q E s :=
  item_tupleT (l := v0 :: rest) (j := 0) ⟨_, X _ _ ho, rfl, _, rfl⟩ (by decide) (by decide) (seq_nat (x := 0) (by simp)) rfl h (ix_plain hs)
end
theorem menu_len : ∀ m ∈ menu, m.length ≤ 60 := by
  have h : menu.all (fun m => decide (m.length ≤ 60)) = true := by decide +kernel
  intro m hm
  exact of_decide_eq_true (List.all_eq_true.mp h m hm)
/-- a row of the law's menu of heads -/
noncomputable def HeadV (w : World) (v : Value) : Prop := ∃ (p : Addr) (d : Option Addr) (n : Nat) (b : List UInt8) (t : Tok) (rest : List Value), v = .ref p ∧ (Mine.H.heap_1_41 w.params).lookup p = some ({ cls := .type "tuple", dict := d, data := .seq (.bytes b.toArray t :: rest).toArray n } : Obj) ∧ b ∈ menu
theorem heads_all (w : World) : ∀ v ∈ [Value.ref 605, .ref 609, .ref 612, .ref 615, .ref 618, .ref 619, .ref 620, .ref 621, .ref 622, .ref 623], HeadV w v := by
  intro v hv
  simp only [List.mem_cons, List.not_mem_nil, or_false] at hv
  rcases hv with rfl | rfl | rfl | rfl | rfl | rfl | rfl | rfl | rfl | rfl
  all_goals (refine ⟨_, _, _, _, _, _, rfl, by k_is, by decide +kernel⟩)
noncomputable def LineV (v : Value) : Prop := ∃ (b : List UInt8) (t : Tok), v = .bytes b.toArray t ∧ b ∈ menu
theorem lines_row (w : World) : ∃ (d : Option Addr) (n : Nat) (vs : List Value), (Mine.H.heap_1_41 w.params).lookup 625 = some ({ cls := .type "tuple", dict := d, data := .seq vs.toArray n } : Obj) ∧ vs.length = 12 ∧ ∀ v ∈ vs, LineV v := by
  refine ⟨_, _, _, by k_is, rfl, ?_⟩
  intro v hv
  simp only [List.mem_cons, List.not_mem_nil, or_false] at hv
  rcases hv with rfl | rfl | rfl | rfl | rfl | rfl | rfl | rfl | rfl | rfl | rfl | rfl
  all_goals exact ⟨_, _, rfl, by decide +kernel⟩
theorem at_625 {prog : Program} {w : World} {A : Around} {E : Value → Shared → Prop} {s : Shared} {value slice : PySem.Expr} {u : Tok} {Q : Value → Shared → Prop} {z : Int} (X : (Mine.H.heap_1_41 w.params).In s.heap) (h0 : 0 ≤ z) (h1 : z < 12) (h : ∀ (b : List UInt8) (t : Tok), b ∈ menu → Q (.bytes b.toArray t) s)
    (hs : noSl slice = true) :
    wpAny (model prog w) A (subscriptTail value slice (.ref 625) (.int z u)) Q E s := by
  (refine Mine.ex_3_3 (lines_row w) ?_; intro d n vs ho hl ha)
  exact line_at X ho h0 (by (first | lia | omega)) (by (first | lia | omega)) ha (fun v hv => by (refine Mine.ex_2_2 (hv) ?_; (try clear hv); intro b t eq2 hb; subst eq2); exact h b t hb) hs
theorem LineV.of {x : Array UInt8} {t : Tok} (h : x.toList ∈ menu) : LineV (.bytes x t) := ⟨x.toList, t, rfl, h⟩

end
/-! P1 -/
section
theorem findN_intro {d : List UInt8} {c : UInt8} {a e i : Nat} (h1 : a ≤ i) (h2 : i < e) (h3 : d[i]? = some c) (h4 : ∀ j, a ≤ j → j < i → d[j]? ≠ some c) : findN d c a e = some i := by
  unfold findN
  rw [List.find?_range'_eq_some]
  refine ⟨by rw [h3]; simp, by rw [List.mem_range'_1]; (first | lia | omega), fun j hj hji => ?_⟩
  have := h4 j hj hji
  simp [this]
theorem findN_empty {d : List UInt8} {c : UInt8} {a e : Nat} (h : ∀ j, a ≤ j → j < e → d[j]? ≠ some c) : findN d c a e = none := by
  cases hf : findN d c a e with
  | none => rfl
  | some i => have := findN_some hf; exact absurd this.2.2.1 (h i this.1 this.2.1)
theorem lineAt_cut {d : List UInt8} {a e e' : Nat} (h : (lineAt d a e).2 ≤ e') (he : e' ≤ e) : lineAt d a e' = lineAt d a e := by
  unfold lineAt at h ⊢
  cases hf : findN d 10 a e with
  | none =>
    rw [hf] at h
    dsimp only at h
    rw [show e' = e by (first | lia | omega), hf]
  | some i =>
    rw [hf] at h
    dsimp only at h
    have := findN_some hf
    rw [findN_intro this.1 (show i < e' by (first | lia | omega)) this.2.2.1 this.2.2.2]
theorem lineAt_self {d : List UInt8} {a e : Nat} : lineAt d a (lineAt d a e).1 = ((lineAt d a e).1, (lineAt d a e).1) := by
  have key : findN d 10 a (lineAt d a e).1 = none := by
    refine findN_empty fun j h1 h2 => ?_
    unfold lineAt at h2
    cases hf : findN d 10 a e with
    | none => rw [hf] at h2; exact findN_none hf j h1 h2
    | some i =>
      rw [hf] at h2
      have := findN_some hf
      refine this.2.2.2 j h1 ?_
      dsimp only at h2
      split at h2 <;> (first | lia | omega)
  rw [lineAt_none key]
theorem spans_ge {d : List UInt8} {e : Nat} : ∀ {n a : Nat}, e - a ≤ n → a ≤ e → ∀ x ∈ spansAt d e a, a ≤ x.1 ∧ x.1 ≤ x.2.1 ∧ x.2.1 ≤ e := by
  intro n
  induction n with
  | zero => intro a hn _ x hx; rw [spansAt_end (by (first | lia | omega))] at hx; exact nomatch hx
  | succ n ih =>
    intro a hn h x hx
    by_cases ha : a < e
    · have hl := lineAt_le (d := d) h
      have hlt := lineAt_lt (d := d) ha
      rw [spansAt_line ha] at hx
      rcases List.mem_cons.mp hx with rfl | hx
      · dsimp only; (first | lia | omega)
      · have := ih (a := (lineAt d a e).2) (by (first | lia | omega)) hl.2.2 x hx
        (first | lia | omega)
    · rw [spansAt_end (by (first | lia | omega))] at hx; exact nomatch hx
/-- cut at the end of a line -/
theorem Good.cut {d : List UInt8} {e a : Nat} (G : Good d e a) : a ≤ e → ∀ x ∈ spansAt d e a, Good d x.2.1 a := by
  induction G with
  | stop a h => intro _ x hx; rw [spansAt_end h] at hx; exact nomatch hx
  | line a h hm G ih =>
    intro hae x hx
    have hl := lineAt_le (d := d) hae
    have hlt := lineAt_lt (d := d) h
    rw [spansAt_line h] at hx
    rcases List.mem_cons.mp hx with rfl | hx
    · dsimp only
      by_cases h1 : a < (lineAt d a e).1
      · refine Good.line a h1 ?_ ?_
        · rw [lineAt_self]; exact hm
        · rw [lineAt_self]; exact Good.stop _ (Nat.le_refl _)
      · exact Good.stop _ (by (first | lia | omega))
    · have hx2 := spans_ge (d := d) (Nat.le_refl _) hl.2.2 x hx
      have hc : lineAt d a x.2.1 = lineAt d a e := lineAt_cut (by (first | lia | omega)) hx2.2.2
      refine Good.line a (by (first | lia | omega)) ?_ ?_
      · rw [hc]; exact hm
      · rw [hc]; exact ih hl.2.2 x hx
theorem Good.head {d : List UInt8} {e a : Nat} (G : Good d e a) : a ≤ e → Good d e (headAt d e a).2 := by
  induction G with
  | stop a h => intro _; rw [headAt_end h]; exact Good.stop _ (Nat.le_refl _)
  | line a h hm G ih =>
    intro hae
    have hl := lineAt_le (d := d) hae
    by_cases h1 : (lineAt d a e).1 = a
    · rw [headAt_blank h h1]; exact G
    · cases h2 : colonAt d a (lineAt d a e).1 with
      | none => rw [headAt_no h h1 h2]; exact Good.line a h hm G
      | some c => rw [headAt_field h h1 h2]; exact ih hl.2.2
noncomputable def SpanOk (d : List UInt8) (e : Nat) (z : Nat × Nat) : Prop := z.1 ≤ z.2 ∧ z.2 ≤ e ∧ Good d z.2 z.1
theorem parts_good {d b : List UInt8} {e y : Nat} (G : Good d e y) : y ≤ e → ∀ (begun : Option Nat) (before : Nat),
    (∀ g, begun = some g → g ≤ e ∧ Good d e g ∧ (before ≤ g ∨ (g ≤ before ∧ before ≤ e ∧ Good d before g)) ∧ ∀ x ∈ spansAt d e y, Good d x.2.1 g ∧ g ≤ x.2.1 ∧ x.2.1 ≤ e) →
    ∀ z ∈ partsGo d b e (spansAt d e y) begun before, SpanOk d e z := by
  induction G with
  | stop a h =>
    intro hae begun before inv z hz
    rw [spansAt_end h] at hz
    unfold partsGo at hz
    cases begun with
    | none => exact nomatch hz
    | some g =>
      have := inv g rfl
      simp only [endOf, List.mem_singleton] at hz
      subst hz
      exact ⟨this.1, Nat.le_refl _, this.2.1⟩
  | line a h hm G ih =>
    intro hae begun before inv z hz
    have hl := lineAt_le (d := d) hae
    have hlt := lineAt_lt (d := d) h
    rw [spansAt_line h] at hz inv
    unfold partsGo at hz
    split at hz
    · rcases List.mem_append.mp hz with hz | hz
      · cases begun with
        | none => exact nomatch hz
        | some g =>
          have := inv g rfl
          simp only [preOf, List.mem_singleton] at hz
          subst hz
          rcases this.2.2.1 with hb | hb
          · rw [Nat.max_eq_left hb]; exact ⟨Nat.le_refl _, this.1, Good.stop _ (Nat.le_refl _)⟩
          · rw [Nat.max_eq_right hb.1]; exact ⟨hb.1, hb.2.1, hb.2.2⟩
      · split at hz
        · exact nomatch hz
        · refine ih hl.2.2 _ _ (fun g hg => ?_) z hz
          obtain rfl := Option.some.inj hg
          exact ⟨hl.2.2, G, .inl hl.2.1, fun x hx => ⟨G.cut hl.2.2 x hx, by have := spans_ge (d := d) (Nat.le_refl _) hl.2.2 x hx; exact Nat.le_trans this.1 this.2.1, (spans_ge (d := d) (Nat.le_refl _) hl.2.2 x hx).2.2⟩⟩
    · refine ih hl.2.2 _ _ (fun g hg => ?_) z hz
      have := inv g hg
      have hx := this.2.2.2 _ (.head _)
      exact ⟨this.1, this.2.1, .inr ⟨hx.2.1, hx.2.2, hx.1⟩, fun x hx => this.2.2.2 x (.tail _ hx)⟩
theorem orEnd_ok {d : List UInt8} {e : Nat} {l : List (Nat × Nat)} (h : ∀ z ∈ l, SpanOk d e z) : ∀ z ∈ orEnd e l, SpanOk d e z := by
  unfold orEnd
  split
  · intro z hz
    rw [List.mem_singleton] at hz
    subst hz
    exact ⟨Nat.le_refl _, Nat.le_refl _, Good.stop _ (Nat.le_refl _)⟩
  · exact h
theorem zs_ok {d : List UInt8} {kd : KD} {e bo : Nat} (G : Good d e bo) (h : bo ≤ e) : ∀ z ∈ zsAt d kd bo e, SpanOk d e z := by
  have key : ∀ b, ∀ z ∈ partsGo d b e (spansAt d e bo) none bo, SpanOk d e z := fun b => parts_good G h none bo (fun g hg => nomatch hg)
  unfold zsAt
  split
  · intro z hz
    rw [List.mem_singleton] at hz
    subst hz
    exact ⟨Nat.le_refl _, Nat.le_refl _, Good.stop _ (Nat.le_refl _)⟩
  · split
    · exact orEnd_ok (key _)
    · exact orEnd_ok (key _)
/-- the field of a row -/
noncomputable def rowF (m : List UInt8) : Option FieldD := (colonAt m 0 m.length).map fun c => (m.take c, m.drop (c + 1))
theorem find_shift {d m : List UInt8} {c : UInt8} {a l : Nat} (hm : seg d a l = m) (hl : l ≤ d.length) (ha : a ≤ l) : findN d c a l = (findN m c 0 m.length).map (a + ·) := by
  have hlen : m.length = l - a := by rw [← hm]; exact seg_len' ha hl
  cases hf : findN m c 0 m.length with
  | none =>
    have h0 := findN_none hf
    refine findN_empty fun j h1 h2 hj => ?_
    refine h0 (j - a) (Nat.zero_le _) (by (first | lia | omega)) ?_
    rw [← hm, seg_get (by (first | lia | omega)), show a + (j - a) = j by (first | lia | omega)]
    exact hj
  | some i =>
    have h0 := findN_some hf
    have hg : ∀ j, j < m.length → m[j]? = d[a + j]? := fun j hj => by rw [← hm]; exact seg_get (by (first | lia | omega))
    refine findN_intro (Nat.le_add_right _ _) (show a + i < l by (first | lia | omega)) ?_ fun j h1 h2 => ?_
    · rw [← hg i h0.2.1]; exact h0.2.2.1
    · replace h2 : j < a + i := h2
      rw [show j = a + (j - a) by (first | lia | omega), ← hg (j - a) (by (first | lia | omega))]
      exact h0.2.2.2 (j - a) (Nat.zero_le _) (by (first | lia | omega))
theorem seg_fst {d m : List UInt8} {a l c : Nat} (hm : seg d a l = m) (hc : a + c ≤ l) : seg d a (a + c) = m.take c := by
  rw [← hm]
  unfold seg
  rw [List.take_take, show a + c - a = c by (first | lia | omega), Nat.min_eq_left (by (first | lia | omega))]
theorem seg_snd {d m : List UInt8} {a l c : Nat} (hm : seg d a l = m) : seg d (a + c + 1) l = m.drop (c + 1) := by
  rw [← hm]
  unfold seg
  rw [List.drop_take, List.drop_drop, show l - a - (c + 1) = l - (a + c + 1) by (first | lia | omega), show a + (c + 1) = a + c + 1 by (first | lia | omega)]
theorem colon_shift {d m : List UInt8} {a l : Nat} (hm : seg d a l = m) (hl : l ≤ d.length) (ha : a ≤ l) : colonAt d a l = (colonAt m 0 m.length).map (a + ·) := by
  have hlen : m.length = l - a := by rw [← hm]; exact seg_len' ha hl
  unfold colonAt
  rw [find_shift hm hl ha]
  cases hf : findN m 58 0 m.length with
  | none => rfl
  | some i =>
    have hi := findN_some hf
    have h1 : seg d a (a + i) = m.take i := seg_fst hm (by (first | lia | omega))
    have h2 : seg m 0 i = m.take i := by simp [seg]
    simp only [Option.map, Option.filter, h1, h2]
    cases isName (m.take i) <;> rfl
/-- the field of a row, in its place -/
theorem row_some {d m : List UInt8} {a l : Nat} {x : FieldD} (hm : seg d a l = m) (hl : l ≤ d.length) (ha : a ≤ l) (hx : rowF m = some x) : ∃ c, colonAt d a l = some c ∧ (seg d a c, seg d (c + 1) l) = x := by
  have hlen : m.length = l - a := by rw [← hm]; exact seg_len' ha hl
  unfold rowF at hx
  rw [Option.map_eq_some_iff] at hx
  (refine Mine.ex_1_2 (hx) ?_; (try clear hx); intro c hc eq2; subst eq2)
  have := colonAt_le hc
  exact ⟨a + c, by rw [colon_shift hm hl ha, hc]; rfl, by rw [seg_fst hm (by (first | lia | omega)), seg_snd hm]⟩
theorem row_none {d m : List UInt8} {a l : Nat} (hm : seg d a l = m) (hl : l ≤ d.length) (ha : a ≤ l) (hx : rowF m = none) : colonAt d a l = none := by
  unfold rowF at hx
  rw [Option.map_eq_none_iff] at hx
  rw [colon_shift hm hl ha, hx]; rfl
theorem rowF_some {d : List UInt8} {a l c : Nat} (hl : l ≤ d.length) (ha : a ≤ l) (h : colonAt d a l = some c) : rowF (seg d a l) = some (seg d a c, seg d (c + 1) l) := by
  cases hx : rowF (seg d a l) with
  | none => rw [row_none rfl hl ha hx] at h; exact nomatch h
  | some x =>
    (refine Mine.ex_1_2 (row_some rfl hl ha hx) ?_; intro c' h1 h2)
    rw [h] at h1
    obtain rfl := Option.some.inj h1
    rw [h2]
theorem fields_rows {d : List UInt8} {e a : Nat} (G : Good d e a) : a ≤ e → e ≤ d.length → ∀ x ∈ fieldsAt d e a, ∃ m ∈ menu, rowF m = some x := by
  induction G with
  | stop a h => intro _ _ x hx; unfold fieldsAt at hx; rw [headAt_end h] at hx; exact nomatch hx
  | line a h hm G ih =>
    intro hae he x hx
    have hl := lineAt_le (d := d) hae
    unfold fieldsAt at hx
    by_cases h1 : (lineAt d a e).1 = a
    · rw [headAt_blank h h1] at hx; exact nomatch hx
    · cases h2 : colonAt d a (lineAt d a e).1 with
      | none => rw [headAt_no h h1 h2] at hx; exact nomatch hx
      | some c =>
        rw [headAt_field h h1 h2] at hx
        simp only [List.map_cons, List.mem_cons] at hx
        rcases hx with rfl | hx
        · exact ⟨_, hm, rowF_some (by (first | lia | omega)) hl.1 h2⟩
        · exact ih hl.2.2 he x hx
theorem menu_ok : ∀ m ∈ menu, ∀ x, rowF m = some x → FOk x ∧ (lowN x.1 = ctW → isOct (bare x.2)) := by
  have h : menu.all (fun m => (rowF m).all fun x => decide (x.1.length ≤ 524288 ∧ x.2.length ≤ 524288 ∧ (10 : UInt8) ∉ x.2) && (decide (lowN x.1 ≠ ctW) || decide (bare x.2 = oK1 ∨ bare x.2 = oK2 ∨ bare x.2 = oK3 ∨ bare x.2 = oK4 ∨ bare x.2 = oK5))) = true := by decide +kernel
  intro m hm x hx
  have h1 := List.all_eq_true.mp h m hm
  rw [hx] at h1
  simp only [Option.all, Bool.and_eq_true, Bool.or_eq_true, decide_eq_true_eq] at h1
  exact ⟨h1.1, fun hl => h1.2.resolve_left (fun hn => hn hl)⟩
theorem first_some {q : List Nat} {l : List UInt8} : ∀ {fs : List FieldD}, firstBody fs q = some l → ∃ x ∈ fs, lowN x.1 = q ∧ l = bare x.2
  | [], h => nomatch h
  | x :: r, h => by
    unfold firstBody at h
    split at h
    · exact ⟨x, .head _, by assumption, (Option.some.inj h).symm⟩
    · (refine Mine.ex_1_2 (first_some h) ?_; intro y hy h2)
      exact ⟨y, .tail _ hy, h2⟩
theorem base_ok {d : List UInt8} {e a : Nat} (G : Good d e a) (hae : a ≤ e) (he : e ≤ d.length) : BaseF d a e := by
  refine ⟨hae, he, G, fun x hx => ?_, fun l hl => ?_⟩
  · (refine Mine.ex_1_2 (fields_rows G hae he x hx) ?_; intro m hm hx)
    exact (menu_ok m hm x hx).1
  · (refine Mine.ex_1_3 (first_some hl) ?_; intro x hx h1 eq3; subst eq3)
    (refine Mine.ex_1_2 (fields_rows G hae he x hx) ?_; intro m hm hx)
    exact (menu_ok m hm x hx).2 h1
theorem fine_ok {d : List UInt8} : ∀ {n e a : Nat} {dig : Bool}, Good d e a → a ≤ e → e ≤ d.length → Fine d n a e dig
  | 0, _, _, _, G, h, he => base_ok G h he
  | _ + 1, e, a, dig, G, h, he => by
    have hb := headAt_le (d := d) (Nat.le_refl (e - a)) h
    refine ⟨base_ok G h he, fun _ x hx => ?_, fun _ => fine_ok (G.head h) hb.2 he⟩
    have := zs_ok (G.head h) hb.2 x hx
    exact fine_ok this.2.2 this.1 (by have := this.2.1; (first | lia | omega))

end
/-! P2 -/
section
theorem get_mid {pre m rest : List UInt8} {j : Nat} (h : j < m.length) : (pre ++ (m ++ rest))[pre.length + j]? = m[j]? := by
  rw [List.getElem?_append_right (by (first | lia | omega)), List.getElem?_append_left (by (first | lia | omega))]
  congr 1
  (first | lia | omega)
theorem get_end {pre m rest : List UInt8} {x : UInt8} : (pre ++ (m ++ x :: rest))[pre.length + m.length]? = some x := by
  rw [List.getElem?_append_right (by (first | lia | omega)), List.getElem?_append_right (by (first | lia | omega))]
  simp
theorem seg_mid {pre m rest : List UInt8} : seg (pre ++ (m ++ rest)) pre.length (pre.length + m.length) = m := by
  unfold seg
  simp
theorem find_mid {pre m rest : List UInt8} (h : (10 : UInt8) ∉ m) : findN (pre ++ (m ++ 10 :: rest)) 10 pre.length (pre ++ (m ++ 10 :: rest)).length = some (pre.length + m.length) := by
  refine findN_intro (Nat.le_add_right _ _) (by simp) get_end fun j h1 h2 hj => ?_
  rw [show j = pre.length + (j - pre.length) by (first | lia | omega), get_mid (by (first | lia | omega))] at hj
  exact h (List.mem_of_getElem? hj)
theorem line_lf {pre m rest : List UInt8} (h : (10 : UInt8) ∉ m) (h2 : (13 : UInt8) ∉ m) : lineAt (pre ++ (m ++ 10 :: rest)) pre.length (pre ++ (m ++ 10 :: rest)).length = (pre.length + m.length, pre.length + m.length + 1) := by
  unfold lineAt
  rw [find_mid h]
  dsimp only
  rw [if_neg]
  rintro ⟨h3, h4⟩
  have hj := get_mid (pre := pre) (m := m) (rest := 10 :: rest) (j := m.length - 1) (by (first | lia | omega))
  rw [show pre.length + (m.length - 1) = pre.length + m.length - 1 by (first | lia | omega)] at hj
  rw [List.getD_eq_getElem?_getD, hj] at h4
  cases hm : m[m.length - 1]? with
  | none => rw [List.getElem?_eq_none_iff] at hm; (first | lia | omega)
  | some x =>
    rw [hm] at h4
    have h4 : x = 13 := h4
    rw [h4] at hm
    exact h2 (List.mem_of_getElem? hm)
theorem line_crlf {pre m rest : List UInt8} (h : (10 : UInt8) ∉ m) : lineAt (pre ++ (m ++ 13 :: 10 :: rest)) pre.length (pre ++ (m ++ 13 :: 10 :: rest)).length = (pre.length + m.length, pre.length + m.length + 2) := by
  have e : pre ++ (m ++ 13 :: 10 :: rest) = pre ++ ((m ++ [13]) ++ 10 :: rest) := by simp
  have hf := find_mid (pre := pre) (m := m ++ [13]) (rest := rest) (by simp [h])
  rw [← e] at hf
  unfold lineAt
  rw [hf]
  dsimp only
  rw [List.length_append, List.length_singleton, if_pos]
  · congr 1
  · refine ⟨by (first | lia | omega), ?_⟩
    rw [show pre.length + (m.length + 1) - 1 = pre.length + m.length by (first | lia | omega), List.getD_eq_getElem?_getD, get_end]
    rfl
theorem menu_clean : ∀ m ∈ menu, (10 : UInt8) ∉ m ∧ (13 : UInt8) ∉ m := by
  have h : menu.all (fun m => decide ((10 : UInt8) ∉ m ∧ (13 : UInt8) ∉ m)) = true := by decide +kernel
  intro m hm
  exact of_decide_eq_true (List.all_eq_true.mp h m hm)
theorem good_rows : ∀ (rs : List (List UInt8)) (pre tail : List UInt8), (∀ r ∈ rs, IsRow r) → tail ∈ menu → Good (pre ++ (rs.flatten ++ tail)) (pre ++ (rs.flatten ++ tail)).length pre.length
  | [], pre, tail, _, ht => by
    rw [List.flatten_nil, List.nil_append]
    cases htl : tail with
    | nil => exact Good.stop _ (by simp)
    | cons c r =>
      rw [← htl]
      have h0 : 0 < tail.length := by rw [htl]; simp
      have hf : findN (pre ++ tail) 10 pre.length (pre ++ tail).length = none := by
        refine findN_empty fun j h1 h2 hj => ?_
        rw [List.length_append] at h2
        have hj' := hj
        rw [List.getElem?_append_right h1] at hj'
        exact (menu_clean tail ht).1 (List.mem_of_getElem? hj')
      have hl := lineAt_none hf
      refine Good.line _ (by rw [List.length_append]; (first | lia | omega)) ?_ ?_
      · rw [hl]
        have := seg_mid (pre := pre) (m := tail) (rest := [])
        rw [List.append_nil] at this
        rw [List.length_append, this]
        exact ht
      · rw [hl]; exact Good.stop _ (Nat.le_refl _)
  | r :: rs, pre, tail, hr, ht => by
    (refine Mine.ex_1_2 (hr r (.head _)) ?_; intro m hm hrm)
    have hc := menu_clean m hm
    have ih := good_rows rs (pre ++ r) tail (fun x hx => hr x (.tail _ hx)) ht
    rcases hrm with rfl | rfl
    · have e : pre ++ (((m ++ [10]) :: rs).flatten ++ tail) = pre ++ (m ++ 10 :: (rs.flatten ++ tail)) := by simp
      have e2 : pre ++ (m ++ [10]) ++ (rs.flatten ++ tail) = pre ++ (m ++ 10 :: (rs.flatten ++ tail)) := by simp [List.append_assoc]
      rw [e2] at ih
      rw [e]
      refine Good.line _ (by simp; (first | lia | omega)) ?_ ?_
      · rw [line_lf hc.1 hc.2]; dsimp only; rw [seg_mid]; exact hm
      · rw [line_lf hc.1 hc.2]; dsimp only; rw [show pre.length + m.length + 1 = (pre ++ (m ++ [10])).length by simp; (first | lia | omega)]; exact ih
    · have e : pre ++ (((m ++ [13, 10]) :: rs).flatten ++ tail) = pre ++ (m ++ 13 :: 10 :: (rs.flatten ++ tail)) := by simp
      have e2 : pre ++ (m ++ [13, 10]) ++ (rs.flatten ++ tail) = pre ++ (m ++ 13 :: 10 :: (rs.flatten ++ tail)) := by simp
      rw [e2] at ih
      rw [e]
      refine Good.line _ (by simp; (first | lia | omega)) ?_ ?_
      · rw [line_crlf hc.1]; dsimp only; rw [seg_mid]; exact hm
      · rw [line_crlf hc.1]; dsimp only; rw [show pre.length + m.length + 2 = (pre ++ (m ++ [13, 10])).length by simp; (first | lia | omega)]; exact ih
theorem good_all {rs : List (List UInt8)} {tail : List UInt8} (h : ∀ r ∈ rs, IsRow r) (ht : tail ∈ menu) : Good (rs.flatten ++ tail) (rs.flatten ++ tail).length 0 := good_rows rs [] tail h ht
theorem nil_menu : ([] : List UInt8) ∈ menu := by decide +kernel
theorem good_flat {rs : List (List UInt8)} (h : ∀ r ∈ rs, IsRow r) : Good rs.flatten rs.flatten.length 0 := by
  have := good_all (tail := []) h nil_menu
  rw [List.append_nil] at this
  exact this
theorem last_row {r : List UInt8} (h : IsRow r) : r.getLast? = some 10 := by
  obtain ⟨m, _, rfl | rfl⟩ := h <;> simp
theorem last_rows : ∀ {rs : List (List UInt8)}, (∀ r ∈ rs, IsRow r) → rs.flatten.getLast? = none ∨ rs.flatten.getLast? = some 10
  | [], _ => .inl rfl
  | r :: rs, h => by
    rw [List.flatten_cons, List.getLast?_append, last_row (h r (.head _))]
    rcases last_rows (rs := rs) (fun x hx => h x (.tail _ hx)) with h1 | h1 <;> rw [h1] <;> exact .inr rfl
/-- the data less its last end of a line -/
noncomputable def cutEnd (x : List UInt8) : List UInt8 := if x.drop (x.length - 2) = [13, 10] then x.take (x.length - 2) else x.take (x.length - 1)
theorem good_cut {rs : List (List UInt8)} (h : ∀ r ∈ rs, IsRow r) : Good (cutEnd rs.flatten) (cutEnd rs.flatten).length 0 := by
  rcases List.eq_nil_or_concat rs with rfl | ⟨rs', r, rfl⟩
  · have : cutEnd ([] : List (List UInt8)).flatten = [] := by decide
    rw [this]
    exact Good.stop _ (Nat.le_refl _)
  · have h1 : ∀ x ∈ rs', IsRow x := fun x hx => h x (by simp [hx])
    (refine Mine.ex_1_2 (h r (by simp)) ?_; intro m hm hr)
    have hc := menu_clean m hm
    have key : cutEnd (rs'.concat r).flatten = rs'.flatten ++ m := by
      rcases hr with rfl | rfl
      · have e : (rs'.concat (m ++ [10])).flatten = (rs'.flatten ++ m) ++ [10] := by simp
        rw [e]
        unfold cutEnd
        rw [if_neg, List.length_append, List.length_singleton, Nat.add_sub_cancel, List.take_left']
        · rfl
        · intro hd
          have h2 := List.take_append_drop (((rs'.flatten ++ m) ++ [10]).length - 2) ((rs'.flatten ++ m) ++ [10])
          rw [hd] at h2
          have h3 : (List.take (((rs'.flatten ++ m) ++ [10]).length - 2) ((rs'.flatten ++ m) ++ [10]) ++ [13]) ++ [10] = (rs'.flatten ++ m) ++ [10] := by rw [List.append_assoc]; exact h2
          have h4 := List.append_cancel_right h3
          have h5 : (rs'.flatten ++ m).getLast? = some 13 := by rw [← h4]; simp
          rw [List.getLast?_append] at h5
          cases hl : m.getLast? with
          | some x =>
            rw [hl] at h5
            have h5 : x = 13 := by simpa using h5
            exact hc.2 (h5 ▸ List.mem_of_getLast? hl)
          | none =>
            rw [hl] at h5
            rcases last_rows h1 with h6 | h6 <;> rw [h6] at h5 <;> simp at h5
      · have e : (rs'.concat (m ++ [13, 10])).flatten = (rs'.flatten ++ m) ++ [13, 10] := by simp
        rw [e]
        unfold cutEnd
        have hl : ((rs'.flatten ++ m) ++ [13, 10]).length - 2 = (rs'.flatten ++ m).length := by rw [List.length_append]; rfl
        rw [hl, List.drop_left', if_pos rfl, List.take_left']
        · rfl
        · rfl
    rw [key]
    exact good_all h1 hm
/-- what the law reads -/
noncomputable def DataOk (d : List UInt8) : Prop := d.length ≤ 100000 ∧ ∃ rs : List (List UInt8), (∀ r ∈ rs, IsRow r) ∧ (d = rs.flatten ∨ d = cutEnd rs.flatten)
theorem DataOk.good {d : List UInt8} (h : DataOk d) : Good d d.length 0 := by
  obtain ⟨_, rs, hr, rfl | rfl⟩ := h
  · exact good_flat hr
  · exact good_cut hr
theorem rep_flat (m : List UInt8) : ∀ n, (List.replicate n m).flatten = (List.replicate n [m]).flatten.flatten
  | 0 => rfl
  | n + 1 => by rw [List.replicate_succ, List.flatten_cons, rep_flat m n, List.replicate_succ, List.flatten_cons, List.flatten_append]; simp

end
/-! F2 -/
section
open PyProof.V PySem.Spec PyProof.Rows.LCg PyProof.Rows.LCt
theorem reg_48 : True := by
  k_with "my call ref" => (((fail_if_success (fail_if_success (have z9 := hsF2))); ((k_here; (with_reducible show wpAny _ _ (call (Value.ref 632) _) _ _ _); (try walk_at "m_fold"); k_dflt (refine' CtrM.useS ?k0ₘ ?k1ₘ ?k2ₘ ?k3ₘ ?k4ₘ ?k5ₘ ?kKₘ ?kdₘ ?kuₘ ?_; (case k1ₘ => k_asm); (case k2ₘ => k_asm); (case k3ₘ => k_asm); (case k4ₘ => k_asm); (case k5ₘ => k_asm); (case k0ₘ => first | exact (draw_gen _ _ c cz ns _ nc _ _ _ _ _ hne h40 hi (by decide) (by walk_at "m_om") (by k_mem) (by walk_at "m_off")) | exact (draw_gen2 _ _ c cz ns _ nc _ _ _ _ _ _ hne h40 hi (by decide) (by walk_at "m_om") (by k_mem) (by walk_at "m_off")) | exact (draw_gen3 _ _ c cz ns _ nc _ _ _ _ _ _ _ hne h40 hi (by decide) (by walk_at "m_om") (by first | assumption | k_mem) (by walk_at "m_off"))); (case kKₘ => first | exact rfl | assumption); (case kdₘ => ktr_room); (case kuₘ => ktr_units); k_whole); intro r9 all9 h9 tk9 F9 N9 ho9; (refine Mine.ex_4_3 (ho9) ?_; (try clear ho9); intro x9 t8 t9 n9 hx9 e8 hs9); subst e8; replace N9 := Mine.news_sub N9 hs9; clear hs9; (try k_unfold); (try dsimp only); (try walk_at "m_fold")))))
  trivial
theorem tup_any {prog : Program} {w : World} {A : Around} {E : Value → Shared → Prop} {s : Shared} {h₀ : Heap} {L D : Addr} {news : List (Addr × Obj)} {value slice : PySem.Expr} {vs : List Value} {n x : Nat} {u : Tok} {P : Value → Prop} {Q : Value → Shared → Prop} (N : News h₀ L s.heap news) (hm : (D, ({ cls := .type "tuple", data := .seq vs.toArray n } : Obj)) ∈ news) (hx : x < vs.length) (hl : vs.length ≤ 1000) (hall : ∀ v ∈ vs, P v) (h : ∀ v, P v → Q v s)
    (hs : noSl slice = true := by rfl) :
    wpAny (model prog w) A (subscriptTail value slice (.ref D) (.int (x : Int) u)) Q E s := by
  have hi : seqIndex? (x : Int) vs.length = some x := by
    unfold seqIndex?
    simp
    (first | lia | omega)
  exact item_tupleT (News.isTup N hm) (by (first | lia | omega)) (by (first | lia | omega)) hi (List.getElem?_eq_getElem hx) (h _ (hall _ (List.getElem_mem hx))) (ix_plain hs)
theorem data_pack {h₀ h : Heap} {L T0 D c : Addr} {a1 b1 y : Addr × Obj} {o : Obj} {rest : List (Addr × Obj)} (N : News h₀ L h (a1 :: b1 :: y :: (c, o) :: rest)) (hy : @Ne Nat y.1 T0) (hcT : @Ne Nat c T0) (off : ∀ p ∈ rest, p.1 ≠ T0) (l : AllLt D (y :: (c, o) :: rest)) :
    ∃ R, (c, o) ∈ R ∧ (∀ p ∈ R, p.1 ≠ T0) ∧ AllLt D R ∧ (∀ p ∈ rest, p ∈ R) ∧ News h₀ L h (a1 :: b1 :: R) :=
  ⟨y :: (c, o) :: rest, .tail _ (.head _), off_cons hy (off_cons hcT off), l, fun _ h => .tail _ (.tail _ h), N⟩
theorem sub10 {x : Nat} (h : ¬ (x : Int) < 10) : 0 ≤ (x : Int) - 10 := by (first | lia | omega)
theorem sub12 {x : Nat} (h : x < 22) : (x : Int) - 10 < 12 := by (first | lia | omega)
theorem row_sz {a b n : Nat} (h : a ≤ 60) (hb : b ≤ n) (hn : 60 + n ≤ 16777216) : a + b ≤ 16777216 := by (first | lia | omega)
theorem tot_sz {b l : List UInt8} {k : Nat} (hk : k ≤ 21) (hb : b.length ≤ 100) (hl : l.length ≤ 1000) : (List.replicate k b).flatten.length + l.length ≤ 16777216 := by
  have h1 : (List.replicate k b).flatten.length = k * b.length := by simp
  have h2 : k * b.length ≤ 21 * 100 := Nat.mul_le_mul hk hb
  (first | lia | omega)
noncomputable def Small21 (v : Value) : Prop := ∃ (k : Nat) (t : Tok), v = .int (k : Int) t ∧ k ≤ 21
theorem small_of {k : Int} {t : Tok} (h0 : 0 ≤ k) (h : k ≤ 21) : Small21 (.int k t) := ⟨k.toNat, t, by rw [Int.toNat_of_nonneg h0], by (first | lia | omega)⟩
theorem reg_49 : True := by
  k_with "my subscriptTail" => (((fail_if_success (fail_if_success (have z9 := hsF2))); ((k_here; (with_reducible show wpAny _ _ (subscriptTail _ _ (Value.ref _) (Value.int _ _)) _ _ _); k_dflt (refine' Mine.tup_any (P := Small21) ?Nₘ ?mₘ ?xₘ ?lₘ ?aₘ ?_ ?hsₘ; (case Nₘ => k_asm); (case mₘ => k_mem); (case xₘ => exact hx9); (case lₘ => exact Nat.le_of_ble_eq_true rfl); (case aₘ => ((repeat refine List.forall_mem_cons.mpr ⟨Mine.small_of (by decide) (by decide), ?_⟩); exact List.forall_mem_nil _)); (case hsₘ => rfl); k_whole); rintro _ ⟨many, tm, rfl, hmany⟩))))
  k_with "my subscriptTail" => (((fail_if_success (fail_if_success (have z9 := hsF2))); ((k_here; (with_reducible show wpAny _ _ (subscriptTail _ _ (Value.ref 624) (Value.int _ _)) _ _ _); k_dflt (refine' Mine.const_at (P := HeadV w) ?Xₘ ?oₘ ?xₘ ?lₘ ?aₘ ?_ ?hsₘ; (case Xₘ => k_in); (case oₘ => k_is); (case xₘ => (show _ < 10; (first | lia | omega))); (case lₘ => exact Nat.le_of_ble_eq_true rfl); (case aₘ => exact heads_all w); (case hsₘ => rfl); k_whole); rintro _ ⟨pr, dr, nr, br, tr, restr, rfl, hpr, hbr⟩; have hbl := menu_len _ hbr))))
  k_with "my subscriptTail" => (((fail_if_success (fail_if_success (have z9 := hsF2))); ((k_here; (with_reducible show wpAny _ _ (subscriptTail _ _ (Value.ref 625) (Value.int _ _)) _ _ _); (with_reducible rename ¬ ((_ : Int) < 10) => hge9); k_dflt (refine' Mine.at_625 ?Xₘ ?zₘ ?xₘ ?_ ?hsₘ; (case Xₘ => k_in); (case zₘ => exact Mine.sub10 hge9); (case xₘ => exact Mine.sub12 hx9); (case hsₘ => rfl); k_whole); intro br tr hbr; have hbl := menu_len _ hbr; clear hge9))))
  k_with "my binaryOp Add bytes bytes" => (((fail_if_success (fail_if_success (have z9 := hsF2))); ((k_here; k_dflt (refine' Mine.add_B ?zₘ ?_; (case zₘ => first | exact Mine.row_sz hbl (Nat.le_refl _) (Nat.le_of_ble_eq_true rfl) | exact Mine.tot_sz hmany (Nat.le_of_ble_eq_true rfl) hfl); k_whole); intro _ _))))
  k_with "my subscriptTail" => (((fail_if_success (fail_if_success (have z9 := hsF2))); ((k_here; (with_reducible show wpAny _ _ (subscriptTail _ _ (Value.ref pr) (Value.int 0 _)) _ _ _); k_dflt (refine' Mine.const_0 ?Xₘ hpr ?_ ?hsₘ; (case Xₘ => k_in); (case hsₘ => rfl); k_whole)))))
  k_with "my binaryOp Mult bytes int" => (((fail_if_success (fail_if_success (have z9 := hsF2))); ((k_here; k_dflt (refine' Mine.mul_B ?bₘ ?h1ₘ ?h2ₘ ?_; (case bₘ => exact List.cons_ne_nil _ _); (case h1ₘ => (first | lia | omega)); (case h2ₘ => exact Nat.le_of_ble_eq_true rfl); k_whole); intro _ _))))
  trivial
theorem flat_len : ∀ {l : List (List UInt8)}, (∀ r ∈ l, IsRow r) → l.flatten.length ≤ 62 * l.length
  | [], _ => Nat.zero_le _
  | r :: l, h => by
    have h1 := flat_len (l := l) fun x hx => h x (.tail _ hx)
    have h2 : r.length ≤ 62 := by
      (refine Mine.ex_1_2 (h r (.head _)) ?_; intro m hm hr)
      have := menu_len m hm
      rcases hr with rfl | rfl <;> simp <;> (first | lia | omega)
    rw [List.flatten_cons, List.length_append, List.length_cons]
    (first | lia | omega)
noncomputable abbrev rfcB : List UInt8 := [67, 111, 110, 116, 101, 110, 116, 45, 84, 121, 112, 101, 58, 32, 109, 101, 115, 115, 97, 103, 101, 47, 114, 102, 99, 56, 50, 50, 13, 10, 13, 10]
theorem data_sz {l : List UInt8} {k : Nat} (hk : k ≤ 21) (hl : l.length ≤ 1000) : ((List.replicate k rfcB).flatten ++ l).length ≤ 16777216 := by
  rw [List.length_append]
  exact tot_sz hk (Nat.le_of_ble_eq_true rfl) hl
theorem data_rows {done : List (List UInt8)} (k : Nat) (hk : k ≤ 21) (hrows : ∀ r ∈ done, IsRow r) (hlen : done.length ≤ 15) :
    DataOk ((List.replicate k rfcB).flatten ++ done.flatten) ∧
    ((((List.replicate k rfcB).flatten ++ done.flatten).drop (((List.replicate k rfcB).flatten ++ done.flatten).length - 2) == [13, 10]) = true → DataOk (((List.replicate k rfcB).flatten ++ done.flatten).take (((List.replicate k rfcB).flatten ++ done.flatten).length - 2))) ∧
    ((((List.replicate k rfcB).flatten ++ done.flatten).drop (((List.replicate k rfcB).flatten ++ done.flatten).length - 2) == [13, 10]) = false → DataOk (((List.replicate k rfcB).flatten ++ done.flatten).take (((List.replicate k rfcB).flatten ++ done.flatten).length - 1))) := by
  have h1 : IsRow (oct "Content-Type: message/rfc822" ++ [13, 10]) := ⟨_, by decide +kernel, .inr rfl⟩
  have h2 : IsRow ([] ++ [13, 10]) := ⟨[], nil_menu, .inr rfl⟩
  have e0 : rfcB = [oct "Content-Type: message/rfc822" ++ [13, 10], [] ++ [13, 10]].flatten := by decide +kernel
  have e1 : ∀ n, (List.replicate n rfcB).flatten = (List.replicate n [oct "Content-Type: message/rfc822" ++ [13, 10], [] ++ [13, 10]]).flatten.flatten := by
    intro n
    induction n with
    | zero => rfl
    | succ n ih => rw [List.replicate_succ, List.flatten_cons, ih, List.replicate_succ, List.flatten_cons, List.flatten_append, ← e0]
  have e2 : (List.replicate k rfcB).flatten ++ done.flatten = ((List.replicate k [oct "Content-Type: message/rfc822" ++ [13, 10], [] ++ [13, 10]]).flatten ++ done).flatten := by rw [List.flatten_append, e1]
  have hz : ((List.replicate k rfcB).flatten ++ done.flatten).length ≤ 100000 := by
    have h3 : (List.replicate k rfcB).flatten.length = k * rfcB.length := by simp
    have h4 : k * rfcB.length ≤ 21 * rfcB.length := Nat.mul_le_mul_right _ hk
    have h5 : rfcB.length = 32 := rfl
    have h6 := flat_len hrows
    rw [List.length_append]
    (first | lia | omega)
  have hr : ∀ r ∈ (List.replicate k [oct "Content-Type: message/rfc822" ++ [13, 10], [] ++ [13, 10]]).flatten ++ done, IsRow r := by
    intro r hr
    rcases List.mem_append.mp hr with hr | hr
    · (refine Mine.ex_1_2 (List.mem_flatten.mp hr) ?_; intro l hl hrl)
      rw [(List.mem_replicate.mp hl).2] at hrl
      simp only [List.mem_cons, List.not_mem_nil, or_false] at hrl
      rcases hrl with rfl | rfl
      · exact h1
      · exact h2
    · exact hrows r hr
  generalize (List.replicate k rfcB).flatten ++ done.flatten = X at *
  refine ⟨⟨hz, _, hr, .inl e2⟩, fun h => ⟨by rw [List.length_take]; (first | lia | omega), _, hr, .inr ?_⟩, fun h => ⟨by rw [List.length_take]; (first | lia | omega), _, hr, .inr ?_⟩⟩
  · rw [← e2]
    unfold cutEnd
    rw [if_pos (eq_of_beq h)]
  · rw [← e2]
    unfold cutEnd
    rw [if_neg (fun e => by rw [e] at h; exact absurd h (by decide))]
theorem data_next {g h' : Heap} {L I Dr T0 c : Addr} {oI : Obj} {R : List (Addr × Obj)} {m₀ m' : Str → Option Value} {s₁ : Shared} {Q : Flow → Shared → Prop} {xs : List Str} {tk' : Tok} {at0 at1 i n1 n9 : Nat} {t9 t5 : Tok} {ys : List Value} {done : List (List UInt8)} {br r : List UInt8} {o1 o2 : Obj}
    (F : Fr g L h' m') (N : News g L h' ((T0, listOf #[.ref c, .int ((at1 + 1 : Nat) : Int) t9] n9) :: (I, oI) :: (Dr, listOf (ys ++ [Value.bytes r.toArray t5]).toArray (n1 + 1)) :: R))
    (hDI : @Ne Nat Dr I) (hTI : @Ne Nat T0 I) (off : ∀ p ∈ (Dr, o1) :: (T0, o2) :: R, p.1 ≠ I) (k : FrOk xs [] m₀ m') (hat : at1 = at0 + 3 + i) (two : Two BytesV ys done) (hlen : done.length = i) (hrows : ∀ r ∈ done, IsRow r) (hbr : br ∈ menu) (hr : r = br ++ [10] ∨ r = br ++ [13, 10]) :
    ForPostS (σ := DS) g L I oI (fun c₁ => (Dr, listOf c₁.ys.toArray c₁.n) :: (T0, listOf #[.ref c, .int (c₁.at1 : Int) c₁.ta] c₁.nn) :: R) (fun _ => []) xs m₀ (fun c₁ => c₁.at1 = at0 + 3 + (i + 1) ∧ Two BytesV c₁.ys c₁.done ∧ c₁.done.length = i + 1 ∧ ∀ r ∈ c₁.done, IsRow r) s₁ Q .next { s₁ with heap := h', toks := tk' } := by
  refine ForPostS.next (⟨done ++ [r], ys ++ [Value.bytes r.toArray t5], n1 + 1, at1 + 1, t9, n9⟩ : DS) F N ?_ (off_cons hDI (off_cons hTI fun p hp => off p (.tail _ (.tail _ hp)))) k ⟨?_, ?_, ?_, ?_⟩
  · intro p hp
    simp only [List.mem_cons] at hp ⊢
    rcases hp with h | h | h | h <;> simp [h]
  · dsimp only; (first | lia | omega)
  · exact two.snoc ⟨t5, rfl⟩
  · dsimp only; rw [List.length_append, List.length_singleton, hlen]
  · intro x hx
    rcases List.mem_append.mp hx with hx | hx
    · exact hrows x hx
    · rw [List.mem_singleton.mp hx]; exact ⟨br, hbr, hr⟩
set_option maxHeartbeats 2000000 in
theorem data_ok (w : World) (T0 c : Addr) (cz : List Value) (ns : List Int) (n nc at0 : Nat) (hat : at0 ≤ 10) (ta : Tok) (rest : List (Addr × Obj)) (hne : 0 < cz.length) (h40 : cz.length ≤ 40) (hi : IntsAre cz ns) (hTc : @Ne Nat T0 c) (off : ∀ p ∈ rest, p.1 ≠ T0) :
    CtrM w 639 8 [.ref T0] ((T0, listOf #[.ref c, .int ((at0 : Nat) : Int) ta] n) :: (c, listOf cz.toArray nc) :: rest) (fun _ r => ∃ d t, r = .bytes d.toArray t ∧ DataOk d) := by
  have hsF2 : True := trivial
  have hLoops : True := trivial
  unfold CtrM
  intro prog dp un gd cn cs aF ccd cl outer A₀ base h₀ L m s loose mean mg mb Q E B F X N T hk hdp hu hret
  refine wpAny_call ?_
  k_dflt (refine' code_def (binds := [(Str.ofString "tape", .ref T0)]) ?k1 ?k2 ?k3 ?k4 ?k5 ?kA ?kF ?kK ?k6 ?k7 ?k8 ?k9 ?kB ?_ ?c2 ?c3 ?c4 ?c5; (case kA => exact rfl); (case kF => exact rfl); (case kK => assumption); (case k1 => exact B); (case k2 => exact F); (case k3 => exact X); (case k4 => exact N); (case k5 => exact T); (case k6 => k_is); (case k7 => k_is); (case k8 => ktr_room); (case k9 => first | exact BindsTo.of_eq rfl | exact binds_K (Frag.In.keeps X F.keep) rfl (by k_is) rfl rfl rfl); (case c5 => decide); (case kB => exact locs rfl); (case c2 => exact rfl); (case c3 => exact rfl); (case c4 => exact rfl); k_whole; intro g L₁ h₁ FG F₁ N₁ B₁ X₁ T₁; (try dsimp only); (try walk_at "m_fold"))
  replace F₁ : Fr g L₁ h₁ (fun y => List.lookup y [(Str.ofString "tape", .ref T0)]) := F₁
  k_steps
  unfold Stop
  rename Fr _ _ _ _ => Fw
  rename News _ _ _ _ => Nw
  rename IsRange _ _ _ _ _ _ _ _ => hr
  rename_i _ _ _ cnt _ _ _ hcnt _ _ _ _ Dr _ lr _ _ _ _ _ _ _ _ _ _
  (try walk_at "m_fold")
  (refine Mine.ex_1_5 (data_pack (T0 := T0) (D := Dr) Nw (by k_ne) (by k_ne) off lr.2) ?_; intro R hcR offR lR hrR Nw)
  have hDT : @Ne Nat Dr T0 := Nat.ne_of_gt lr.1
  have hcnt' : cnt < 15 := hcnt
  refine for_range_st (σ := DS) (n := cnt) (fun c₁ => (Dr, listOf c₁.ys.toArray c₁.n) :: (T0, listOf #[.ref c, .int (c₁.at1 : Int) c₁.ta] c₁.nn) :: R) (fun _ => []) [Str.ofString "drawn", Str.ofString "row"]
    (fun i c₁ => c₁.at1 = at0 + 3 + i ∧ Two BytesV c₁.ys c₁.done ∧ c₁.done.length = i ∧ ∀ r ∈ c₁.done, IsRow r) ⟨[], [], 0, at0 + 1 + 1 + 1, t9, n9⟩ rfl hr (by (first | lia | omega)) Fw Nw (by walk_at "m_all") ⟨rfl, .nil, rfl, fun _ h => nomatch h⟩ ?_ ?_
  · clear Fw Nw
    rintro i ⟨done, ys, n1, at1, ta1, nn⟩ u₁ u I oI h tk hic ⟨hat1, two, hlen, hrows⟩ off1 F₂ N₂
    dsimp only at hat1 two hlen hrows off1 F₂ N₂ ⊢
    have hTI : @Ne Nat T0 I := off1 _ (.tail _ (.head _))
    have hDI : @Ne Nat Dr I := off1 _ (.head _)
    have hys : ys.length ≤ 15 := by rw [two.length, hlen]; (first | lia | omega)
    dsimp only [frB] at F₂
    k_steps
    all_goals (rename News _ _ _ _ => Nx; rw [List.push_toArray] at Nx)
    · exact data_next (by k_asm) Nx hDI hTI off1 (by walk_at "m_frok") hat1 two hlen hrows hbr (.inl rfl)
    all_goals (first
      | exact data_next (by k_asm) Nx hDI hTI off1 (by walk_at "m_frok") hat1 two hlen hrows hbr (.inl rfl)
      | exact data_next (by k_asm) Nx hDI hTI off1 (by walk_at "m_frok") hat1 two hlen hrows hbr (.inr rfl))
  · clear Fw Nw
    rintro ⟨done, ys, n1, at1, ta1, nn⟩ u h tk ⟨hat1, two, hlen, hrows⟩ F₂ N₂
    dsimp only at hat1 two hlen hrows F₂ N₂ ⊢
    dsimp only [frB] at F₂
    have hys : ys.length ≤ 15 := by rw [two.length, hlen]; (first | lia | omega)
    have two' : Octs ys done := two
    have hfl : done.flatten.length ≤ 1000 := by
      have := flat_len hrows
      (first | lia | omega)
    have hdat := data_sz hmany hfl
    have hdo := data_rows many hmany hrows (by (first | lia | omega))
    k_steps
    · refine hret _ _ _ _ (by k_asm) (by k_asm) ⟨_, _, rfl, ?_⟩
      exact hdo.2.1 (by assumption)
    · refine hret _ _ _ _ (by k_asm) (by k_asm) ⟨_, _, rfl, ?_⟩
      exact hdo.2.2 (by assumption)
    · exact hret _ _ _ _ (by k_asm) (by k_asm) ⟨_, _, rfl, hdo.1⟩

end
/-! P3 -/
section
theorem enc_menu : ∀ m ∈ menu, ∀ x, rowF m = some x → lowN x.1 = cteW → encW (bare x.2) = "base64".toList.map Char.toNat ∨ encW (bare x.2) = "8bit".toList.map Char.toNat ∨ encW (bare x.2) = [] := by
  have h : menu.all (fun m => (rowF m).all fun x => (decide (lowN x.1 ≠ cteW) || decide (encW (bare x.2) = "base64".toList.map Char.toNat ∨ encW (bare x.2) = "8bit".toList.map Char.toNat ∨ encW (bare x.2) = []))) = true := by decide +kernel
  intro m hm x hx hl
  have h1 := List.all_eq_true.mp h m hm
  rw [hx] at h1
  simp only [Option.all, Bool.or_eq_true, decide_eq_true_eq] at h1
  exact h1.resolve_left (fun hn => hn hl)
noncomputable def Rowed (fs : List FieldD) : Prop := ∀ x ∈ fs, ∃ m ∈ menu, rowF m = some x
theorem enc_three {fs : List FieldD} (h : Rowed fs) : encOf fs = "base64".toList.map Char.toNat ∨ encOf fs = "8bit".toList.map Char.toNat ∨ encOf fs = "7bit".toList.map Char.toNat := by
  unfold encOf
  cases hb : firstBody fs cteW with
  | none => exact .inr (.inr rfl)
  | some b =>
    (refine Mine.ex_1_3 (first_some hb) ?_; intro x hx h1 eq3; subst eq3)
    (refine Mine.ex_1_2 (h x hx) ?_; intro m hm hr)
    dsimp only
    rcases enc_menu m hm x hr h1 with h2 | h2 | h2
    · rw [h2]; exact .inl rfl
    · rw [h2]; exact .inr (.inl rfl)
    · rw [if_pos h2]; exact .inr (.inr rfl)
theorem kind_shape {kd : KD} (h : SixK kd) : (kindD kd).canLay0 = true ∧ (kindD kd).depth ≤ 4 := by
  rcases h with rfl | rfl | rfl | rfl | rfl | rfl <;> exact ⟨by decide +kernel, by decide +kernel⟩
theorem enc_shape {fs : List FieldD} (h : Rowed fs) : (PyData.str (txt (encOf fs))).canLay0 = true := by
  rcases enc_three h with e | e | e <;> rw [e] <;> decide +kernel
theorem all_shape {n : Nat} : ∀ {l : List PyData}, (∀ z ∈ l, z.canLay0 = true ∧ z.depth ≤ n) → PyData.canLayAll0 l = true ∧ PyData.depthAll l ≤ n
  | [], _ => by simp [PyData.canLayAll0, PyData.depthAll]
  | z :: r, h => by
    have h1 := h z (.head _)
    have h2 := all_shape (l := r) fun x hx => h x (.tail _ hx)
    simp only [PyData.canLayAll0, PyData.depthAll, h1.1, h2.1, Bool.and_self, true_and]
    (first | lia | omega)
theorem out_shape {a bo e n : Nat} {kd : KD} {fs : List FieldD} {kids : List PyData} {inner : PyData} (h6 : SixK kd) (hr : Rowed fs) (hn : 4 ≤ n) (hk : ∀ z ∈ kids, z.canLay0 = true ∧ z.depth ≤ n) (hi : inner.canLay0 = true ∧ inner.depth ≤ n) :
    (treeOut a bo e kd fs kids inner).canLay0 = true ∧ (treeOut a bo e kd fs kids inner).depth ≤ n + 2 := by
  have h1 := kind_shape h6
  have h2 := enc_shape hr
  have h3 := all_shape hk
  have h4 : (PyData.str (txt (encOf fs))).depth ≤ 1 := by simp [PyData.depth]
  unfold treeOut
  generalize kindD kd = K at *
  generalize PyData.str (txt (encOf fs)) = X at *
  simp only [PyData.canLay0, PyData.canLayAll0, PyData.depth, PyData.depthAll, h1.1, h2, h3.1, hi.1, Bool.and_self, true_and]
  (first | lia | omega)
theorem tree_shape {d : List UInt8} : ∀ {n e a : Nat} {dig : Bool}, Good d e a → a ≤ e → e ≤ d.length → (treeD d n a e dig).canLay0 = true ∧ (treeD d n a e dig).depth ≤ 2 * n + 6
  | 0, e, a, dig, G, h, he => out_shape (six_at _ _) (fields_rows G h he) (by (first | lia | omega)) (fun z hz => nomatch hz) ⟨rfl, by simp [PyData.depth]⟩
  | n + 1, e, a, dig, G, h, he => by
    have hb := headAt_le (d := d) (Nat.le_refl (e - a)) h
    unfold treeD
    refine out_shape (n := 2 * n + 6) (six_at _ _) (fields_rows G h he) (by (first | lia | omega)) (fun z hz => ?_) ?_
    · split at hz
      · (refine Mine.ex_1_2 (List.mem_map.mp hz) ?_; intro x hx eq2; subst eq2)
        have := zs_ok (G.head h) hb.2 x hx
        exact tree_shape this.2.2 this.1 (by have := this.2.1; (first | lia | omega))
      · exact nomatch hz
    · split
      · exact tree_shape (G.head h) hb.2 he
      · exact ⟨rfl, by simp [PyData.depth]⟩
theorem tree_shaped {d : List UInt8} (G : Good d d.length 0) : SeqAt.shaped (treeD d 20 0 d.length false) = true := by
  have h := tree_shape (n := 20) (dig := false) G (Nat.zero_le _) (Nat.le_refl _)
  unfold SeqAt.shaped
  rw [h.1, Bool.true_and]
  exact decide_eq_true (by (first | lia | omega))

end
/-! P4 -/
section
noncomputable def kTab : List (Addr × KD) := [(604, kd1), (608, kd2), (611, kd3), (614, kd4), (617, kd5)]
noncomputable def headTab : List (Addr × List UInt8) := [(605, oct "Content-Type: multipart/mixed; boundary=a"), (609, oct "content-type: Multipart/Digest; boundary=\"b\""), (612, oct "Content-Type: message/rfc822"), (615, oct "Content-Type: multipart/alternative"), (618, oct "CONTENT-TYPE: image/png"),
  (619, oct "Content-Transfer-Encoding: Base64"), (620, oct "content-transfer-encoding: 8BIT (as it is)"), (621, oct "Content-Transfer-Encoding:"), (622, []), (623, oct "Subject: --a")]
noncomputable def encB (b : List UInt8) : List Nat := if encW b = [] then "7bit".toList.map Char.toNat else encW b
/-- what a row of the law's heads says of its field -/
noncomputable def RowK (b : List UInt8) (wd : Str) (av : Value) : Prop :=
  (wd = Str.ofString "end" ∧ b = []) ∨ ∃ x, b ≠ [] ∧ rowF b = some x ∧
    ((wd = Str.ofString "kind" ∧ lowN x.1 = ctW ∧ ∃ q, av = .ref q ∧ (q, kdOf (bare x.2)) ∈ kTab) ∨ (wd = Str.ofString "way" ∧ lowN x.1 = cteW ∧ ∃ t, av = .str (txt (encB (bare x.2))) t) ∨ (wd = Str.ofString "other" ∧ lowN x.1 ≠ ctW ∧ lowN x.1 ≠ cteW))
noncomputable def RowV (w : World) (p : Addr) (b : List UInt8) : Prop := ∃ (d : Option Addr) (n : Nat) (t1 t2 : Tok) (wd : Str) (av : Value), (Mine.H.heap_1_41 w.params).lookup p = some ({ cls := .type "tuple", dict := d, data := .seq ([.bytes b.toArray t1, .str wd t2, av] : List Value).toArray n } : Obj) ∧ RowK b wd av
theorem rows_all (w : World) : ∀ x ∈ headTab, RowV w x.1 x.2 := by
  intro v hv
  unfold headTab at hv
  simp only [List.mem_cons, List.not_mem_nil, or_false] at hv
  rcases hv with rfl | rfl | rfl | rfl | rfl | rfl | rfl | rfl | rfl | rfl
  all_goals refine ⟨_, _, _, _, _, _, by k_is, ?_⟩
  · exact .inr ⟨(oct "Content-Type", oct " multipart/mixed; boundary=a"), by decide +kernel, by decide +kernel, .inl ⟨by decide +kernel, by decide +kernel, _, rfl, by decide +kernel⟩⟩
  · exact .inr ⟨(oct "content-type", oct " Multipart/Digest; boundary=\"b\""), by decide +kernel, by decide +kernel, .inl ⟨by decide +kernel, by decide +kernel, _, rfl, by decide +kernel⟩⟩
  · exact .inr ⟨(oct "Content-Type", oct " message/rfc822"), by decide +kernel, by decide +kernel, .inl ⟨by decide +kernel, by decide +kernel, _, rfl, by decide +kernel⟩⟩
  · exact .inr ⟨(oct "Content-Type", oct " multipart/alternative"), by decide +kernel, by decide +kernel, .inl ⟨by decide +kernel, by decide +kernel, _, rfl, by decide +kernel⟩⟩
  · exact .inr ⟨(oct "CONTENT-TYPE", oct " image/png"), by decide +kernel, by decide +kernel, .inl ⟨by decide +kernel, by decide +kernel, _, rfl, by decide +kernel⟩⟩
  · exact .inr ⟨(oct "Content-Transfer-Encoding", oct " Base64"), by decide +kernel, by decide +kernel, .inr (.inl ⟨by decide +kernel, by decide +kernel, _, congrArg (fun x => Value.str x _) (by decide +kernel)⟩)⟩
  · exact .inr ⟨(oct "content-transfer-encoding", oct " 8BIT (as it is)"), by decide +kernel, by decide +kernel, .inr (.inl ⟨by decide +kernel, by decide +kernel, _, congrArg (fun x => Value.str x _) (by decide +kernel)⟩)⟩
  · exact .inr ⟨(oct "Content-Transfer-Encoding", []), by decide +kernel, by decide +kernel, .inr (.inl ⟨by decide +kernel, by decide +kernel, _, congrArg (fun x => Value.str x _) (by decide +kernel)⟩)⟩
  · exact .inl ⟨by decide +kernel, rfl⟩
  · exact .inr ⟨(oct "Subject", oct " --a"), by decide +kernel, by decide +kernel, .inr (.inr ⟨by decide +kernel, by decide +kernel, by decide +kernel⟩)⟩
/-- the row that is found -/
noncomputable def headFind (m : List UInt8) : List (Addr × List UInt8) := headTab.filter fun x => decide (x.2 = m)
theorem find_head : ∀ m ∈ menu, (headFind m = [] ∧ m ≠ [] ∧ rowF m = none) ∨ ∃ x ∈ headTab, headFind m = [x] ∧ x.2 = m := by
  have h : menu.all (fun m => match headFind m with | [] => decide (m ≠ []) && (rowF m).isNone | [x] => decide (x ∈ headTab) && decide (x.2 = m) | _ => false) = true := by decide +kernel
  intro m hm
  have h1 := List.all_eq_true.mp h m hm
  split at h1
  · rename_i e
    simp only [Bool.and_eq_true, decide_eq_true_eq, Option.isNone_iff_eq_none] at h1
    exact .inl ⟨e, h1.1, h1.2⟩
  · rename_i x e
    simp only [Bool.and_eq_true, decide_eq_true_eq] at h1
    exact .inr ⟨x, h1.1, e, h1.2⟩
  · exact absurd h1 Bool.false_ne_true
theorem first_app {q : List Nat} {x : FieldD} : ∀ {fs : List FieldD}, firstBody (fs ++ [x]) q = (firstBody fs q).or (if lowN x.1 = q then some (bare x.2) else none)
  | [] => by
    rw [List.nil_append]
    unfold firstBody
    split <;> rfl
  | y :: r => by
    rw [List.cons_append]
    unfold firstBody
    split
    · rfl
    · exact first_app
/-- the law's kind, and its way, of the fields so far -/
noncomputable def KV (kv : Value) (fs : List FieldD) : Prop := (kv = .none ∧ firstBody fs ctW = none) ∨ ∃ q l, kv = .ref q ∧ firstBody fs ctW = some l ∧ (q, kdOf l) ∈ kTab
noncomputable def WV (wv : Value) (fs : List FieldD) : Prop := (wv = .none ∧ firstBody fs cteW = none) ∨ ∃ l t, wv = .str (txt (encB l)) t ∧ firstBody fs cteW = some l
theorem kv_same {kv : Value} {fs : List FieldD} {x : FieldD} (h : KV kv fs) (hx : lowN x.1 ≠ ctW ∨ kv ≠ .none) : KV kv (fs ++ [x]) := by
  unfold KV at h ⊢
  rw [first_app]
  rcases h with ⟨rfl, h⟩ | ⟨q, l, rfl, h, hq⟩
  · rw [h]
    rcases hx with hx | hx
    · rw [if_neg hx]; exact .inl ⟨rfl, rfl⟩
    · exact absurd rfl hx
  · rw [h]; exact .inr ⟨q, l, rfl, rfl, hq⟩
theorem wv_same {wv : Value} {fs : List FieldD} {x : FieldD} (h : WV wv fs) (hx : lowN x.1 ≠ cteW ∨ wv ≠ .none) : WV wv (fs ++ [x]) := by
  unfold WV at h ⊢
  rw [first_app]
  rcases h with ⟨rfl, h⟩ | ⟨l, t, rfl, h⟩
  · rw [h]
    rcases hx with hx | hx
    · rw [if_neg hx]; exact .inl ⟨rfl, rfl⟩
    · exact absurd rfl hx
  · rw [h]; exact .inr ⟨l, t, rfl, rfl⟩
theorem kv_new {fs : List FieldD} {x : FieldD} {q : Addr} (h : firstBody fs ctW = none) (hx : lowN x.1 = ctW) (hq : (q, kdOf (bare x.2)) ∈ kTab) : KV (.ref q) (fs ++ [x]) := by
  unfold KV
  rw [first_app, h, if_pos hx]
  exact .inr ⟨q, _, rfl, rfl, hq⟩
theorem wv_new {fs : List FieldD} {x : FieldD} {t : Tok} (h : firstBody fs cteW = none) (hx : lowN x.1 = cteW) : WV (.str (txt (encB (bare x.2))) t) (fs ++ [x]) := by
  unfold WV
  rw [first_app, h, if_pos hx]
  exact .inr ⟨_, t, rfl, rfl⟩
theorem ct_ne : ctW ≠ cteW := by decide +kernel
theorem kv_way {kv : Value} {fs : List FieldD} {x : FieldD} (h : KV kv fs) (hx : lowN x.1 = cteW) : KV kv (fs ++ [x]) := kv_same h (.inl fun e => ct_ne (e.symm.trans hx))
theorem wv_kind {wv : Value} {fs : List FieldD} {x : FieldD} (h : WV wv fs) (hx : lowN x.1 = ctW) : WV wv (fs ++ [x]) := wv_same h (.inl fun e => ct_ne (hx.symm.trans e))
structure HS where
  at1 : Nat
  ta : Tok
  kv : Value
  wv : Value
  done : List FieldD
/-- the loop's invariant -/
noncomputable def HInv (d : List UInt8) (a e : Nat) (c : HS) : Prop := c.at1 ≤ e ∧ Good d e c.at1 ∧ fieldsAt d e a = c.done ++ fieldsAt d e c.at1 ∧ (headAt d e a).2 = (headAt d e c.at1).2 ∧ KV c.kv c.done ∧ WV c.wv c.done
theorem hinv_init {d : List UInt8} {a e : Nat} {ta : Tok} (G : Good d e a) (h : a ≤ e) : HInv d a e ⟨a, ta, .none, .none, []⟩ := ⟨h, G, rfl, rfl, .inl ⟨rfl, rfl⟩, .inl ⟨rfl, rfl⟩⟩
/-- what the law reads of a head -/
noncomputable def HeadSaid (d : List UInt8) (a e : Nat) (kv wv : Value) (b : Nat) : Prop := KV kv (fieldsAt d e a) ∧ WV wv (fieldsAt d e a) ∧ b = (headAt d e a).2
section
variable {d : List UInt8} {a e : Nat} {c : HS}
theorem hinv_done (hi : HInv d a e c) (h : e ≤ c.at1) : HeadSaid d a e c.kv c.wv e := by
  (refine Mine.ex_0_6 (hi) ?_; (try clear hi); intro h1 h2 h3 h4 h5 h6)
  have hf : fieldsAt d e c.at1 = [] := by unfold fieldsAt; rw [headAt_end h]; rfl
  rw [hf, List.append_nil] at h3
  exact ⟨h3 ▸ h5, h3 ▸ h6, by rw [h4, headAt_end h]⟩
theorem hinv_not (hi : HInv d a e c) (he : e ≤ d.length) (h : c.at1 < e) (hm : seg d c.at1 (lineAt d c.at1 e).1 ≠ []) (hr : rowF (seg d c.at1 (lineAt d c.at1 e).1) = none) : HeadSaid d a e c.kv c.wv c.at1 := by
  (refine Mine.ex_0_6 (hi) ?_; (try clear hi); intro h1 h2 h3 h4 h5 h6)
  have hl := lineAt_le (d := d) h1
  have hne : ¬ (lineAt d c.at1 e).1 = c.at1 := fun h0 => hm (by rw [h0]; unfold seg; simp)
  have hc : colonAt d c.at1 (lineAt d c.at1 e).1 = none := by
    cases hc : colonAt d c.at1 (lineAt d c.at1 e).1 with
    | none => rfl
    | some i => rw [rowF_some (by (first | lia | omega)) hl.1 hc] at hr; exact nomatch hr
  have hf : fieldsAt d e c.at1 = [] := by unfold fieldsAt; rw [headAt_no h hne hc]; rfl
  rw [hf, List.append_nil] at h3
  exact ⟨h3 ▸ h5, h3 ▸ h6, by rw [h4, headAt_no h hne hc]⟩
theorem hinv_end (hi : HInv d a e c) (he : e ≤ d.length) (h : c.at1 < e) (hm : seg d c.at1 (lineAt d c.at1 e).1 = []) : HeadSaid d a e c.kv c.wv (lineAt d c.at1 e).2 := by
  (refine Mine.ex_0_6 (hi) ?_; (try clear hi); intro h1 h2 h3 h4 h5 h6)
  have hl := lineAt_le (d := d) h1
  have hz : (lineAt d c.at1 e).1 = c.at1 := by
    have := congrArg List.length hm
    rw [seg_len' hl.1 (by (first | lia | omega))] at this
    simp only [List.length_nil] at this
    (first | lia | omega)
  have hf : fieldsAt d e c.at1 = [] := by unfold fieldsAt; rw [headAt_blank h hz]; rfl
  rw [hf, List.append_nil] at h3
  exact ⟨h3 ▸ h5, h3 ▸ h6, by rw [h4, headAt_blank h hz]⟩
theorem hinv_next {kv wv : Value} {t : Tok} {x : FieldD} (hi : HInv d a e c) (he : e ≤ d.length) (h : c.at1 < e) (hm : seg d c.at1 (lineAt d c.at1 e).1 ≠ []) (hr : rowF (seg d c.at1 (lineAt d c.at1 e).1) = some x) (hk : KV kv (c.done ++ [x])) (hw : WV wv (c.done ++ [x])) :
    HInv d a e ⟨(lineAt d c.at1 e).2, t, kv, wv, c.done ++ [x]⟩ := by
  (refine Mine.ex_0_6 (hi) ?_; (try clear hi); intro h1 h2 h3 h4 h5 h6)
  have hl := lineAt_le (d := d) h1
  have hne : ¬ (lineAt d c.at1 e).1 = c.at1 := fun h0 => hm (by rw [h0]; unfold seg; simp)
  (refine Mine.ex_1_2 (row_some (m := seg d c.at1 (lineAt d c.at1 e).1) rfl (by (first | lia | omega)) hl.1 hr) ?_; intro i hc hx)
  have hf := headAt_field h hne hc
  refine ⟨hl.2.2, (h2.step h).2, ?_, by rw [h4, hf], hk, hw⟩
  rw [h3]
  unfold fieldsAt
  rw [hf]
  simp [hx]
end
theorem enc_none {fs : List FieldD} (h : firstBody fs cteW = none) : encOf fs = "7bit".toList.map Char.toNat := by unfold encOf; rw [h]
theorem enc_some {fs : List FieldD} {l : List UInt8} (h : firstBody fs cteW = some l) : encOf fs = encB l := by unfold encOf encB; rw [h]

end
/-! F3 -/
section
open PyProof.V PySem.Spec PyProof.Rows.LCg PyProof.Rows.LCt
section
variable {prog : Program} {w : World} {A : Around} {s : Shared} {h₀ : Heap} {L : Addr} {m : Str → Option Value} {env : Env}
/-- how a turn of a comprehension with a test ends, when nothing new is kept -/
noncomputable def TurnK (h₀ : Heap) (L : Addr) (m : Str → Option Value) (s₁ : Shared) (base : List (Addr × Obj)) (R : Value → Prop) (y : Value) (s₂ : Shared) : Prop :=
  ∃ h' tk all, s₂ = { s₁ with heap := h', toks := tk } ∧ Fr h₀ L h' m ∧ News h₀ L h' all ∧ (∀ p ∈ base, p ∈ all) ∧ R y
theorem TurnK.intro {s₁ : Shared} {base all : List (Addr × Obj)} {R : Value → Prop} {y : Value} {h' : Heap} {tk : Nat} (F : Fr h₀ L h' m) (N : News h₀ L h' all) (sub : ∀ p ∈ base, p ∈ all) (r : R y) : TurnK h₀ L m s₁ base R y { s₁ with heap := h', toks := tk } := ⟨h', tk, all, rfl, F, N, sub, r⟩
theorem compT_all {ct elt : Expr} {x : Str} {scope : Scope} {cl : List (Str × Addr)} {S : List (Addr × Obj) → Prop} {P : Nat → Value → Prop} {Fin : List Value → List (Addr × Obj) → Prop} {news : List (Addr × Obj)} {n : Nat} (hS : S news) (Y : Nat → List Value → Prop)
    (turn : ∀ i ys v I oI C oC D m₂ h tk (E' : Value → Shared → Prop), i < n → Y i ys → P i v → NsObj oC m₂ → m₂ x = some v → Fr h₀ L h m → News h₀ L h ((I, oI) :: (C, oC) :: (D, lst ys) :: news) → Off3 I C D news → ((@Ne Nat I C) ∧ (@Ne Nat I D) ∧ (@Ne Nat C D)) →
      wpAny (model prog w) A (isTrue ct (compEnvC scope cl C env) (eval ct (compEnvC scope cl C env))) (fun ok s' => if ok = true then
        wpAny (model prog w) A (eval elt (compEnvC scope cl C env)) (TurnK h₀ L m { s with heap := h, toks := tk } ((I, oI) :: (C, oC) :: (D, lst ys) :: news) (fun y => Y (i + 1) (ys ++ [y]))) E' s'
        else TurnK h₀ L m { s with heap := h, toks := tk } ((I, oI) :: (C, oC) :: (D, lst ys) :: news) (fun _ => Y (i + 1) ys) Value.none s') E' { s with heap := h, toks := tk })
    (fin : ∀ ys, Y n ys → Fin ys news) : ∀ k i ys, i + k = n → Y i ys → CompRestT prog w A h₀ L m env ct elt x scope cl s S P Fin k i ys news := by
  intro k
  induction k with
  | zero =>
    intro i ys hi hy
    rw [Nat.add_zero] at hi
    subst hi
    exact fin ys hy
  | succ k ih =>
    intro i ys hi hy
    refine CompRestT.succ ?_
    intro v I oI C oC D m₂ h tk E' hv hC hx F N off ne
    refine wpAny_mono (turn i ys v I oI C oC D m₂ h tk E' (by (first | lia | omega)) hy hv hC hx F N off ne) (fun ok s' hq => ?_) fun _ _ e => e
    cases ok with
    | true =>
      simp only [if_true] at hq ⊢
      refine wpAny_mono hq (fun y s₂ hq => ?_) fun _ _ e => e
      (refine Mine.ex_3_5 (hq) ?_; (try clear hq); intro h' tk' all eq3 F' N' sub hr; subst eq3)
      exact CompEnd.intro F' N' news sub off hS (ih (i + 1) _ (by (first | lia | omega)) hr)
    | false =>
      simp only [Bool.false_eq_true, if_false] at hq ⊢
      (refine Mine.ex_3_5 (hq) ?_; (try clear hq); intro h' tk' all eq3 F' N' sub hr; subst eq3)
      exact CompEnd.intro F' N' news sub off hS (ih (i + 1) _ (by (first | lia | omega)) hr)
end
theorem heads_row (w : World) : ∃ (d : Option Addr) (n : Nat), (Mine.H.heap_1_41 w.params).lookup 624 = some ({ cls := .type "tuple", dict := d, data := .seq (headTab.map fun x => Value.ref x.1).toArray n } : Obj) := ⟨_, _, by k_is⟩
/-- the rows found so far -/
noncomputable def FoundIn (sg : List UInt8) (i : Nat) (ys : List Value) : Prop := ys = ((headTab.take i).filter fun x => decide (x.2 = sg)).map fun x => Value.ref x.1
theorem found_yes {sg b : List UInt8} {i : Nat} {ys : List Value} {p : Addr} (h : FoundIn sg i ys) (hx : headTab[i]? = some (p, b)) (e : (b == sg) = true) : FoundIn sg (i + 1) (ys ++ [Value.ref p]) := by
  unfold FoundIn at h ⊢
  rw [List.take_add_one, hx, List.filter_append, List.map_append, ← h]
  have : b = sg := eq_of_beq e
  simp [this]
theorem found_no {sg b : List UInt8} {i : Nat} {ys : List Value} {p : Addr} (h : FoundIn sg i ys) (hx : headTab[i]? = some (p, b)) (e : (b == sg) = false) : FoundIn sg (i + 1) ys := by
  unfold FoundIn at h ⊢
  rw [List.take_add_one, hx, List.filter_append, List.map_append, ← h]
  have : b ≠ sg := fun h => by rw [h, beq_self_eq_true] at e; exact nomatch e
  simp [this]
theorem found_all {sg : List UInt8} {ys : List Value} (h : FoundIn sg headTab.length ys) : ys = (headFind sg).map fun x => Value.ref x.1 := by
  unfold FoundIn at h
  rw [List.take_length] at h
  exact h
noncomputable def HeadOut (d : List UInt8) (a e : Nat) (tl : List (Addr × Obj)) (r : Value) : Prop := ∃ D kv wv b t, r = .ref D ∧ tl = [(D, tup [kv, wv, .int ((b : Nat) : Int) t])] ∧ HeadSaid d a e kv wv b
theorem off_up3 {L : Addr} {news : List (Addr × Obj)} (h : ∀ p ∈ news, p.1 < L) : ∀ y ∈ news, y.1 ≠ L + 1 + 1 + 1 := fun y hy => Nat.ne_of_lt (Nat.lt_of_lt_of_le (h y hy) (Nat.le_add_right L 3))
theorem off_up2 {L : Addr} {news : List (Addr × Obj)} (h : ∀ p ∈ news, p.1 < L) : ∀ y ∈ news, y.1 ≠ L + 1 + 1 := fun y hy => Nat.ne_of_lt (Nat.lt_of_lt_of_le (h y hy) (Nat.le_add_right L 2))
structure HC where
  h : HS
  oL : Obj
  oA : Obj
  oD : Obj
noncomputable def HCInv (d : List UInt8) (t : Tok) (a e : Nat) (c : HC) : Prop := HInv d a e c.h ∧ c.oA.data = .cell (some (.int (c.h.at1 : Int) c.h.ta)) ∧ c.oD.data = .cell (some (.bytes d.toArray t)) ∧ ∃ lv, c.oL.data = .cell lv
theorem head_end {h₀ h' : Heap} {L D : Addr} {m : Str → Option Value} {news rest : List (Addr × Obj)} {s : Shared} {Q : Value → Shared → Prop} {tk' : Tok} {d : List UInt8} {a e b : Nat} {kv wv : Value} {t : Tok}
    (hret : ∀ r tl h' tk', Fr h₀ L h' m → News h₀ L h' (tl ++ news) → (∀ q ∈ news, ∀ p ∈ tl, q.1 < p.1) → HeadOut d a e tl r → Q r { s with heap := h', toks := tk' })
    (F : Fr h₀ L h' m) (N : News h₀ L h' ((D, tup [kv, wv, .int (b : Int) t]) :: rest)) (sub : ∀ p ∈ news, p ∈ rest) (l : AllLt D news) (hs : HeadSaid d a e kv wv b) : Q (.ref D) { s with heap := h', toks := tk' } :=
  end_one hret F (news_sub N fun p hp => by
    rcases List.mem_cons.mp hp with h | h
    · rw [h]; exact .head _
    · exact .tail _ (sub _ h)) (fun p hp => allLt_mem l p hp) ⟨D, kv, wv, b, t, rfl, rfl, hs⟩
theorem hc_next {g h' : Heap} {L₁ : Addr} {m₀ m' : Str → Option Value} {all news : List (Addr × Obj)} {s₁ : Shared} {Q : Flow → Shared → Prop} {xs : List Str} {tk' : Tok} {d : List UInt8} {t : Tok} {a e at1 : Nat} {ta1 t9 : Tok} {kv wv kv' wv' : Value} {done : List FieldD} {x : FieldD} {oL oA oD : Obj} {lv : Option Value}
    (F : Fr g L₁ h' m') (N : News g L₁ h' all) (mL : (L₁ + 1 + 1 + 1, oL) ∈ all) (mA : (L₁ + 1 + 1, oA) ∈ all) (mD : (L₁ + 1, oD) ∈ all) (mn : ∀ p ∈ news, p ∈ all) (k : FrOk xs [(Str.ofString "kind", kv'), (Str.ofString "way", wv')] m₀ m')
    (dA : oA.data = .cell (some (.int ((lineAt d at1 e).2 : Int) t9))) (dD : oD.data = .cell (some (.bytes d.toArray t))) (dL : oL.data = .cell lv) (hi : HInv d a e ⟨at1, ta1, kv, wv, done⟩) (he : e ≤ d.length) (h : at1 < e) (hm : seg d at1 (lineAt d at1 e).1 ≠ []) (hr : rowF (seg d at1 (lineAt d at1 e).1) = some x) (hk : KV kv' (done ++ [x])) (hw : WV wv' (done ++ [x])) :
    WhPost (σ := HC) g L₁ (fun c => (L₁ + 1 + 1 + 1, c.oL) :: (L₁ + 1 + 1, c.oA) :: (L₁ + 1, c.oD) :: news) (fun c => [(Str.ofString "kind", c.h.kv), (Str.ofString "way", c.h.wv)]) xs m₀ (HCInv d t a e) (fun c => e - c.h.at1) (e - at1) s₁ Q .next { s₁ with heap := h', toks := tk' } := by
  have hlt := lineAt_lt (d := d) h
  refine WhPost.next (⟨⟨(lineAt d at1 e).2, t9, kv', wv', done ++ [x]⟩, oL, oA, oD⟩ : HC) F N ?_ k ⟨hinv_next hi he h hm hr hk hw, dA, dD, lv, dL⟩ ?_
  · intro p hp
    dsimp only at hp
    simp only [List.mem_cons] at hp
    rcases hp with h | h | h | h
    · rw [h]; exact mL
    · rw [h]; exact mA
    · rw [h]; exact mD
    · exact mn p h
  · dsimp only
    (first | lia | omega)
theorem const_ix {prog : Program} {w : World} {A : Around} {E : Value → Shared → Prop} {s : Shared} {K : Frag} {a : Addr} {d : Option Addr} {sl} {value slice : PySem.Expr} {vs : List Value} {n : Nat} {j : Int} {u : Tok} {v : Value} {Q : Value → Shared → Prop} (X : K.In s.heap) (ho : K.lookup a = some ⟨.type "tuple", d, .seq vs.toArray n, sl⟩) (h0 : 0 ≤ j) (hj : vs[j.toNat]? = some v) (hl : vs.length ≤ 1000) (h : Q v s)
    (hs : noSl slice = true) :
    wpAny (model prog w) A (subscriptTail value slice (.ref a) (.int j u)) Q E s := by
  have hlt : j.toNat < vs.length := (List.getElem?_eq_some_iff.mp hj).1
  refine item_tupleT (l := vs) (j := j.toNat) ⟨_, X _ _ ho, rfl, _, rfl⟩ (by (first | lia | omega)) (by (first | lia | omega)) ?_ hj h (ix_plain hs)
  have := seq_nat hlt
  rwa [Int.toNat_of_nonneg h0] at this
theorem list_ix {prog : Program} {w : World} {A : Around} {E : Value → Shared → Prop} {s : Shared} {h₀ : Heap} {L a : Addr} {news : List (Addr × Obj)} {value slice : PySem.Expr} {vs : List Value} {n : Nat} {j : Int} {u : Tok} {v : Value} {Q : Value → Shared → Prop} (N : News h₀ L s.heap news) (hm : (a, listOf vs.toArray n) ∈ news) (h0 : 0 ≤ j) (h1 : j < 1000) (hj : vs[j.toNat]? = some v) (h : Q v s)
    (hs : noSl slice = true) :
    wpAny (model prog w) A (subscriptTail value slice (.ref a) (.int j u)) Q E s :=
  have hl : s.heap.IsList a vs.toArray := ⟨_, (N _ hm).1, rfl, _, rfl⟩
  tail_any hl.typeIs slot_list_getitem.lookup (wpAny_getItem_list hl h0 (by (first | lia | omega)) (by simpa using hj) h) (ix_plain hs)
theorem eq_nilF {prog : Program} {w : World} {A : Around} {E : Value → Shared → Prop} {s : Shared} {h₀ : Heap} {L a b : Addr} {news : List (Addr × Obj)} {n1 n2 : Nat} {y : Value} {ys : List Value} {Q : Value → Shared → Prop} (N : News h₀ L s.heap news) (ma : (a, listOf (y :: ys).toArray n1) ∈ news) (mb : (b, listOf #[] n2) ∈ news) (hu : A.units < cLine) (h : Q (.bool false) s) : wpAny (model prog w) A (compareOp .Eq (.ref a) (.ref b)) Q E s := eq_nilL N ma mb hu h
theorem rk_end {b : List UInt8} {wd : Str} {av : Value} (h : RowK b wd av) (e : (wd == Str.ofString "end") = true) : b = [] := by
  rcases h with ⟨_, h⟩ | ⟨x, _, _, h | h | h⟩
  · exact h
  · exact absurd e (by rw [h.1]; decide +kernel)
  · exact absurd e (by rw [h.1]; decide +kernel)
  · exact absurd e (by rw [h.1]; decide +kernel)
noncomputable def RK3 (x : FieldD) (wd : Str) (av : Value) : Prop := (wd = Str.ofString "kind" ∧ lowN x.1 = ctW ∧ ∃ q, av = .ref q ∧ (q, kdOf (bare x.2)) ∈ kTab) ∨ (wd = Str.ofString "way" ∧ lowN x.1 = cteW ∧ ∃ t, av = .str (txt (encB (bare x.2))) t) ∨ (wd = Str.ofString "other" ∧ lowN x.1 ≠ ctW ∧ lowN x.1 ≠ cteW)
theorem rk_row {b : List UInt8} {wd : Str} {av : Value} (h : RowK b wd av) (e : (wd == Str.ofString "end") = false) : ∃ x, b ≠ [] ∧ rowF b = some x ∧ RK3 x wd av := by
  rcases h with ⟨h, _⟩ | h
  · exact absurd e (by rw [h]; decide +kernel)
  · exact h
section
variable {x : FieldD} {wd : Str} {av kv : Value} {fs : List FieldD}
theorem r3_kind (h : RK3 x wd av) (e : (wd == Str.ofString "kind") = true) (hk : firstBody fs ctW = none) : KV av (fs ++ [x]) := by
  rcases h with ⟨_, h1, q, rfl, h2⟩ | ⟨h, _⟩ | ⟨h, _⟩
  · exact kv_new hk h1 h2
  · exact absurd e (by rw [h]; decide +kernel)
  · exact absurd e (by rw [h]; decide +kernel)
theorem r3_nkind (h : RK3 x wd av) (e : (wd == Str.ofString "kind") = false) (hk : KV kv fs) : KV kv (fs ++ [x]) := by
  rcases h with ⟨h, _⟩ | ⟨_, h, _⟩ | ⟨_, h, _⟩
  · exact absurd e (by rw [h]; decide +kernel)
  · exact kv_way hk h
  · exact kv_same hk (.inl h)
theorem r3_way (h : RK3 x wd av) (e : (wd == Str.ofString "way") = true) (hk : firstBody fs cteW = none) : WV av (fs ++ [x]) := by
  rcases h with ⟨h, _⟩ | ⟨_, h1, t, rfl⟩ | ⟨h, _⟩
  · exact absurd e (by rw [h]; decide +kernel)
  · exact wv_new hk h1
  · exact absurd e (by rw [h]; decide +kernel)
theorem r3_nway (h : RK3 x wd av) (e : (wd == Str.ofString "way") = false) (hk : WV kv fs) : WV kv (fs ++ [x]) := by
  rcases h with ⟨_, h, _⟩ | ⟨h, _⟩ | ⟨_, _, h⟩
  · exact wv_kind hk h
  · exact absurd e (by rw [h]; decide +kernel)
  · exact wv_same hk (.inl h)
end
theorem fr_same {h₀ h : Heap} {L : Addr} {m : Str → Option Value} {x : Str} {v : Value} (e : m x = some v) (F : Fr h₀ L h m) : Fr h₀ L h (fun y => if y = x then some v else m y) := by
  have : (fun y => if y = x then some v else m y) = m := funext fun y => by
    by_cases h : y = x
    · rw [if_pos h, h, e]
    · rw [if_neg h]
  rw [this]; exact F
theorem cut_name {M : Model} {A : Around} {h₀ h : Heap} {L : Addr} {m : Str → Option Value} {all : List (Addr × Obj)} {s : Shared} {k : Tok} {E : Value → Shared → Prop} {c : Sem Flow} (x : Str) (P : Value → Prop) {Q : Flow → Shared → Prop}
    (hc : ∀ Q' : Flow → Shared → Prop, (∀ v h' tk, Fr h₀ L h' (fun y => if y = x then some v else m y) → News h₀ L h' all → P v → Q' .next ⟨h', s.gens, s.drawn, tk, s.os⟩) → wpAny M A c Q' E ⟨h, s.gens, s.drawn, k, s.os⟩)
    (key : ∀ v h' tk, Fr h₀ L h' (fun y => if y = x then some v else m y) → News h₀ L h' all → P v → Q .next ⟨h', s.gens, s.drawn, tk, s.os⟩) (_F : Fr h₀ L h m) (_N : News h₀ L h all) : wpAny M A c Q E ⟨h, s.gens, s.drawn, k, s.os⟩ := hc Q key
theorem reg_50 : True := by
  k_with "my exec Assign cons ListComp" => (((fail_if_success (fail_if_success (have z9 := hsF3))); ((k_here; k_dflt (refine Mine.Assign_ListComp_GT (F₀ := by k_asm) (by rfl) (by with_unfolding_all rfl) (by with_unfolding_all rfl) (by decide) (by rfl) (by decide) (by rfl) (by rfl) (by rfl) ?_); k_whole))))
  k_with "my call ref" => (((fail_if_success (fail_if_success (have z9 := hsF3))); ((k_here; (with_reducible show wpAny _ _ (call (Value.ref 646) _) _ _ _); (try walk_at "m_fold"); k_dflt (refine' CtrA.useS ?k0ₘ ?k1ₘ ?k2ₘ ?k3ₘ ?k4ₘ ?k5ₘ ?kKₘ ?kdₘ ?kuₘ ?_; (case k1ₘ => k_asm); (case k2ₘ => k_asm); (case k3ₘ => k_asm); (case k4ₘ => k_asm); (case k5ₘ => k_asm); (case k0ₘ => exact (law_line_ok _ _ _ _ _ _ _ (by assumption) (by (first | lia | omega)) (by (first | lia | omega)) _)); (case kKₘ => first | exact rfl | assumption); (case kdₘ => ktr_room); (case kuₘ => ktr_units); k_whole); intro r9ₘ tl9ₘ h9ₘ tk9ₘ F9ₘ N9ₘ hl9ₘ ho9ₘ; (refine Mine.ex_3_2 (ho9ₘ) ?_; (try clear ho9ₘ); intro p9ₘ t8ₘ t9ₘ e8ₘ e9ₘ); subst e8ₘ; subst e9ₘ; replace hl9ₘ := Mine.lt_one hl9ₘ; (try simp only [AllLt, and_true] at hl9ₘ); (try simp only [List.cons_append, List.nil_append] at N9ₘ); (try k_sweep); (try k_unfold); (try dsimp only); (try walk_at "m_fold")))))
  k_with "my subscriptTail" => (((fail_if_success (fail_if_success (have z9 := hsF3))); ((k_here; (with_reducible show wpAny _ _ (subscriptTail _ _ (Value.ref pr) (Value.int _ _)) _ _ _); k_dflt (refine' Mine.const_ix ?Xₘ hpr ?zₘ ?jₘ ?lₘ ?_ ?hsₘ; (case Xₘ => k_in); (case zₘ => decide); (case jₘ => exact rfl); (case lₘ => exact Nat.le_of_ble_eq_true rfl); (case hsₘ => rfl); k_whole)))))
  k_with "my compareOp Eq ref ref" => (((fail_if_success (fail_if_success (have z9 := hsF3))); ((k_here; k_dflt (refine' Mine.eq_nilF ?h1ₘ ?h2ₘ ?h3ₘ ?h4ₘ ?_; (case h1ₘ => k_asm); (case h2ₘ => k_mem); (case h3ₘ => k_mem); (case h4ₘ => ktr_units); k_whole)))))
  k_with "my subscriptTail Name Constant ref int" => (((fail_if_success (fail_if_success (have z9 := hsF3))); ((k_here; (with_reducible show wpAny _ _ (subscriptTail _ _ (Value.ref _) (Value.int _ _)) _ _ _); k_dflt (refine' Mine.list_ix ?Nₘ ?mₘ ?zₘ ?yₘ ?jₘ ?_ ?hsₘ; (case Nₘ => k_asm); (case mₘ => k_mem); (case zₘ => decide); (case yₘ => decide); (case jₘ => exact rfl); (case hsₘ => rfl); k_whole)))))
  k_with "my subscriptTail Name Constant ref int" => (((fail_if_success (fail_if_success (have z9 := hsF3))); ((k_here; (with_reducible show wpAny _ _ (subscriptTail _ _ (Value.ref pr) (Value.int _ _)) _ _ _); k_dflt (refine' Mine.const_ix ?Xₘ hpr ?zₘ ?jₘ ?lₘ ?_ ?hsₘ; (case Xₘ => k_in); (case zₘ => decide); (case jₘ => exact rfl); (case lₘ => exact Nat.le_of_ble_eq_true rfl); (case hsₘ => rfl); k_whole)))))
  k_with "my subscriptTail Subscript" => (((fail_if_success (fail_if_success (have z9 := hsF3))); ((k_here; (with_reducible show wpAny _ _ (subscriptTail _ _ (Value.ref pr) (Value.int _ _)) _ _ _); k_dflt (refine' Mine.const_ix ?Xₘ hpr ?zₘ ?jₘ ?lₘ ?_ ?hsₘ; (case Xₘ => k_in); (case zₘ => decide); (case jₘ => exact rfl); (case lₘ => exact Nat.le_of_ble_eq_true rfl); (case hsₘ => rfl); k_whole)))))
  k_with "my exec If" => (((fail_if_success (fail_if_success (have z9 := hsF3))); (((fail_if_success (fail_if_success (have zz9ₘ := hif9))); (with_reducible show wpAny _ _ (exec (Stmt.If (Expr.BoolOp _ _ _) _ _ _) _) _ _ _); refine Mine.stop_here ?_))))
  trivial
set_option maxHeartbeats 4000000 in
theorem head_ok (w : World) (d : List UInt8) (t : Tok) (a : Nat) (ta : Tok) (e : Nat) (te : Tok) (hz : d.length ≤ 16777216) (ha : a ≤ e) (he : e ≤ d.length) (G : Good d e a) (news : List (Addr × Obj)) :
   CtrA w 651 10 [.bytes d.toArray t, .int a ta, .int e te] news (HeadOut d a e) := by
  have hsF3 : True := trivial
  unfold CtrA
  intro prog dp un gd cn cs aF ccd cl outer A₀ base h₀ L m s loose mean mg mb Q E B F X N T hk hdp hu hret
  refine wpAny_call ?_
  k_dflt (refine' code_defC (binds := [(Str.ofString "data", .bytes d.toArray t), (Str.ofString "at", .int a ta), (Str.ofString "end", .int e te)]) ?k1 ?k2 ?k3 ?k4 ?k5 ?kA ?kF ?kK ?k6 ?k7 ?k8 ?k9 ?kB ?kD ?_ ?c2 ?c3 ?c4; (case kA => exact rfl); (case kF => exact rfl); (case kK => assumption); (case k1 => exact B); (case k2 => exact F); (case k3 => exact X); (case k4 => exact N); (case k5 => exact T); (case k6 => k_is); (case k7 => k_is); (case k8 => ktr_room); (case k9 => first | exact BindsTo.of_eq rfl | exact binds_K (Frag.In.keeps X F.keep) rfl (by k_is) rfl rfl rfl); (case kB => exact rfl); (case kD => decide +kernel); (case c2 => exact rfl); (case c3 => exact rfl); (case c4 => exact rfl); k_whole; intro g L₁ h₁ tk₁ cells FG F₁ N₁ Y₁ B₁ X₁ T₁ l1; (try k_lt l1); k_cells Y₁; (try simp only [List.cons_append, List.nil_append] at N₁); (try dsimp only); (try k_lift B₁); (try walk_at "m_fold"))
  k_steps
  unfold Stop
  rename Fr _ _ _ _ => Fw
  rename News _ _ _ _ => Nw
  rename_i oL0 oA0 oD0 dL0 dA0 dD0 _ _ _ _
  refine while_st (σ := HC) (fun c => (L₁ + 1 + 1 + 1, c.oL) :: (L₁ + 1 + 1, c.oA) :: (L₁ + 1, c.oD) :: news) (fun c => [(Str.ofString "kind", c.h.kv), (Str.ofString "way", c.h.wv)]) [Str.ofString "behind", Str.ofString "rows"] (HCInv d t a e) (fun c => e - c.h.at1) ⟨⟨a, ta, .none, .none, []⟩, oL0, oA0, oD0⟩ Fw Nw (by walk_at "m_all") ⟨hinv_init G ha, dA0, dD0, _, dL0⟩ ?_
  clear Fw Nw
  rintro ⟨⟨at1, ta1, kv, wv, done⟩, oL, oA, oD⟩ u h2 tk2 ⟨hi, dA, dD, lv, dL⟩ F₂ N₂
  have hle := hi.1
  have G1 := hi.2.1
  have hfl := hi.2.2.1
  have hbo := hi.2.2.2.1
  have hkv := hi.2.2.2.2.1
  have hwv := hi.2.2.2.2.2
  dsimp only at hle G1 hfl hbo hkv hwv dA dD dL F₂ N₂ ⊢
  dsimp only [frB, kstB] at F₂
  clear dL0 dA0 dD0
  have hoL : ∀ y ∈ news, y.1 ≠ L₁ + 1 + 1 + 1 := off_up3 l1
  have hoA : ∀ y ∈ news, y.1 ≠ L₁ + 1 + 1 := off_up2 l1
  k_steps
  · unfold Stop
    rename Fr _ _ _ _ => Fw
    rename News _ _ _ _ => Nw
    rename (↑at1 : Int) < ↑e => hlt
    have hlt0 : at1 < e := by (first | lia | omega)
    clear hlt
    (try walk_at "m_fold")
    (refine Mine.ex_2_1 (heads_row w) ?_; intro dt nt h624)
    have hm := (G1.step (by (first | lia | omega))).1
    have hl := lineAt_le (d := d) hle
    refine iterG_tuple rfl Fw Nw (X₁ _ _ h624) rfl rfl (by rw [sizeLine_eq]; decide) ?_
    intro hg
    refine compT_all trivial (FoundIn (seg d at1 (lineAt d at1 e).1)) ?_ ?_ _ 0 [] (Nat.zero_add _) rfl
    · clear Fw Nw
      intro i ys v I oI C oC D m₂ h tk E' hi2 hY hv hC hx F₂ N₂ off ne
      rw [List.getElem?_map, Option.map_eq_some_iff] at hv
      (try walk_at "m_fold")
      (refine Mine.ex_1_2 (hv) ?_; (try clear hv); intro ne0 hx3 eq2; obtain ⟨pr, b⟩ := ne0; subst eq2)
      (try walk_at "m_fold")
      (refine Mine.ex_6_2 (rows_all w _ (List.mem_of_getElem? hx3)) ?_; intro d9 n9 t1 t2 wd av hpr hrk)
      dsimp only at hpr hrk
      k_steps
      · rename News _ _ _ _ => Nx
        exact TurnK.intro (by k_asm) Nx (by walk_at "m_incl") (found_yes hY hx3 (by assumption))
      · rename News _ _ _ _ => Nx
        exact TurnK.intro (by k_asm) Nx (by walk_at "m_incl") (found_no hY hx3 (by assumption))
    · clear Fw Nw
      intro ys hY
      replace hY := found_all hY
      have hi' : HInv d a e ⟨at1, ta1, kv, wv, done⟩ := hi
      (try walk_at "m_fold")
      rcases find_head _ hm with ⟨e0, hne, hrow⟩ | ⟨⟨pr, b⟩, hxm, e1, e2⟩
      · rw [e0] at hY
        dsimp only [List.map] at hY
        subst hY
        k_steps
        exact head_end hret (by k_asm) (by k_asm) (by walk_at "m_incl") (by walk_at "m_al") (hinv_not hi' he hlt0 hne hrow)
      · rw [e1] at hY
        dsimp only [List.map] at hY
        subst hY
        (try walk_at "m_fold")
        (refine Mine.ex_6_2 (rows_all w _ hxm) ?_; intro d9 n9 t1 t2 wd av hpr hrk)
        dsimp only at hpr hrk e2
        subst e2
        have hif9 : True := trivial
        k_steps
        · exact head_end hret (by k_asm) (by k_asm) (by walk_at "m_incl") (by walk_at "m_al") (hinv_end hi' he hlt0 (rk_end hrk (by assumption)))
        unfold Stop
        rename Fr _ _ _ _ => Fw
        rename News _ _ _ _ => Nw
        (try walk_at "m_fold")
        obtain ⟨x, hb, hr, hrx⟩ := rk_row hrk (by assumption)
        refine cut_name (Str.ofString "kind") (fun v => KV v (done ++ [x])) (fun Q' hq' => ?_) (fun kv3 h3 tk3 F₃ N₃ hkv3 => ?_) Fw Nw
        · clear hif9
          (try walk_at "m_fold")
          rcases id hkv with ⟨rfl, hk0⟩ | ⟨q0, l0, rfl, hk0, hq0⟩
          · k_steps
            · exact hq' av _ _ (by k_asm) (by k_asm) (r3_kind hrx (by assumption) hk0)
            · exact hq' .none _ _ (fr_same rfl (by k_asm)) (by k_asm) (r3_nkind hrx (by assumption) hkv)
          · k_steps
            all_goals exact hq' (.ref q0) _ _ (fr_same rfl (by k_asm)) (by k_asm) (kv_same hkv (.inr (fun h => nomatch h)))
        clear Fw Nw
        k_steps
        unfold Stop
        rename Fr _ _ _ _ => Fw
        rename News _ _ _ _ => Nw
        refine cut_name (Str.ofString "way") (fun v => WV v (done ++ [x])) (fun Q' hq' => ?_) (fun wv3 h4 tk4 F₄ N₄ hwv3 => ?_) Fw Nw
        · clear hif9
          (try walk_at "m_fold")
          rcases id hwv with ⟨rfl, hw0⟩ | ⟨l0, t0, rfl, hw0⟩
          · k_steps
            · exact hq' av _ _ (by k_asm) (by k_asm) (r3_way hrx (by assumption) hw0)
            · exact hq' .none _ _ (fr_same rfl (by k_asm)) (by k_asm) (r3_nway hrx (by assumption) hwv)
          · k_steps
            all_goals exact hq' _ _ _ (fr_same rfl (by k_asm)) (by k_asm) (wv_same hwv (.inr (fun h => nomatch h)))
        clear Fw Nw hif9
        k_steps
        exact hc_next (by k_asm) (by k_asm) (by k_mem) (by k_mem) (by k_mem) (by walk_at "m_incl") (by walk_at "m_frok") (by assumption) dD (by assumption) hi' he hlt0 hb hr hkv3 hwv3
  · have hge : e ≤ at1 := by (first | lia | omega)
    exact head_end hret (by k_asm) (by k_asm) (by walk_at "m_incl") (by walk_at "m_al") (hinv_done (c := ⟨at1, ta1, kv, wv, done⟩) hi hge)

end
/-! F4 -/
section
open PyProof.V PySem.Spec PyProof.Rows.LCg PyProof.Rows.LCt SeqAt
/-- the law's own view of a boundary's line -/
theorem way_menu : ∀ m ∈ menu, ∀ b, (b = [97] ∨ b = [98]) →
    ((stripR #[32, 9] m = [45, 45] ++ b → (wayOf m b != Str.ofString "") = true ∧ (wayOf m b == Str.ofString "last") = false) ∧
    (stripR #[32, 9] m = ([45, 45] ++ b) ++ [45, 45] → (wayOf m b != Str.ofString "") = true ∧ (wayOf m b == Str.ofString "last") = true) ∧
    (stripR #[32, 9] m ≠ [45, 45] ++ b → stripR #[32, 9] m ≠ ([45, 45] ++ b) ++ [45, 45] → (wayOf m b != Str.ofString "") = false)) := by
  have h : [[97], [98]].all (fun b => menu.all fun m => decide ((stripR #[32, 9] m = [45, 45] ++ b → (wayOf m b != Str.ofString "") = true ∧ (wayOf m b == Str.ofString "last") = false) ∧
    (stripR #[32, 9] m = ([45, 45] ++ b) ++ [45, 45] → (wayOf m b != Str.ofString "") = true ∧ (wayOf m b == Str.ofString "last") = true) ∧
    (stripR #[32, 9] m ≠ [45, 45] ++ b → stripR #[32, 9] m ≠ ([45, 45] ++ b) ++ [45, 45] → (wayOf m b != Str.ofString "") = false))) = true := by decide +kernel
  intro m hm b hb
  have h1 := List.all_eq_true.mp h b (by rcases hb with rfl | rfl <;> simp)
  exact of_decide_eq_true (List.all_eq_true.mp h1 m hm)
theorem stripR_app (l : List UInt8) (c : UInt8) (h : c = 32 ∨ c = 9) : stripR #[32, 9] (l ++ [c]) = stripR #[32, 9] l := by
  unfold stripR
  rcases h with rfl | rfl <;> simp
theorem stripR_end (l : List UInt8) (h1 : l.drop (l.length - 1) ≠ [32]) (h2 : l.drop (l.length - 1) ≠ [9]) : stripR #[32, 9] l = l := by
  rcases List.eq_nil_or_concat l with rfl | ⟨r, c, rfl⟩
  · rfl
  · have e : (r.concat c).drop ((r.concat c).length - 1) = [c] := by simp
    rw [e] at h1 h2
    have hc : ¬ (c = 32 ∨ c = 9) := fun h => by rcases h with rfl | rfl <;> simp at h1 h2
    unfold stripR
    rw [List.concat_eq_append, List.reverse_append]
    simp [hc]
theorem cut_last {cur : List UInt8} (h : ([32] == cur.drop (cur.length - 1) || [9] == cur.drop (cur.length - 1)) = true) : stripR #[32, 9] (cur.take (cur.length - 1)) = stripR #[32, 9] cur ∧ (cur.take (cur.length - 1)).length < cur.length := by
  have key : ∀ c, c = 32 ∨ c = 9 → cur.drop (cur.length - 1) = [c] → stripR #[32, 9] (cur.take (cur.length - 1)) = stripR #[32, 9] cur ∧ (cur.take (cur.length - 1)).length < cur.length := by
    intro c hc e
    have h1 := List.take_append_drop (cur.length - 1) cur
    rw [e] at h1
    have h2 : 0 < cur.length := by
      cases cur with
      | nil => simp at e
      | cons _ _ => simp
    refine ⟨?_, by rw [List.length_take]; (first | lia | omega)⟩
    conv => rhs; rw [← h1]
    exact (stripR_app _ _ hc).symm
  rw [Bool.or_eq_true, beq_iff_eq, beq_iff_eq] at h
  rcases h with h | h
  · exact key 32 (.inl rfl) h.symm
  · exact key 9 (.inr rfl) h.symm
theorem cut_done {cur : List UInt8} (h : ([32] == cur.drop (cur.length - 1) || [9] == cur.drop (cur.length - 1)) = false) : stripR #[32, 9] cur = cur := by
  rw [Bool.or_eq_false_iff] at h
  refine stripR_end cur (fun e => ?_) (fun e => ?_)
  · rw [e] at h; exact absurd h.1 (by decide)
  · rw [e] at h; exact absurd h.2 (by decide)
structure KS where
  done : List (Nat × Nat)
  ys : List Value
  n : Nat
  tl : List (Addr × Obj)
  at1 : Nat
  ta : Tok
  begun : Option Nat
  tb : Tok
  before : Nat
  tf : Tok
noncomputable abbrev ksLed (D : Addr) (news : List (Addr × Obj)) (c : KS) : List (Addr × Obj) := (D, listOf c.ys.toArray c.n) :: (c.tl ++ news)
noncomputable abbrev ksPs (c : KS) : List (Str × Value) := [(Str.ofString "at", .int (c.at1 : Int) c.ta), (Str.ofString "begun", .int (natZ c.begun) c.tb), (Str.ofString "before", .int (c.before : Int) c.tf)]
noncomputable abbrev ksP (d b : List UInt8) (e a : Nat) (D : Addr) (news : List (Addr × Obj)) (c : KS) : Prop :=
  c.at1 ≤ e ∧ Good d e c.at1 ∧ partsGo d b e (spansAt d e a) none a = c.done ++ partsGo d b e (spansAt d e c.at1) c.begun c.before ∧ Two (PairIn c.tl) c.ys c.done ∧ (∀ p ∈ c.tl ++ news, p.1 ≠ D) ∧ (∀ q ∈ news, ∀ p ∈ (D, listOf c.ys.toArray c.n) :: c.tl, q.1 < p.1) ∧ c.ys.length ≤ c.at1
noncomputable abbrev crP (l0 : List UInt8) (c : List UInt8 × Tok) : Prop := stripR #[32, 9] c.1 = stripR #[32, 9] l0 ∧ c.1.length ≤ l0.length
theorem in_octsN {prog : Program} {w : World} {A : Around} {E : Value → Shared → Prop} {s : Shared} {h₀ : Heap} {L a : Addr} {news : List (Addr × Obj)} {v : List UInt8} {x y : Array UInt8} {t tx ty : Tok} {n : Nat} {Q : Value → Shared → Prop} (N : News h₀ L s.heap news) (hm : (a, ({ cls := .type "tuple", data := .seq [Value.bytes x tx, Value.bytes y ty].toArray n } : Obj)) ∈ news) (h : Q (.bool (x.toList == v || y.toList == v)) s) :
    wpAny (model prog w) A (compareOp .In (.bytes v.toArray t) (.ref a)) Q E s := by
  refine in_tupleAt (isOctV v) ⟨_, (N _ hm).1, rfl, _, rfl⟩ (fun y hy => ?_) (by simpa [isOctV] using h)
  have hy' := hy
  simp only [List.mem_toArray, List.mem_cons, List.not_mem_nil, or_false] at hy'
  rcases hy' with e | e <;> (rw [e]; exact eqAt_bytes _ _ _ _)
theorem while_K {prog : Program} {w : World} {A : Around} {E : Value → Shared → Prop} {s : Shared} {env : Env} {h₀ : Heap} {L : Addr} {body : List Stmt} {Q : Flow → Shared → Prop} {m₀ : Str → Option Value} {news : List (Addr × Obj)} {σ : Type} {test : Expr} {pos : Pos} (F : Fr h₀ L s.heap m₀) (N : News h₀ L s.heap news) (ps : σ → List (Str × Value)) (xs : List Str) (P : σ → Prop) (μ : σ → Nat) (c₀ : σ) (hk : ∀ p ∈ ps c₀, m₀ p.1 = some p.2) (hp : P c₀)
    (turn : ∀ (c₁ : σ) u h tk, P c₁ → Fr h₀ L h (frB xs (ps c₁) u m₀) → News h₀ L h news →
      wpAny (model prog w) A (isTrue test env (eval test env)) (fun b s₂ =>
        if b = true then wpAny (model prog w) A (execs body env) (WhPost h₀ L (fun _ => news) ps xs m₀ P μ (μ c₁) s Q) E s₂ else Q .next s₂) E { s with heap := h, toks := tk })
    (hE : PassesOwn (model prog w) A env E := by passes_own) :
    wpAny (model prog w) A (exec (.While test body [] pos) env) Q E s := while_st (fun _ => news) ps xs P μ c₀ F N hk hp turn hE
theorem add_L {prog : Program} {w : World} {A : Around} {E : Value → Shared → Prop} {s : Shared} {h₀ : Heap} {L a b : Addr} {m : Str → Option Value} {news : List (Addr × Obj)} {ys zs : List Value} {n1 n2 : Nat} {Q : Value → Shared → Prop} (F : Fr h₀ L s.heap m) (N : News h₀ L s.heap news) (ma : (a, listOf ys.toArray n1) ∈ news) (mb : (b, listOf zs.toArray n2) ∈ news) (hz : ys.length + zs.length ≤ 16777216)
    (h : ∀ D h', Fr h₀ L h' m → News h₀ L h' ((D, listOf (ys ++ zs).toArray 0) :: news) → (∀ p ∈ news, p.1 < D) → Q (.ref D) { s with heap := h' }) : wpAny (model prog w) A (binaryOp .Add (.ref a) (.ref b)) Q E s :=
  PySem.W.kmk_add_lit (its := ys.toArray) (its2 := zs.toArray) F N ⟨_, (N _ ma).1, rfl, _, rfl⟩ ⟨_, (N _ mb).1, rfl, _, rfl⟩ rfl h (by rw [sizeLine_eq]; exact hz)
theorem natZ_some {bg : Option Nat} (h : 0 ≤ natZ bg) : ∃ g : Nat, bg = some g ∧ natZ bg = (g : Int) := by
  cases bg with
  | none => exact absurd h (by decide)
  | some g => exact ⟨g, rfl, rfl⟩
theorem natZ_none {bg : Option Nat} (h : ¬ 0 ≤ natZ bg) : bg = none := by
  cases bg with
  | none => rfl
  | some g => exact absurd (Int.natCast_nonneg g) h
section
variable {d b : List UInt8} {a e at1 : Nat} {bg : Option Nat} {bf : Nat}
theorem go_skip (h : at1 < e) (hw : (wayOf (seg d at1 (lineAt d at1 e).1) b != Str.ofString "") = false) : partsGo d b e (spansAt d e at1) bg bf = partsGo d b e (spansAt d e (lineAt d at1 e).2) bg (lineAt d at1 e).1 := by
  rw [spansAt_line h, partsGo, if_neg (by rw [hw]; exact Bool.false_ne_true)]
theorem go_next (h : at1 < e) (hw : (wayOf (seg d at1 (lineAt d at1 e).1) b != Str.ofString "") = true) (h2 : (wayOf (seg d at1 (lineAt d at1 e).1) b == Str.ofString "last") = false) : partsGo d b e (spansAt d e at1) bg bf = preOf bg bf ++ partsGo d b e (spansAt d e (lineAt d at1 e).2) (some (lineAt d at1 e).2) (lineAt d at1 e).1 := by
  rw [spansAt_line h, partsGo, if_pos hw, if_neg (by rw [h2]; exact Bool.false_ne_true)]
theorem go_last (h : at1 < e) (hw : (wayOf (seg d at1 (lineAt d at1 e).1) b != Str.ofString "") = true) (h2 : (wayOf (seg d at1 (lineAt d at1 e).1) b == Str.ofString "last") = true) : partsGo d b e (spansAt d e at1) bg bf = preOf bg bf := by
  rw [spansAt_line h, partsGo, if_pos hw, if_pos h2, List.append_nil]
theorem go_end (h : ¬ at1 < e) : partsGo d b e (spansAt d e at1) bg bf = endOf bg e := by
  rw [spansAt_end (by (first | lia | omega)), partsGo]
end
theorem pre_some {bg : Option Nat} {bf : Nat} {y : Int} (hg : 0 ≤ natZ bg) (hy : (natZ bg < (bf : Int) ∧ y = (bf : Int)) ∨ (¬ natZ bg < (bf : Int) ∧ y = natZ bg)) : ∃ g k : Nat, natZ bg = (g : Int) ∧ y = (k : Int) ∧ preOf bg bf = [(g, k)] := by
  (refine Mine.ex_1_2 (natZ_some hg) ?_; intro g eq1 e; subst eq1)
  rw [e] at hy ⊢
  rcases hy with ⟨h1, rfl⟩ | ⟨h1, rfl⟩
  · exact ⟨g, bf, rfl, rfl, by rw [preOf, Nat.max_eq_right (by (first | lia | omega))]⟩
  · exact ⟨g, g, rfl, rfl, by rw [preOf, Nat.max_eq_left (by (first | lia | omega))]⟩
section
variable {g h₀ h' : Heap} {L D p : Addr} {m m₀ m' : Str → Option Value} {all news tl : List (Addr × Obj)} {s s₁ : Shared} {Q : Value → Shared → Prop} {Q' : Flow → Shared → Prop} {xs : List Str} {tk' : Tok} {d b : List UInt8} {a e at1 n n' before : Nat} {begun : Option Nat} {t1 t2 ta tb tf t8 t9 tb' : Tok} {ys : List Value} {done : List (Nat × Nat)} {y : Int}
theorem ks_ret {z : List (Nat × Nat)}
    (hret : ∀ r tl h' tk', Fr h₀ L h' m → News h₀ L h' (tl ++ news) → (∀ q ∈ news, ∀ p ∈ tl, q.1 < p.1) → PairsOut z tl r → Q r { s with heap := h', toks := tk' })
    (F : Fr h₀ L h' m) (N : News h₀ L h' all) (mD : (D, listOf ys.toArray n) ∈ all) (mt : ∀ q ∈ tl ++ news, q ∈ all) (hord : ∀ q ∈ news, ∀ p ∈ (D, listOf ys.toArray n) :: tl, q.1 < p.1) (two : Two (PairIn tl) ys done) (hz : z = done) : Q (.ref D) { s with heap := h', toks := tk' } := by
  subst hz
  exact hret _ ((D, listOf ys.toArray n) :: tl) _ _ F (news_sub N fun q hq => by
    rcases List.mem_cons.mp hq with h | h
    · rw [h]; exact mD
    · exact mt q h) hord ⟨D, ys, n, rfl, .head _, two.mono fun _ _ k => k.mono fun p hp => .tail _ hp⟩
theorem ks_retA {z : List (Nat × Nat)}
    (hret : ∀ r tl h' tk', Fr h₀ L h' m → News h₀ L h' (tl ++ news) → (∀ q ∈ news, ∀ p ∈ tl, q.1 < p.1) → PairsOut z tl r → Q r { s with heap := h', toks := tk' })
    (F : Fr h₀ L h' m) (N : News h₀ L h' all) (mp : (p, tup [.int (natZ begun) t1, .int y t2]) ∈ all) (mD : (D, listOf (ys.toArray.push (.ref p)) (n + 1)) ∈ all) (mt : ∀ q ∈ tl ++ news, q ∈ all) (lp : AllLt p (tl ++ news)) (hi : ksP d b e a D news ⟨done, ys, n, tl, at1, ta, begun, tb, before, tf⟩)
    (hg : 0 ≤ natZ begun) (hy : (natZ begun < (before : Int) ∧ y = (before : Int)) ∨ (¬ natZ begun < (before : Int) ∧ y = natZ begun)) (hz : z = done ++ preOf begun before) : Q (.ref D) { s with heap := h', toks := tk' } := by
  (refine Mine.ex_0_7 (hi) ?_; (try clear hi); intro hle G1 hgo htwo hoff hord hys)
  dsimp only at hle G1 hgo htwo hoff hord hys
  (refine Mine.ex_2_3 (pre_some hg hy) ?_; intro g k e1 e2 e3)
  rw [e3] at hz
  rw [e1, e2] at mp
  rw [List.push_toArray] at mD
  refine ks_ret (tl := (p, tup [.int (g : Int) t1, .int (k : Int) t2]) :: tl) hret F N mD (fun q hq => ?_) ?_ (pr_more (x := (g, k)) htwo rfl) hz
  · rw [List.cons_append] at hq
    rcases List.mem_cons.mp hq with h | h
    · rw [h]; exact mp
    · exact mt q h
  · exact ord_D hord (allLt_right lp)
theorem ks_retN {D2 : Addr} {n2 : Nat}
    (hret : ∀ r tl h' tk', Fr h₀ L h' m → News h₀ L h' (tl ++ news) → (∀ q ∈ news, ∀ p ∈ tl, q.1 < p.1) → PairsOut (partsGo d b e (spansAt d e a) none a) tl r → Q r { s with heap := h', toks := tk' })
    (F : Fr h₀ L h' m) (N : News h₀ L h' all) (mp : (p, tup [.int (natZ begun) t1, .int (e : Int) t2]) ∈ all) (mD : (D2, listOf (ys ++ [Value.ref p]).toArray n2) ∈ all) (mt : ∀ q ∈ tl ++ news, q ∈ all) (lp : AllLt p (tl ++ news)) (l2 : AllLt D2 (tl ++ news)) (hi : ksP d b e a D news ⟨done, ys, n, tl, at1, ta, begun, tb, before, tf⟩)
    (hg : 0 ≤ natZ begun) (hge : ¬ at1 < e) : Q (.ref D2) { s with heap := h', toks := tk' } := by
  (refine Mine.ex_0_7 (hi) ?_; (try clear hi); intro hle G1 hgo htwo hoff hord hys)
  dsimp only at hle G1 hgo htwo hoff hord hys
  (refine Mine.ex_1_2 (natZ_some hg) ?_; intro g eq1 e1; subst eq1)
  rw [e1] at mp
  refine ks_ret (tl := (p, tup [.int (g : Int) t1, .int (e : Int) t2]) :: tl) hret F N mD (fun q hq => ?_) ?_ (pr_more (x := (g, e)) htwo rfl) (by rw [hgo, go_end hge]; rfl)
  · rw [List.cons_append] at hq
    rcases List.mem_cons.mp hq with h | h
    · rw [h]; exact mp
    · exact mt q h
  · exact ord_cons (allLt_right l2) (ord_cons (allLt_right lp) fun z hz y hy => hord z hz y (.tail _ hy))
theorem ks_next (F : Fr g L h' m') (N : News g L h' all) (mD : (D, listOf ys.toArray n) ∈ all) (mt : ∀ q ∈ tl ++ news, q ∈ all) (k : FrOk xs (ksPs ⟨done, ys, n, tl, (lineAt d at1 e).2, t9, begun, tb', (lineAt d at1 e).1, t8⟩) m₀ m') (hle : at1 ≤ e) (G1 : Good d e at1) (hlt : at1 < e)
    (hgo : partsGo d b e (spansAt d e a) none a = done ++ partsGo d b e (spansAt d e (lineAt d at1 e).2) begun (lineAt d at1 e).1) (htwo : Two (PairIn tl) ys done) (hoff : ∀ p ∈ tl ++ news, p.1 ≠ D) (hord : ∀ q ∈ news, ∀ p ∈ (D, listOf ys.toArray n) :: tl, q.1 < p.1) (hys : ys.length ≤ (lineAt d at1 e).2) :
    WhPost (σ := KS) g L (ksLed D news) ksPs xs m₀ (ksP d b e a D news) (fun c => e - c.at1) (e - at1) s₁ Q' .next { s₁ with heap := h', toks := tk' } := by
  have hl := lineAt_le (d := d) hle
  have hl2 := lineAt_lt (d := d) hlt
  refine WhPost.next (⟨done, ys, n, tl, (lineAt d at1 e).2, t9, begun, tb', (lineAt d at1 e).1, t8⟩ : KS) F N (fun q hq => ?_) k ⟨hl.2.2, (G1.step hlt).2, hgo, htwo, hoff, hord, hys⟩ ?_
  · rcases List.mem_cons.mp hq with h | h
    · rw [h]; exact mD
    · exact mt q h
  · dsimp only; (first | lia | omega)
theorem ks_nextA (F : Fr g L h' m') (N : News g L h' all) (mp : (p, tup [.int (natZ begun) t1, .int y t2]) ∈ all) (mD : (D, listOf (ys.toArray.push (.ref p)) (n + 1)) ∈ all) (mt : ∀ q ∈ tl ++ news, q ∈ all) (lp : AllLt p (tl ++ news)) (lD : D < p) (hi : ksP d b e a D news ⟨done, ys, n, tl, at1, ta, begun, tb, before, tf⟩)
    (hg : 0 ≤ natZ begun) (hy : (natZ begun < (before : Int) ∧ y = (before : Int)) ∨ (¬ natZ begun < (before : Int) ∧ y = natZ begun))
    (k : FrOk xs [(Str.ofString "at", .int ((lineAt d at1 e).2 : Int) t9), (Str.ofString "begun", .int ((lineAt d at1 e).2 : Int) tb'), (Str.ofString "before", .int ((lineAt d at1 e).1 : Int) t8)] m₀ m') (hlt : at1 < e)
    (hw : (wayOf (seg d at1 (lineAt d at1 e).1) b != Str.ofString "") = true) (h2 : (wayOf (seg d at1 (lineAt d at1 e).1) b == Str.ofString "last") = false) :
    WhPost (σ := KS) g L (ksLed D news) ksPs xs m₀ (ksP d b e a D news) (fun c => e - c.at1) (e - at1) s₁ Q' .next { s₁ with heap := h', toks := tk' } := by
  (refine Mine.ex_0_7 (hi) ?_; (try clear hi); intro hle G1 hgo htwo hoff hord hys)
  dsimp only at hle G1 hgo htwo hoff hord hys
  (refine Mine.ex_2_3 (pre_some hg hy) ?_; intro g' k' e1 e2 e3)
  rw [e1, e2] at mp
  rw [List.push_toArray] at mD
  have hl2 := lineAt_lt (d := d) hlt
  refine ks_next (tl := (p, tup [.int (g' : Int) t1, .int (k' : Int) t2]) :: tl) (done := done ++ [(g', k')]) (begun := some (lineAt d at1 e).2) F N mD (fun q hq => ?_) k hle G1 hlt ?_ (pr_more (x := (g', k')) htwo rfl) ?_ ?_ ?_
  · rw [List.cons_append] at hq
    rcases List.mem_cons.mp hq with h | h
    · rw [h]; exact mp
    · exact mt q h
  · rw [hgo, go_next hlt hw h2, e3, List.append_assoc]
  · rw [List.cons_append]
    exact off_cons (Nat.ne_of_gt lD) hoff
  · exact ord_D hord (allLt_right lp)
  · rw [List.length_append, List.length_singleton]; (first | lia | omega)
end
theorem cur_way {m b cur : List UInt8} (hm : m ∈ menu) (hb : b = [97] ∨ b = [98]) (hc : stripR #[32, 9] cur = stripR #[32, 9] m) (he : stripR #[32, 9] cur = cur) :
    ((cur == [45, 45] ++ b) = true → (wayOf m b != Str.ofString "") = true ∧ (wayOf m b == Str.ofString "last") = false) ∧
    ((cur == ([45, 45] ++ b) ++ [45, 45]) = true → (wayOf m b != Str.ofString "") = true ∧ (wayOf m b == Str.ofString "last") = true) ∧
    ((cur == [45, 45] ++ b) = false → (cur == ([45, 45] ++ b) ++ [45, 45]) = false → (wayOf m b != Str.ofString "") = false) := by
  have hw := way_menu m hm b hb
  rw [← hc, he] at hw
  refine ⟨fun h => hw.1 (eq_of_beq h), fun h => hw.2.1 (eq_of_beq h), fun h1 h2 => hw.2.2 (fun h => ?_) fun h => ?_⟩
  · rw [h, beq_self_eq_true] at h1; exact nomatch h1
  · rw [h, beq_self_eq_true] at h2; exact nomatch h2
theorem cur_ab {cur x : List UInt8} (h : (cur == x) = true) (h2 : (cur != x) = true) : False := by
  rw [bne, h] at h2; exact nomatch h2
theorem cur_ab2 {cur x : List UInt8} (h : (cur == x ++ [45, 45]) = true) (h2 : (cur != x) = false) : False := by
  have e : cur = x ++ [45, 45] := eq_of_beq h
  have e2 : cur = x := by simpa using h2
  have := congrArg List.length (e.symm.trans e2)
  rw [List.length_append] at this
  simp at this
theorem reg_51 : True := by
  k_with "my call ref" => (((fail_if_success (fail_if_success (have z9 := hsF4))); ((k_here; (with_reducible show wpAny _ _ (call (Value.ref 646) _) _ _ _); (try walk_at "m_fold"); k_dflt (refine' CtrA.useS ?k0ₘ ?k1ₘ ?k2ₘ ?k3ₘ ?k4ₘ ?k5ₘ ?kKₘ ?kdₘ ?kuₘ ?_; (case k1ₘ => k_asm); (case k2ₘ => k_asm); (case k3ₘ => k_asm); (case k4ₘ => k_asm); (case k5ₘ => k_asm); (case k0ₘ => exact (law_line_ok _ _ _ _ _ _ _ (by assumption) (by (first | lia | omega)) (by (first | lia | omega)) _)); (case kKₘ => first | exact rfl | assumption); (case kdₘ => ktr_room); (case kuₘ => ktr_units); k_whole); intro r9ₘ tl9ₘ h9ₘ tk9ₘ F9ₘ N9ₘ hl9ₘ ho9ₘ; (refine Mine.ex_3_2 (ho9ₘ) ?_; (try clear ho9ₘ); intro p9ₘ t8ₘ t9ₘ e8ₘ e9ₘ); subst e8ₘ; subst e9ₘ; replace hl9ₘ := Mine.lt_one hl9ₘ; (try simp only [AllLt, and_true] at hl9ₘ); (try simp only [List.cons_append, List.nil_append] at N9ₘ); (try k_sweep); (try k_unfold); (try dsimp only); (try walk_at "m_fold")))))
  k_with "my compareOp In bytes ref" => (((fail_if_success (fail_if_success (have z9 := hsF4))); ((k_here; k_dflt (refine' Mine.in_octsN ?Nₘ ?mₘ ?_; (case Nₘ => k_asm); (case mₘ => k_mem); k_whole)))))
  k_with "my binaryOp Add ref ref" => (((fail_if_success (fail_if_success (have z9 := hsF4))); ((k_here; (with_reducible show wpAny _ _ (binaryOp _ (Value.ref _) (Value.ref _)) _ _ _); k_dflt (refine' Mine.add_L ?Fₘ ?Nₘ ?aₘ ?bₘ ?zₘ ?_; (case Fₘ => k_asm); (case Nₘ => k_asm); (case aₘ => k_mem); (case bₘ => k_mem); (case zₘ => (simp only [List.length_cons, List.length_nil]; (first | lia | omega))); k_whole); intro D'ₘ h'ₘ F'ₘ N'ₘ l1ₘ; (try k_lt l1ₘ); (try k_sweep)))))
  trivial
set_option maxHeartbeats 4000000 in
theorem law_kids_ok (w : World) (d b : List UInt8) (t u : Tok) (a : Nat) (ta : Tok) (e : Nat) (te : Tok) (hz1 : d.length + 1 ≤ 16777216) (hb : b = [97] ∨ b = [98]) (ha : a ≤ e) (he : e ≤ d.length) (G : Good d e a) (news : List (Addr × Obj)) :
   CtrA w 658 10 [.bytes d.toArray t, .int a ta, .int e te, .bytes ([45, 45] ++ b).toArray u] news (PairsOut (partsGo d b e (spansAt d e a) none a)) := by
  have hsF4 : True := trivial
  have hz : d.length ≤ 16777216 := by (first | lia | omega)
  unfold CtrA
  intro prog dp un gd cn cs aF ccd cl outer A₀ base h₀ L m s loose mean mg mb Q E B F X N T hk hdp hu hret
  refine wpAny_call ?_
  k_dflt (refine' code_def (binds := [(Str.ofString "data", .bytes d.toArray t), (Str.ofString "at", .int a ta), (Str.ofString "end", .int e te), (Str.ofString "mark", .bytes ([45, 45] ++ b).toArray u)]) ?k1 ?k2 ?k3 ?k4 ?k5 ?kA ?kF ?kK ?k6 ?k7 ?k8 ?k9 ?kB ?_ ?c2 ?c3 ?c4 ?c5; (case kA => exact rfl); (case kF => exact rfl); (case kK => assumption); (case k1 => exact B); (case k2 => exact F); (case k3 => exact X); (case k4 => exact N); (case k5 => exact T); (case k6 => k_is); (case k7 => k_is); (case k8 => ktr_room); (case k9 => first | exact BindsTo.of_eq rfl | exact binds_K (Frag.In.keeps X F.keep) rfl (by k_is) rfl rfl rfl); (case c5 => decide); (case kB => exact locs rfl); (case c2 => exact rfl); (case c3 => exact rfl); (case c4 => exact rfl); k_whole; intro g L₁ h₁ FG F₁ N₁ B₁ X₁ T₁; (try dsimp only); (try walk_at "m_fold"))
  replace F₁ : Fr g L₁ h₁ (fun y => List.lookup y [(Str.ofString "mark", .bytes ([45, 45] ++ b).toArray u), (Str.ofString "end", .int e te), (Str.ofString "at", .int a ta), (Str.ofString "data", .bytes d.toArray t)]) := F₁
  k_steps
  unfold Stop
  rename Fr _ _ _ _ => Fw
  rename News _ _ _ _ => Nw
  rename (∀ p : Addr × Obj, p ∈ news → p.1 < _) => l1
  rename_i D _ _ _ _ _ _ _
  refine while_st (σ := KS) (ksLed D news) ksPs [Str.ofString "last", Str.ofString "behind", Str.ofString "line"] (ksP d b e a D news) (fun c => e - c.at1) ⟨[], [], 0, [], a, ta, none, _, a, ta⟩ Fw Nw (by walk_at "m_all") ⟨ha, G, rfl, .nil, fun p hp => Nat.ne_of_lt (l1 p hp), ord_cons (allLt_of l1) ord_nil, Nat.zero_le _⟩ ?_
  clear Fw Nw
  rintro ⟨done, ys, n, tl, at1, t1, begun, tb, before, tf⟩ u2 h2 tk2 hi F₂ N₂
  have hle := hi.1
  have G1 := hi.2.1
  have hgo := hi.2.2.1
  have htwo := hi.2.2.2.1
  have hoff := hi.2.2.2.2.1
  have hord := hi.2.2.2.2.2.1
  have hys := hi.2.2.2.2.2.2
  dsimp only [ksLed, ksPs] at hle G1 hgo htwo hoff hord hys F₂ N₂ ⊢
  dsimp only [frB, kstB] at F₂
  have hDt : ∀ y ∈ tl ++ news, y.1 ≠ D := hoff
  have hmk : ([45, 45] ++ b).length + [45, 45].length ≤ 16777216 := by rcases hb with rfl | rfl <;> exact Nat.le_of_ble_eq_true rfl
  k_steps
  · unfold Stop
    rename Fr _ _ _ _ => Fw
    rename News _ _ _ _ => Nw
    rename (↑at1 : Int) < ↑e => hlt
    have hlt0 : at1 < e := by (first | lia | omega)
    clear hlt
    have hm := (G1.step hlt0).1
    have hl := lineAt_le (d := d) hle
    have hz0 : (seg d at1 (lineAt d at1 e).1).length ≤ 16777216 := seg_le hz
    refine while_K (σ := List UInt8 × Tok) Fw Nw (fun c => [(Str.ofString "line", .bytes c.1.toArray c.2)]) [] (crP (seg d at1 (lineAt d at1 e).1)) (fun c => c.1.length) ⟨_, _⟩ (by walk_at "m_all") ⟨rfl, Nat.le_refl _⟩ ?_
    clear Fw Nw
    rintro ⟨cur, tc⟩ u3 h3 tk3 ⟨hc1, hc2⟩ F₃ N₃
    dsimp only at hc1 hc2 F₃ N₃ ⊢
    dsimp only [frB, kstB] at F₃
    have hcz : cur.length ≤ 16777216 := Nat.le_trans hc2 hz0
    k_steps
    all_goals (try (rename (_ || _) = false => hx9; have W := cur_way hm hb hc1 (cut_done hx9)))
    all_goals (first
      | exact (cur_ab (by assumption) (by assumption)).elim
      | exact (cur_ab2 (by assumption) (by assumption)).elim
      | exact ks_nextA (by k_asm) (by k_asm) (.head _) (by k_mem) (by walk_at "m_incl") (by walk_at "m_al") (by walk_at "m_al") hi (by assumption) (.inl ⟨by assumption, rfl⟩) (by walk_at "m_frok") hlt0 (W.1 (by assumption)).1 (W.1 (by assumption)).2
      | exact ks_nextA (by k_asm) (by k_asm) (.head _) (by k_mem) (by walk_at "m_incl") (by walk_at "m_al") (by walk_at "m_al") hi (by assumption) (.inr ⟨by assumption, rfl⟩) (by walk_at "m_frok") hlt0 (W.1 (by assumption)).1 (W.1 (by assumption)).2
      | exact ks_next (begun := some (lineAt d at1 e).2) (by k_asm) (by k_asm) (by k_mem) (by walk_at "m_incl") (by walk_at "m_frok") hle G1 hlt0 (by rw [hgo, go_next hlt0 (W.1 (by assumption)).1 (W.1 (by assumption)).2, natZ_none (show ¬ 0 ≤ natZ begun by assumption)]; rfl) htwo hoff hord (by have := lineAt_lt (d := d) hlt0; (first | lia | omega))
      | exact ks_next (begun := begun) (by k_asm) (by k_asm) (by k_mem) (by walk_at "m_incl") (by walk_at "m_frok") hle G1 hlt0 (by rw [hgo, go_skip hlt0 (W.2.2 (by assumption) (by assumption))]) htwo hoff hord (by have := lineAt_lt (d := d) hlt0; (first | lia | omega))
      | exact ks_retA hret (by k_asm) (by k_asm) (.head _) (by k_mem) (by walk_at "m_incl") (by walk_at "m_al") hi (by assumption) (.inl ⟨by assumption, rfl⟩) (by rw [hgo, go_last hlt0 (W.2.1 (by assumption)).1 (W.2.1 (by assumption)).2])
      | exact ks_retA hret (by k_asm) (by k_asm) (.head _) (by k_mem) (by walk_at "m_incl") (by walk_at "m_al") hi (by assumption) (.inr ⟨by assumption, rfl⟩) (by rw [hgo, go_last hlt0 (W.2.1 (by assumption)).1 (W.2.1 (by assumption)).2])
      | exact ks_ret hret (by k_asm) (by k_asm) (by k_mem) (by walk_at "m_incl") hord htwo (by rw [hgo, go_last hlt0 (W.2.1 (by assumption)).1 (W.2.1 (by assumption)).2, natZ_none (show ¬ 0 ≤ natZ begun by assumption)]; exact List.append_nil _)
      | exact WhPost.next (cur.take (cur.length - 1), _) (by k_asm) (by k_asm) (by walk_at "m_incl") (by walk_at "m_frok") ⟨(cut_last (by assumption)).1.trans hc1, Nat.le_trans (Nat.le_of_lt (cut_last (by assumption)).2) hc2⟩ (cut_last (by assumption)).2)
  · have hge : ¬ at1 < e := by (first | lia | omega)
    have hbn : ¬ 0 ≤ natZ begun := by (first | lia | omega)
    exact ks_ret hret (by k_asm) (by k_asm) (by k_mem) (by walk_at "m_incl") hord htwo (by rw [hgo, go_end hge, natZ_none hbn]; exact List.append_nil _)
  · have hge : ¬ at1 < e := by (first | lia | omega)
    have hbn : 0 ≤ natZ begun := by (first | lia | omega)
    exact ks_retN hret (by k_asm) (by k_asm) (by k_mem) (by k_mem) (by walk_at "m_incl") (by walk_at "m_al") (by walk_at "m_al") hi hbn hge

end
/-! P5 -/
section
open PyProof.V PySem.Spec PyProof.Rows.LCg PyProof.Rows.LCt
/-- a kind of the law, in the written heap -/
noncomputable def BaseK (w : World) (q : Addr) (kd : KD) : Prop := ∃ (d dq : Option Addr) (n nq : Nat) (t1 t2 : Tok) (pq : Addr), (Mine.H.heap_1_41 w.params).lookup q = some ({ cls := .type "tuple", dict := d, data := .seq ([.str kd.1 t1, .str kd.2.1 t2, .ref pq] : List Value).toArray n } : Obj) ∧
  ((kd.2.2 = [] ∧ (Mine.H.heap_1_41 w.params).lookup pq = some ({ cls := .type "tuple", dict := dq, data := .seq ([] : List Value).toArray nq } : Obj)) ∨
   ∃ (x y : Str) (pr : Addr) (dr : Option Addr) (nr : Nat) (t3 t4 : Tok), kd.2.2 = [(x, y)] ∧ (Mine.H.heap_1_41 w.params).lookup pq = some ({ cls := .type "tuple", dict := dq, data := .seq ([.ref pr] : List Value).toArray nq } : Obj) ∧
     (Mine.H.heap_1_41 w.params).lookup pr = some ({ cls := .type "tuple", dict := dr, data := .seq ([.str x t3, .str y t4] : List Value).toArray nr } : Obj))
theorem base_all (w : World) : ∀ x ∈ (601, plainK) :: kTab, BaseK w x.1 x.2 := by
  intro v hv
  unfold kTab at hv
  simp only [List.mem_cons, List.not_mem_nil, or_false] at hv
  rcases hv with rfl | rfl | rfl | rfl | rfl | rfl
  · exact ⟨_, _, _, _, _, _, _, by k_is, .inr ⟨_, _, _, _, _, _, _, rfl, by k_is, by k_is⟩⟩
  · exact ⟨_, _, _, _, _, _, _, by k_is, .inr ⟨_, _, _, _, _, _, _, rfl, by k_is, by k_is⟩⟩
  · exact ⟨_, _, _, _, _, _, _, by k_is, .inr ⟨_, _, _, _, _, _, _, rfl, by k_is, by k_is⟩⟩
  · exact ⟨_, _, _, _, _, _, _, by k_is, .inl ⟨rfl, by k_is⟩⟩
  · exact ⟨_, _, _, _, _, _, _, by k_is, .inl ⟨rfl, by k_is⟩⟩
  · exact ⟨_, _, _, _, _, _, _, by k_is, .inl ⟨rfl, by k_is⟩⟩
theorem BaseK.reads {w : World} {q : Addr} {kd : KD} (h : BaseK w q kd) (tl : List (Addr × Obj)) : RD w tl (.ref q) (kindD kd) := by
  intro hp K I
  (refine Mine.ex_7_2 (h) ?_; (try clear h); intro d dq n nq t1 t2 pq h1 h2)
  unfold kindD
  rcases h2 with ⟨e, h2⟩ | ⟨x, y, pr, dr, nr, t3, t4, e, h2, h3⟩
  · rw [e]
    exact ⟨_, .tuple (K _ _ h1) rfl rfl (.cons (.str _ _) (.cons (.str _ _) (.cons (.tuple (K _ _ h2) rfl rfl .nil) .nil)))⟩
  · rw [e]
    exact ⟨_, .tuple (K _ _ h1) rfl rfl (.cons (.str _ _) (.cons (.str _ _) (.cons (.tuple (K _ _ h2) rfl rfl (.cons (.tuple (K _ _ h3) rfl rfl (.cons (.str _ _) (.cons (.str _ _) .nil))) .nil)) .nil)))⟩
theorem eq_nilT {prog : Program} {w : World} {A : Around} {E : Value → Shared → Prop} {s : Shared} {a b : Addr} {ys : List Value} {Q : Value → Shared → Prop} (la : s.heap.IsTuple a ys.toArray) (lb : s.heap.IsTuple b #[]) (hu : A.units < cLine) (h : Q (.bool ys.isEmpty) s) : wpAny (model prog w) A (compareOp .Eq (.ref a) (.ref b)) Q E s := by
  refine PySem.EqBoolInt.of_rc (SeqAt.RcAt.tuples (e := fun _ => true) la lb hu (fun j h1 h2 => absurd h2 (by simp))) ?_
  cases ys with
  | nil => simpa using h
  | cons y r => simpa using h
theorem rd_out {w : World} {tl : List (Addr × Obj)} {D k kt : Addr} {a bo e : Nat} {ta tb te tw : Tok} {kd : KD} {fs : List FieldD} {ys : List Value} {kids : List PyData} {iv : Value} {inner : PyData}
    (hD : (D, tup [.int (a : Int) ta, .int (bo : Int) tb, .int (e : Int) te, .ref k, .str (txt (encOf fs)) tw, .ref kt, iv]) ∈ tl) (hk : RD w tl (.ref k) (kindD kd)) (hkt : (kt, tup ys) ∈ tl) (two : Two (RD w tl) ys kids) (hi : RD w tl iv inner) : RD w tl (.ref D) (treeOut a bo e kd fs kids inner) :=
  RD.tup hD (.cons .int (.cons .int (.cons .int (.cons hk (.cons .str (.cons (RD.tup hkt two) (.cons hi .nil)))))))
/-- the way, with its default -/
noncomputable def WayPost (h₀ : Heap) (L : Addr) (m : Str → Option Value) (news : List (Addr × Obj)) (fs : List FieldD) (s : Shared) (v : Value) (s' : Shared) : Prop := ∃ t h' tk, v = .str (txt (encOf fs)) t ∧ s' = { s with heap := h', toks := tk } ∧ Fr h₀ L h' m ∧ News h₀ L h' news
theorem way_cut {M : Model} {A : Around} {E : Value → Shared → Prop} {s : Shared} {x : Sem Value} {h₀ : Heap} {L : Addr} {m : Str → Option Value} {news : List (Addr × Obj)} {fs : List FieldD} {Q : Value → Shared → Prop} (_F : Fr h₀ L s.heap m) (_N : News h₀ L s.heap news) (h1 : wpAny M A x (WayPost h₀ L m news fs s) E s)
    (h2 : ∀ t h' tk, Fr h₀ L h' m → News h₀ L h' news → Q (.str (txt (encOf fs)) t) { s with heap := h', toks := tk }) : wpAny M A x Q E s :=
  wpAny_mono h1 (fun v s' hq => by (refine Mine.ex_3_4 (hq) ?_; (try clear hq); intro t h' tk eq3 eq4 F N; subst eq3; subst eq4); exact h2 t h' tk F N) fun _ _ e => e

end
/-! F5 -/
section
open PyProof.V PySem.Spec PyProof.Rows.LCg PyProof.Rows.LCt
theorem in_strsN {prog : Program} {w : World} {A : Around} {E : Value → Shared → Prop} {s : Shared} {h₀ : Heap} {L a : Addr} {news : List (Addr × Obj)} {v x y : Str} {t tx ty : Tok} {n : Nat} {Q : Value → Shared → Prop} (N : News h₀ L s.heap news) (hm : (a, ({ cls := .type "tuple", data := .seq [Value.str x tx, Value.str y ty].toArray n } : Obj)) ∈ news) (h : Q (.bool (x == v || y == v)) s) :
    wpAny (model prog w) A (compareOp .In (.str v t) (.ref a)) Q E s := by
  refine SeqAt.in_tupleAt (isStrV v) ⟨_, (N _ hm).1, rfl, _, rfl⟩ (fun y hy => ?_) (by simpa [isStrV] using h)
  have hy' := hy
  simp only [List.mem_toArray, List.mem_cons, List.not_mem_nil, or_false] at hy'
  rcases hy' with e | e <;> (rw [e]; exact SeqAt.EqAt.str_str _ _ _ _)
theorem tree_fin {w : World} {h₀ h' : Heap} {L D k kt : Addr} {m : Str → Option Value} {news all tlx : List (Addr × Obj)} {s : Shared} {Q : Value → Shared → Prop} {tk' : Tok} {a bo e : Nat} {ta tb te tw : Tok} {kd : KD} {fs : List FieldD} {ys : List Value} {kids : List PyData} {iv : Value} {inner z : PyData}
    (hret : ∀ r tl h' tk', Fr h₀ L h' m → News h₀ L h' (tl ++ news) → (∀ q ∈ news, ∀ p ∈ tl, q.1 ≠ p.1) → RD w tl r z → Q r { s with heap := h', toks := tk' })
    (F : Fr h₀ L h' m) (N : News h₀ L h' all) (mD : (D, tup [.int (a : Int) ta, .int (bo : Int) tb, .int (e : Int) te, .ref k, .str (txt (encOf fs)) tw, .ref kt, iv]) ∈ all) (mk : (kt, tup ys) ∈ all) (sub : ∀ p ∈ news, p ∈ all) (subx : ∀ p ∈ tlx, p ∈ all) (lD : AllLt D news) (lk : AllLt kt news) (ne : ∀ q ∈ news, ∀ p ∈ tlx, q.1 ≠ p.1)
    (hk : RD w tlx (.ref k) (kindD kd)) (two : Two (RD w tlx) ys kids) (hi : RD w tlx iv inner) (hz : z = treeOut a bo e kd fs kids inner) : Q (.ref D) { s with heap := h', toks := tk' } := by
  subst hz
  have up : ∀ p ∈ tlx, p ∈ (D, tup [.int (a : Int) ta, .int (bo : Int) tb, .int (e : Int) te, .ref k, .str (txt (encOf fs)) tw, .ref kt, iv]) :: (kt, tup ys) :: tlx := fun p hp => .tail _ (.tail _ hp)
  refine hret _ ((D, tup [.int (a : Int) ta, .int (bo : Int) tb, .int (e : Int) te, .ref k, .str (txt (encOf fs)) tw, .ref kt, iv]) :: (kt, tup ys) :: tlx) _ _ F (fun p hp => ?_) (fun q hq p hp => ?_)
    (rd_out (.head _) (hk.mono up) (.tail _ (.head _)) (two.mono fun _ _ r => r.mono up) (hi.mono up))
  · exact N _ ((show ∀ y ∈ (D, tup [.int (a : Int) ta, .int (bo : Int) tb, .int (e : Int) te, .ref k, .str (txt (encOf fs)) tw, .ref kt, iv]) :: (kt, tup ys) :: (tlx ++ news), y ∈ all from sub_cons mD (sub_cons mk (sub_app subx sub))) p hp)
  · rcases List.mem_cons.mp hp with h | h
    · rw [h]; exact Nat.ne_of_lt (allLt_mem lD q hq)
    · rcases List.mem_cons.mp h with h | h
      · rw [h]; exact Nat.ne_of_lt (allLt_mem lk q hq)
      · exact ne q hq p h
theorem eq_tup0 {prog : Program} {w : World} {A : Around} {E : Value → Shared → Prop} {s : Shared} {K : Frag} {h₀ : Heap} {L a b : Addr} {news : List (Addr × Obj)} {d : Option Addr} {sl : Array (Option Value)} {n n2 : Nat} {Q : Value → Shared → Prop} (X : K.In s.heap) (ho : K.lookup a = some ⟨.type "tuple", d, .seq ([] : List Value).toArray n, sl⟩) (N : News h₀ L s.heap news) (mb : (b, ({ cls := .type "tuple", data := .seq #[] n2 } : Obj)) ∈ news) (hu : A.units < cLine) (h : Q (.bool true) s) : wpAny (model prog w) A (compareOp .Eq (.ref a) (.ref b)) Q E s :=
  eq_nilT (ys := []) ⟨_, X _ _ ho, rfl, _, rfl⟩ ⟨_, (N _ mb).1, rfl, _, rfl⟩ hu h
theorem eq_tup1 {prog : Program} {w : World} {A : Around} {E : Value → Shared → Prop} {s : Shared} {K : Frag} {h₀ : Heap} {L a b : Addr} {news : List (Addr × Obj)} {d : Option Addr} {sl : Array (Option Value)} {n n2 : Nat} {y : Value} {ys : List Value} {Q : Value → Shared → Prop} (X : K.In s.heap) (ho : K.lookup a = some ⟨.type "tuple", d, .seq (y :: ys).toArray n, sl⟩) (N : News h₀ L s.heap news) (mb : (b, ({ cls := .type "tuple", data := .seq #[] n2 } : Obj)) ∈ news) (hu : A.units < cLine) (h : Q (.bool false) s) : wpAny (model prog w) A (compareOp .Eq (.ref a) (.ref b)) Q E s :=
  eq_nilT (ys := y :: ys) ⟨_, X _ _ ho, rfl, _, rfl⟩ ⟨_, (N _ mb).1, rfl, _, rfl⟩ hu h
structure TS where
  us : List Value
  n : Nat
  tl : List (Addr × Obj)
theorem off_appK {X tl5 all : List (Addr × Obj)} {D : Addr} {o : Obj} (h : ∀ y ∈ X, y.1 ≠ D) (hl : ∀ q ∈ all, ∀ p ∈ tl5, q.1 ≠ p.1) (hm : (D, o) ∈ all) : ∀ y ∈ X ++ tl5, y.1 ≠ D := fun y hy => by
  rcases List.mem_append.mp hy with h1 | h1
  · exact h y h1
  · exact (hl _ hm y h1).symm
noncomputable abbrev tsLed (Dk : Addr) (X : List (Addr × Obj)) (c : TS) : List (Addr × Obj) := (Dk, listOf c.us.toArray c.n) :: (c.tl ++ X)
noncomputable abbrev tsP (w : World) (zs : List PyData) (Dk : Addr) (X news : List (Addr × Obj)) (i : Nat) (c : TS) : Prop := c.us.length = i ∧ Two (RD w c.tl) c.us (zs.take i) ∧ (∀ p ∈ c.tl ++ X, p.1 ≠ Dk) ∧ ∀ q ∈ news, ∀ p ∈ c.tl, q.1 ≠ p.1
theorem allLt_sub {D : Addr} {tl X news : List (Addr × Obj)} (h : AllLt D (tl ++ X)) (s : ∀ q ∈ news, q ∈ X) : AllLt D news := allLt_of fun p hp => allLt_mem h p (List.mem_append_right _ (s p hp))
theorem kt_next {w : World} {g h' : Heap} {L I Dk pp : Addr} {oI o o0 d0 : Obj} {a0 : Addr × Obj} {m₀ m' : Str → Option Value} {X tl tl5 news : List (Addr × Obj)} {s₁ : Shared} {Q : Flow → Shared → Prop} {xs : List Str} {tk' : Tok} {us : List Value} {r5 : Value} {n1 i : Nat} {zs : List (Nat × Nat)} {x : Nat × Nat} {tr : Nat × Nat → PyData}
    (F : Fr g L h' m') (N : News g L h' ((pp, o) :: (I, oI) :: (Dk, listOf (us.toArray.push r5) (n1 + 1)) :: (tl ++ X ++ tl5))) (hlen : us.length = i) (htwo : Two (RD w tl) us ((zs.map tr).take i)) (hne : ∀ q ∈ news, ∀ p ∈ tl, q.1 ≠ p.1) (hof5 : ∀ y ∈ tl ++ X ++ tl5, y.1 ≠ Dk) (hl5 : ∀ q ∈ a0 :: (I, oI) :: (Dk, d0) :: (tl ++ X), ∀ p ∈ tl5, q.1 ≠ p.1)
    (off : ∀ p ∈ (Dk, o0) :: (tl ++ X), p.1 ≠ I) (hn : ∀ q ∈ news, q ∈ X) (hx : zs[i]? = some x) (ho : RD w tl5 r5 (tr x)) (k : FrOk xs [] m₀ m') :
    ForPostS (σ := TS) g L I oI (tsLed Dk X) (fun _ => []) xs m₀ (tsP w (zs.map tr) Dk X news (i + 1)) s₁ Q .next { s₁ with heap := h', toks := tk' } := by
  rw [List.push_toArray] at N
  refine ForPostS.next (⟨us ++ [r5], n1 + 1, tl5 ++ tl⟩ : TS) F N (fun p hp => ?_) (fun p hp => ?_) k ⟨?_, ?_, fun p hp => hof5 p ?_, fun q hq p hp => ?_⟩
  · simp only [List.mem_cons, List.mem_append] at hp ⊢
    rcases hp with h | h | (h | h) | h <;> simp [h]
  · simp only [List.mem_cons, List.mem_append] at hp
    rcases hp with h | (h | h) | h
    · rw [h]; exact off (Dk, o0) (.head _)
    · exact (hl5 (I, oI) (.tail _ (.head _)) p h).symm
    · exact off _ (.tail _ (List.mem_append_left _ h))
    · exact off _ (.tail _ (List.mem_append_right _ h))
  · dsimp only; rw [List.length_append, List.length_singleton, hlen]
  · dsimp only
    rw [List.take_add_one, List.getElem?_map, hx]
    exact (htwo.mono fun _ _ r => r.mono fun p hp => List.mem_append_right _ hp).snoc (ho.mono fun p hp => List.mem_append_left _ hp)
  · simp only [List.mem_append] at hp ⊢
    rcases hp with (h | h) | h <;> simp [h]
  · rcases List.mem_append.mp hp with h | h
    · exact hl5 q (.tail _ (.tail _ (.tail _ (List.mem_append_right _ (hn q hq))))) p h
    · exact hne q hq p h
theorem parts_len {d b : List UInt8} {e bo : Nat} : (partsGo d b e (spansAt d e bo) none bo).length ≤ e + 1 := by
  have hs : (spansAt d e bo).length ≤ e := Nat.le_trans (spansRun_len (d := d) (e := e) (e - bo) bo) (Nat.sub_le _ _)
  exact Nat.le_trans (pg_len _ _ _) (Nat.succ_le_succ hs)
theorem bytes_one {prog : Program} {w : World} {A : Around} {E : Value → Shared → Prop} {s : Shared} {h₀ : Heap} {L D : Addr} {m : Str → Option Value} {news : List (Addr × Obj)} {n c k : Nat} {u : Tok} {Q : Value → Shared → Prop} (F : Fr h₀ L s.heap m) (N : News h₀ L s.heap news) (hh : A.handled = none) (hm : (D, listOf #[.int (c : Int) u] n) ∈ news) (hc : c = k) (hk : k < 256)
    (hq : ∀ h' t' j, Fr h₀ L h' m → News h₀ L h' news → Q (.bytes [k.toUInt8].toArray t') { s with heap := h', toks := j }) : wpAny (model prog w) A (call (.type "bytes") [.ref D]) Q E s := by
  subst hc
  exact bytes_nums (ys := [.int (c : Int) u]) (l := [c]) F N hh hm (.cons ⟨_, rfl⟩ .nil) (fun x hx => by rw [List.mem_singleton.mp hx]; exact hk) (by exact Nat.le_of_ble_eq_true rfl) hq
/-- the law's kind, of the written heap or new -/
noncomputable def KindR (w : World) (led : List (Addr × Obj)) (k : Addr) (kd : KD) : Prop := (k, kd) ∈ (601, plainK) :: kTab ∨ (kd = kd3 ∧ ∃ pe t1 t2, (k, tup [.str (Str.ofString "message") t1, .str (Str.ofString "rfc822") t2, .ref pe]) ∈ led ∧ (pe, tup []) ∈ led)
theorem KindR.reads {w : World} {led : List (Addr × Obj)} {k : Addr} {kd : KD} (h : KindR w led k kd) : RD w led (.ref k) (kindD kd) := by
  rcases h with h | ⟨rfl, pe, t1, t2, h1, h2⟩
  · exact (base_all w _ h).reads _
  · exact RD.tup h1 (.cons .str (.cons .str (.cons (RD.tup h2 .nil) .nil)))
theorem KindR.tupAt {w : World} {led all : List (Addr × Obj)} {k : Addr} {kd : KD} {h₀ h : Heap} {L : Addr} {m : Str → Option Value} (hK : KindR w led k kd) (sub : ∀ p ∈ led, p ∈ all) (F : Fr h₀ L h m) (X : (Mine.H.heap_1_41 w.params).In h₀) (N : News h₀ L h all) : ∃ t1 t2 v, IsTup h k ([.str kd.1 t1, .str kd.2.1 t2, v] : List Value).toArray := by
  rcases hK with hK | ⟨rfl, pe, t1, t2, h1, _⟩
  · (refine Mine.ex_7_2 (base_all w _ hK) ?_; intro d dq n nq t1 t2 pq h1 _)
    exact ⟨t1, t2, .ref pq, tupK (X.keeps F.keep) h1⟩
  · exact ⟨t1, t2, .ref pe, N.isTup (sub _ h1)⟩
section
variable {prog : Program} {w : World} {A : Around} {E : Value → Shared → Prop} {s : Shared} {h h₀ : Heap} {L k9 : Addr} {m : Str → Option Value} {led all : List (Addr × Obj)} {kd : KD} {k : Tok} {u : Tok} {value slice : Expr} {Q : Value → Shared → Prop}
theorem kind0 (hK : KindR w led k9 kd) (sub : ∀ p ∈ led, p ∈ all) (F : Fr h₀ L h m) (X : (Mine.H.heap_1_41 w.params).In h₀) (N : News h₀ L h all) (H : ∀ t, Q (.str kd.1 t) ⟨h, s.gens, s.drawn, k, s.os⟩)
    (hs : noSl slice = true := by rfl) : wpAny (model prog w) A (subscriptTail value slice (.ref k9) (.int 0 u)) Q E ⟨h, s.gens, s.drawn, k, s.os⟩ := by
  (refine Mine.ex_3_1 (hK.tupAt sub F X N) ?_; intro t1 t2 v ht)
  exact item_tupleT (j := 0) ht (by decide) (by decide) rfl rfl (H t1) (ix_plain hs)
theorem kind1 (hK : KindR w led k9 kd) (sub : ∀ p ∈ led, p ∈ all) (F : Fr h₀ L h m) (X : (Mine.H.heap_1_41 w.params).In h₀) (N : News h₀ L h all) (H : ∀ t, Q (.str kd.2.1 t) ⟨h, s.gens, s.drawn, k, s.os⟩)
    (hs : noSl slice = true := by rfl) : wpAny (model prog w) A (subscriptTail value slice (.ref k9) (.int 1 u)) Q E ⟨h, s.gens, s.drawn, k, s.os⟩ := by
  (refine Mine.ex_3_1 (hK.tupAt sub F X N) ?_; intro t1 t2 v ht)
  exact item_tupleT (j := 1) ht (by decide) (by decide) rfl rfl (H t2) (ix_plain hs)
end
section
variable {M : Model} {A : Around} {w : World} {h₀ h : Heap} {L : Addr} {m : Str → Option Value} {all : List (Addr × Obj)} {s : Shared} {k : Tok} {E : Value → Shared → Prop}
theorem cut_kindL {c : Sem Flow} {kd : KD} {Q : Flow → Shared → Prop}
    (hc : ∀ Q' : Flow → Shared → Prop, (∀ k9 tl h' tk, Fr h₀ L h' (fun y => if y = Str.ofString "kind" then some (.ref k9) else m y) → News h₀ L h' (tl ++ all) → (∀ q ∈ all, ∀ p ∈ tl, q.1 ≠ p.1) → KindR w tl k9 kd → Q' .next ⟨h', s.gens, s.drawn, tk, s.os⟩) → wpAny M A c Q' E ⟨h, s.gens, s.drawn, k, s.os⟩)
    (key : ∀ k9 tl h' tk, Fr h₀ L h' (fun y => if y = Str.ofString "kind" then some (.ref k9) else m y) → News h₀ L h' (tl ++ all) → (∀ q ∈ all, ∀ p ∈ tl, q.1 ≠ p.1) → KindR w tl k9 kd → Q .next ⟨h', s.gens, s.drawn, tk, s.os⟩) (_F : Fr h₀ L h m) (_N : News h₀ L h all) : wpAny M A c Q E ⟨h, s.gens, s.drawn, k, s.os⟩ := hc Q key
theorem cut_kids {c : Sem Flow} {Dk : Addr} {X : List (Addr × Obj)} {zs : List PyData} {Q : Flow → Shared → Prop} {xs : List Str}
    (hc : ∀ Q' : Flow → Shared → Prop, (∀ u us n tl h' tk, FrOk xs [] m u → Fr h₀ L h' u → News h₀ L h' ((Dk, listOf (List.toArray us) n) :: (tl ++ X)) → us.length ≤ 16777216 → Two (RD w tl) us zs → (∀ q ∈ X, ∀ p ∈ tl, q.1 ≠ p.1) → Q' .next ⟨h', s.gens, s.drawn, tk, s.os⟩) → wpAny M A c Q' E ⟨h, s.gens, s.drawn, k, s.os⟩)
    (key : ∀ u us n tl h' tk, Fr h₀ L h' (frB xs [] u m) → News h₀ L h' ((Dk, listOf (List.toArray us) n) :: (tl ++ X)) → us.length ≤ 16777216 → Two (RD w tl) us zs → (∀ q ∈ X, ∀ p ∈ tl, q.1 ≠ p.1) → Q .next ⟨h', s.gens, s.drawn, tk, s.os⟩) (_F : Fr h₀ L h m) (_N : News h₀ L h ((Dk, listOf #[] 0) :: X)) : wpAny M A c Q E ⟨h, s.gens, s.drawn, k, s.os⟩ :=
  hc Q fun u us n tl h' tk o F' => key u us n tl h' tk (o.fr F')
theorem cut_inner {c : Sem Flow} {z : PyData} {Q : Flow → Shared → Prop}
    (hc : ∀ Q' : Flow → Shared → Prop, (∀ iv tl h' tk, Fr h₀ L h' (fun y => if y = Str.ofString "inner" then some iv else m y) → News h₀ L h' (all ++ tl) → (∀ q ∈ all, ∀ p ∈ tl, q.1 ≠ p.1) → RD w tl iv z → Q' .next ⟨h', s.gens, s.drawn, tk, s.os⟩) → wpAny M A c Q' E ⟨h, s.gens, s.drawn, k, s.os⟩)
    (key : ∀ iv tl h' tk, Fr h₀ L h' (fun y => if y = Str.ofString "inner" then some iv else m y) → News h₀ L h' (all ++ tl) → (∀ q ∈ all, ∀ p ∈ tl, q.1 ≠ p.1) → RD w tl iv z → Q .next ⟨h', s.gens, s.drawn, tk, s.os⟩) (_F : Fr h₀ L h m) (_N : News h₀ L h all) : wpAny M A c Q E ⟨h, s.gens, s.drawn, k, s.os⟩ := hc Q key
theorem cut_spans {c : Sem Value} {z : List (Nat × Nat)} {Q : Value → Shared → Prop}
    (hc : ∀ Q' : Value → Shared → Prop, (∀ r tl h' tk, Fr h₀ L h' m → News h₀ L h' (tl ++ all) → (∀ q ∈ all, ∀ p ∈ tl, q.1 ≠ p.1) → PairsOut z tl r → Q' r ⟨h', s.gens, s.drawn, tk, s.os⟩) → wpAny M A c Q' E ⟨h, s.gens, s.drawn, k, s.os⟩)
    (key : ∀ r tl h' tk, Fr h₀ L h' m → News h₀ L h' (tl ++ all) → (∀ q ∈ all, ∀ p ∈ tl, q.1 ≠ p.1) → PairsOut z tl r → Q r ⟨h', s.gens, s.drawn, tk, s.os⟩) (_F : Fr h₀ L h m) (_N : News h₀ L h all) : wpAny M A c Q E ⟨h, s.gens, s.drawn, k, s.os⟩ := hc Q key
theorem cut_iter {c : Sem Value} {Dk : Addr} {z : List (Nat × Nat)} {Q : Value → Shared → Prop}
    (hc : ∀ Q' : Value → Shared → Prop, (∀ D ys n P h' tk, Fr h₀ L h' m → News h₀ L h' (P ++ all) → (∀ p ∈ P, p.1 ≠ Dk) → (D, listOf (List.toArray ys) n) ∈ P → Two (PairIn P) ys z → Q' (.ref D) ⟨h', s.gens, s.drawn, tk, s.os⟩) → wpAny M A c Q' E ⟨h, s.gens, s.drawn, k, s.os⟩)
    (key : ∀ D ys n P h' tk, Fr h₀ L h' m → News h₀ L h' (P ++ all) → (∀ p ∈ P, p.1 ≠ Dk) → (D, listOf (List.toArray ys) n) ∈ P → Two (PairIn P) ys z → Q (.ref D) ⟨h', s.gens, s.drawn, tk, s.os⟩) (_F : Fr h₀ L h m) (_N : News h₀ L h all) : wpAny M A c Q E ⟨h, s.gens, s.drawn, k, s.os⟩ := hc Q key
end
theorem kind_new {w : World} {h₀ h' : Heap} {L T pe : Addr} {m : Str → Option Value} {all : List (Addr × Obj)} {s : Shared} {tk : Tok} {kx : KD} {t1 t2 : Tok} {Q' : Flow → Shared → Prop}
    (hq : ∀ k9 tl h' tk, Fr h₀ L h' (fun y => if y = Str.ofString "kind" then some (.ref k9) else m y) → News h₀ L h' (tl ++ all) → (∀ q ∈ all, ∀ p ∈ tl, q.1 ≠ p.1) → KindR w tl k9 kx → Q' .next ⟨h', s.gens, s.drawn, tk, s.os⟩)
    (F : Fr h₀ L h' (fun y => if y = Str.ofString "kind" then some (.ref T) else m y)) (N : News h₀ L h' ((T, tup [.str (Str.ofString "message") t1, .str (Str.ofString "rfc822") t2, .ref pe]) :: (pe, tup []) :: all)) (lT : AllLt T all) (lp : AllLt pe all) (hk : kx = kd3) : Q' .next ⟨h', s.gens, s.drawn, tk, s.os⟩ := by
  refine hq T [(T, tup [.str (Str.ofString "message") t1, .str (Str.ofString "rfc822") t2, .ref pe]), (pe, tup [])] h' tk F N (fun q hq p hp => ?_) (.inr ⟨hk, pe, t1, t2, .head _, .tail _ (.head _)⟩)
  rcases List.mem_cons.mp hp with h | h
  · rw [h]; exact Nat.ne_of_lt (allLt_mem lT q hq)
  · rw [List.mem_singleton.mp h]; exact Nat.ne_of_lt (allLt_mem lp q hq)
/-- the spans of a kind, ahead of the default -/
noncomputable def z7At (d : List UInt8) (kd : KD) (bo e : Nat) : List (Nat × Nat) := match kd.2.2 with
  | [] => []
  | (_, y) :: _ => if y = txt [97] then partsGo d [97] e (spansAt d e bo) none bo else partsGo d [98] e (spansAt d e bo) none bo
theorem zs_or (d : List UInt8) (kd : KD) (bo e : Nat) : zsAt d kd bo e = orEnd e (z7At d kd bo e) := by
  obtain ⟨k1, k2, ps⟩ := kd
  cases ps with
  | nil => exact (if_pos rfl).symm
  | cons p r =>
    obtain ⟨x, y⟩ := p
    show (if y = txt [97] then _ else _) = orEnd e (if y = txt [97] then _ else _)
    by_cases h : y = txt [97]
    · rw [if_pos h, if_pos h]
    · rw [if_neg h, if_neg h]
theorem z7_kd1 (d : List UInt8) (bo e : Nat) : z7At d kd1 bo e = partsGo d [97] e (spansAt d e bo) none bo := by
  unfold z7At
  exact if_pos (by decide +kernel)
theorem z7_kd2 (d : List UInt8) (bo e : Nat) : z7At d kd2 bo e = partsGo d [98] e (spansAt d e bo) none bo := by
  unfold z7At
  exact if_neg (by decide +kernel)
theorem z7_len (d : List UInt8) (kd : KD) (bo e : Nat) : (z7At d kd bo e).length ≤ e + 1 := by
  unfold z7At
  split
  · exact Nat.zero_le _
  · split
    · exact parts_len
    · exact parts_len
theorem open_six {kd : KD} (h : SixK kd) {fs : List FieldD} (hr : Rowed fs) : openB kd fs = ((kd.1 == Str.ofString "message") && (Str.ofString "7bit" == txt (encOf fs) || Str.ofString "8bit" == txt (encOf fs))) := by
  unfold openB
  rcases h with rfl | rfl | rfl | rfl | rfl | rfl
  all_goals first | rfl | (rcases enc_three hr with e | e | e <;> rw [e] <;> decide +kernel)
theorem six_multi {kd : KD} (h : SixK kd) (hm : (kd.1 == Str.ofString "message") = true) : (kd.1 == Str.ofString "multipart") = false := by
  rcases h with rfl | rfl | rfl | rfl | rfl | rfl <;> first | exact absurd hm (by decide +kernel) | decide +kernel
section
variable {dz : Int} {mu op ms wy : Bool} {x y : PyData}
theorem in_pos (ho : op = (ms && wy)) (hx : ms = true → mu = false) (h1 : dz < 20) (h2 : ms = true) (h3 : wy = true) : (if dz < 20 ∧ mu = false ∧ op = true then x else y) = x := if_pos ⟨h1, hx h2, by rw [ho, h2, h3]; rfl⟩
theorem in_neg1 (ho : op = (ms && wy)) (h2 : ms = false) : (if dz < 20 ∧ mu = false ∧ op = true then x else y) = y := if_neg fun h => by rw [ho, h2] at h; exact absurd h.2.2 Bool.false_ne_true
theorem in_neg2 (ho : op = (ms && wy)) (h2 : ms = true) (h3 : wy = false) : (if dz < 20 ∧ mu = false ∧ op = true then x else y) = y := if_neg fun h => by rw [ho, h2, h3] at h; exact absurd h.2.2 Bool.false_ne_true
theorem in_neg3 (h1 : ¬ dz < 20) : (if dz < 20 ∧ mu = false ∧ op = true then x else y) = y := if_neg fun h => h1 h.1
end
theorem reg_52 : True := by
  k_with "my call type:bytes" => (((fail_if_success (fail_if_success (have z9 := hsF5))); ((k_here; (with_reducible show wpAny _ _ (call (Value.type _) [Value.ref _]) _ _ _); k_dflt (first | (refine' Mine.bytes_one (k := 97) ?h1ₘ ?h2ₘ ?h3ₘ ?h4ₘ ?h5ₘ ?h6ₘ ?_; (case h1ₘ => k_asm); (case h2ₘ => k_asm); (case h3ₘ => exact rfl); (case h4ₘ => k_mem); (case h5ₘ => decide +kernel); (case h6ₘ => decide); k_whole) | (refine' Mine.bytes_one (k := 98) ?h1ₘ ?h2ₘ ?h3ₘ ?h4ₘ ?h5ₘ ?h6ₘ ?_; (case h1ₘ => k_asm); (case h2ₘ => k_asm); (case h3ₘ => exact rfl); (case h4ₘ => k_mem); (case h5ₘ => decide +kernel); (case h6ₘ => decide); k_whole)); intro _ _ _ _ _))))
  k_with "my call type:tuple" => (((fail_if_success (fail_if_success (have z9 := hsF5))); ((k_here; (with_reducible show wpAny _ _ (call (Value.type _) [Value.ref _]) _ _ _); k_dflt (refine' Mine.tuple_L ?k1ₘ ?k2ₘ ?k3ₘ ?k4ₘ ?_; (case k1ₘ => k_asm); (case k2ₘ => k_asm); (case k3ₘ => k_mem); (case k4ₘ => walk_at "m_om"); k_whole); intro D'ₘ h'ₘ F'ₘ N'ₘ l1ₘ; (try k_lt l1ₘ); (try k_sweep)))))
  k_with "my compareOp Eq ref ref" => (((fail_if_success (fail_if_success (have z9 := hsF5))); ((k_here; k_dflt (first | (refine' Mine.eq_tup0 ?Xₘ ?oₘ ?Nₘ ?mₘ ?uₘ ?_; (case Xₘ => k_in); (case oₘ => k_is); (case Nₘ => k_asm); (case mₘ => k_mem); (case uₘ => ktr_units); k_whole) | (refine' Mine.eq_tup1 ?Xₘ ?oₘ ?Nₘ ?mₘ ?uₘ ?_; (case Xₘ => k_in); (case oₘ => k_is); (case Nₘ => k_asm); (case mₘ => k_mem); (case uₘ => ktr_units); k_whole))))))
  k_with "my call ref" => (((fail_if_success (fail_if_success (have z9 := hsF5))); ((k_here; (with_reducible show wpAny _ _ (call (Value.ref 658) _) _ _ _); (try walk_at "m_fold"); k_dflt (refine' CtrA.useS ?k0ₘ ?k1ₘ ?k2ₘ ?k3ₘ ?k4ₘ ?k5ₘ ?kKₘ ?kdₘ ?kuₘ ?_; (case k1ₘ => k_asm); (case k2ₘ => k_asm); (case k3ₘ => k_asm); (case k4ₘ => k_asm); (case k5ₘ => k_asm); (case k0ₘ => exact (law_kids_ok _ _ _ _ _ _ _ _ _ hz1 (by first | exact .inl rfl | exact .inr rfl) hbo he Gb _)); (case kKₘ => first | exact rfl | assumption); (case kdₘ => ktr_room); (case kuₘ => ktr_units); k_whole); intro r7 tl7 h7 tk7 F7 N7 hl7 ho7; replace N7 := Mine.news_comm N7; (try simp only [List.cons_append] at N7); skip; (try k_unfold); (try dsimp only); (try walk_at "m_fold")))))
  k_with "my call ref" => (((fail_if_success (fail_if_success (have z9 := hsF5))); ((k_here; (with_reducible show wpAny _ _ (call (Value.ref 665) _) _ _ _); (try walk_at "m_fold"); k_dflt (refine' CtrN.useS ?k0ₘ ?k1ₘ ?k2ₘ ?k3ₘ ?k4ₘ ?k5ₘ ?kKₘ ?kdₘ ?kuₘ ?_; (case k1ₘ => k_asm); (case k2ₘ => k_asm); (case k3ₘ => k_asm); (case k4ₘ => k_asm); (case k5ₘ => k_asm); (case k0ₘ => exact (hkid (by assumption) (by assumption) (za, zb) hzm _ _ _ _ _)); (case kKₘ => first | exact rfl | assumption); (case kdₘ => ktr_room); (case kuₘ => ktr_units); k_whole); intro r5 tl5 h5 tk5 F5 N5 hl5 ho5; replace N5 := Mine.news_comm N5; (try simp only [List.cons_append] at N5); (try k_unfold); (try dsimp only); (try walk_at "m_fold"); have hof5 := Mine.off_appK hoff hl5 (show (Dk, listOf us.toArray n1) ∈ _ by k_mem)))))
  k_with "my call ref" => (((fail_if_success (fail_if_success (have z9 := hsF5))); ((k_here; (with_reducible show wpAny _ _ (call (Value.ref 665) _) _ _ _); (try walk_at "m_fold"); k_dflt (refine' CtrN.useS ?k0ₘ ?k1ₘ ?k2ₘ ?k3ₘ ?k4ₘ ?k5ₘ ?kKₘ ?kdₘ ?kuₘ ?_; (case k1ₘ => k_asm); (case k2ₘ => k_asm); (case k3ₘ => k_asm); (case k4ₘ => k_asm); (case k5ₘ => k_asm); (case k0ₘ => exact (hin (by assumption) (by rw [hop]; exact Mine.and_tt (by assumption) (by assumption)) _ _ _ _ _)); (case kKₘ => first | exact rfl | assumption); (case kdₘ => ktr_room); (case kuₘ => ktr_units); k_whole); intro r5 tl5 h5 tk5 F5 N5 hl5 ho5; replace N5 := Mine.news_comm N5; (try simp only [List.cons_append] at N5); (try k_unfold); (try dsimp only); (try walk_at "m_fold")))))
  k_with "my m_alln" => (((fail_if_success (fail_if_success (have z9 := hsF5))); (walk_at "m_alls")))
  k_with "my call ref" => (((fail_if_success (fail_if_success (have z9 := hsF5))); ((k_here; (with_reducible show wpAny _ _ (call (Value.ref 651) _) _ _ _); (try walk_at "m_fold"); k_dflt (refine' CtrA.useS ?k0ₘ ?k1ₘ ?k2ₘ ?k3ₘ ?k4ₘ ?k5ₘ ?kKₘ ?kdₘ ?kuₘ ?_; (case k1ₘ => k_asm); (case k2ₘ => k_asm); (case k3ₘ => k_asm); (case k4ₘ => k_asm); (case k5ₘ => k_asm); (case k0ₘ => exact (head_ok _ _ _ _ _ _ _ hz hae he G _)); (case kKₘ => first | exact rfl | assumption); (case kdₘ => ktr_room); (case kuₘ => ktr_units); k_whole); intro r9 tl9 h9 tk9 F9 N9 hl9 ho9; (refine Mine.ex_5_3 (ho9) ?_; (try clear ho9); intro p9 kv9 wv9 b9 t9 e8 e9 hs9); subst e8; subst e9; replace hl9 := Mine.lt_one hl9; (try simp only [AllLt, and_true] at hl9); (try simp only [List.cons_append, List.nil_append] at N9); (try k_sweep); (try k_unfold); (try dsimp only); (try walk_at "m_fold")))))
  k_with "my compareOp NotEq ref ref" => (((fail_if_success (fail_if_success (have z9 := hsF5))); ((k_here; k_dflt (refine' Mine.ne_pairs ?h1ₘ ?h2ₘ ?h6ₘ ?h3ₘ ?h4ₘ ?h5ₘ (fun hz9 => ?_) (fun hz9 => ?_); (case h1ₘ => k_asm); (case h6ₘ => assumption); (case h2ₘ => k_mem); (case h3ₘ => walk_at "m_sub9"); (case h4ₘ => k_mem); (case h5ₘ => ktr_units); k_whole)))))
  k_with "my compareOp In str ref" => (((fail_if_success (fail_if_success (have z9 := hsF5))); ((k_here; k_dflt (refine' Mine.in_strsN ?Nₘ ?mₘ ?_; (case Nₘ => k_asm); (case mₘ => k_mem); k_whole)))))
  k_with "my subscriptTail" => (((fail_if_success (fail_if_success (have z9 := hsF5))); ((k_here; (first | ((with_reducible show wpAny _ _ (subscriptTail _ _ (Value.ref k9) (Value.int 0 _)) _ _ _); k_dflt (refine' Mine.kind0 hK9 ?sₘ ?Fₘ ?Xₘ ?Nₘ ?_; (case Fₘ => k_asm); (case Xₘ => k_asm); (case Nₘ => k_asm); (case sₘ => walk_at "m_subk"); k_whole)) | ((with_reducible show wpAny _ _ (subscriptTail _ _ (Value.ref k9) (Value.int 1 _)) _ _ _); k_dflt (refine' Mine.kind1 hK9 ?sₘ ?Fₘ ?Xₘ ?Nₘ ?_; (case Fₘ => k_asm); (case Xₘ => k_asm); (case Nₘ => k_asm); (case sₘ => walk_at "m_subk"); k_whole))); intro _))))
  k_with "my m_subk" => (((fail_if_success (fail_if_success (have z9 := hsF5))); (first | walk_at "m_sub9" | (intro q9ₘ hq9ₘ; have hq8ₘ := hXk q9ₘ hq9ₘ; walk_at "m_mem9"))))
  k_with "my eval IfExp" => (((fail_if_success (fail_if_success (have z9 := hsF5))); (((fail_if_success (have zz9ₘ := hcut9)); refine Mine.stop_here ?_))))
  k_with "my exec If" => (((fail_if_success (fail_if_success (have z9 := hsF5))); (((fail_if_success (fail_if_success (have zz9ₘ := hif9))); refine Mine.stop_here ?_))))
  k_with "my m_alls" => (((fail_if_success (fail_if_success (have z9 := hsF5))); (first | exact Mine.allLt_subs (by assumption) (by walk_at "m_sub9") | exact Mine.allLt_subf (by assumption) (by walk_at "m_sub9") | exact Mine.allLt_subs (Mine.al1 (by assumption)) (by walk_at "m_sub9") | exact Mine.allLt_subs (Mine.al2 (by assumption)) (by walk_at "m_sub9") | exact Mine.allLt_subs (Mine.al3 (by assumption)) (by walk_at "m_sub9"))))
  trivial
theorem allLt_subs {D : Addr} {led news : List (Addr × Obj)} (h : AllLt D led) (s : ∀ q ∈ news, q ∈ led) : AllLt D news := allLt_of fun p hp => allLt_mem h p (s p hp)
theorem allLt_subf {D : Addr} {led news : List (Addr × Obj)} (h : ∀ p ∈ led, @LT.lt Nat _ p.1 D) (s : ∀ q ∈ news, q ∈ led) : AllLt D news := allLt_of fun p hp => h p (s p hp)
theorem ct1 {x z : Str} {xs : List Str} (h : (x :: xs).contains z = false) : z ≠ x := fun e => by rw [e, List.contains_cons, beq_self_eq_true] at h; exact Bool.noConfusion h
theorem ct2 {x z : Str} {xs : List Str} (h : (x :: xs).contains z = false) : xs.contains z = false := by rw [List.contains_cons] at h; exact (Bool.or_eq_false_iff.mp h).2
theorem and_tt {a b : Bool} (h1 : a = true) (h2 : b = true) : (a && b) = true := by rw [h1, h2]; rfl
theorem or_kd {q : Addr} {kd : KD} (h : (q, kd) ∈ (601, plainK) :: kTab) (hm : (kd.1 == Str.ofString "multipart") = true) : (q = 604 ∧ kd = kd1) ∨ (q = 608 ∧ kd = kd2) ∨ (q = 614 ∧ kd = kd4) := by
  unfold kTab at h
  simp only [List.mem_cons, List.not_mem_nil, or_false, Prod.mk.injEq] at h
  rcases h with ⟨h1, rfl⟩ | ⟨h1, h2⟩ | ⟨h1, h2⟩ | ⟨h1, rfl⟩ | ⟨h1, h2⟩ | ⟨h1, rfl⟩
  · exact absurd hm (by decide +kernel)
  · exact .inl ⟨h1, h2⟩
  · exact .inr (.inl ⟨h1, h2⟩)
  · exact absurd hm (by decide +kernel)
  · exact .inr (.inr ⟨h1, h2⟩)
  · exact absurd hm (by decide +kernel)
set_option maxHeartbeats 4000000 in
theorem tree_any (w : World) (d : List UInt8) (a e : Nat) (dz : Int) (dig : Bool) (t ta te td : Tok) (need : Nat) (tr : Nat × Nat → PyData) (tri : PyData) (news : List (Addr × Obj)) (kq : KD) (hz1 : d.length + 1 ≤ 16777216) (hae : a ≤ e) (he : e ≤ d.length) (G : Good d e a) (h6 : SixK kq)
    (hkN : firstBody (fieldsAt d e a) ctW = none → kq = if dig = true then kd3 else plainK) (hkS : ∀ l, firstBody (fieldsAt d e a) ctW = some l → kq = kdOf l)
    (hkid : dz < 20 → (kq.1 == Str.ofString "multipart") = true → ∀ x ∈ zsAt d kq (headAt d e a).2 e, ∀ t t1 t2 t3 news, CtrN w 665 (need + 11) [.bytes d.toArray t, .int (x.1 : Nat) t1, .int (x.2 : Nat) t2, .int (dz + 1) t3, .bool (kq.2.1 == Str.ofString "digest")] news (fun tl v => RD w tl v (tr x)))
    (hin : dz < 20 → openB kq (fieldsAt d e a) = true → ∀ t t1 t2 t3 news, CtrN w 665 (need + 11) [.bytes d.toArray t, .int ((headAt d e a).2 : Nat) t1, .int (e : Nat) t2, .int (dz + 1) t3, .bool false] news (fun tl v => RD w tl v tri)) :
   CtrN w 665 (need + 12) [.bytes d.toArray t, .int a ta, .int e te, .int dz td, .bool dig] news (fun tl v => RD w tl v (treeOut a (headAt d e a).2 e kq (fieldsAt d e a)
      (if dz < 20 ∧ (kq.1 == Str.ofString "multipart") = true then (zsAt d kq (headAt d e a).2 e).map tr else [])
      (if dz < 20 ∧ (kq.1 == Str.ofString "multipart") = false ∧ openB kq (fieldsAt d e a) = true then tri else .none))) := by
  have hsF5 : True := trivial
  have hz : d.length ≤ 16777216 := by (first | lia | omega)
  have hop := open_six h6 (fields_rows G hae he)
  have hbo := (headAt_le (d := d) (Nat.le_refl (e - a)) hae).2
  have Gb := G.head hae
  have h7l := z7_len d kq (headAt d e a).2 e
  rw [zs_or] at hkid ⊢
  unfold CtrN
  intro prog dp un gd cn cs aF ccd cl outer A₀ base h₀ L m s loose mean mg mb Q E B F X N T hk hdp hu hret
  refine wpAny_call ?_
  k_dflt (refine' code_def (binds := [(Str.ofString "data", .bytes d.toArray t), (Str.ofString "at", .int a ta), (Str.ofString "end", .int e te), (Str.ofString "depth", .int dz td), (Str.ofString "in_digest", .bool dig)]) ?k1 ?k2 ?k3 ?k4 ?k5 ?kA ?kF ?kK ?k6 ?k7 ?k8 ?k9 ?kB ?_ ?c2 ?c3 ?c4 ?c5; (case kA => exact rfl); (case kF => exact rfl); (case kK => assumption); (case k1 => exact B); (case k2 => exact F); (case k3 => exact X); (case k4 => exact N); (case k5 => exact T); (case k6 => k_is); (case k7 => k_is); (case k8 => ktr_room); (case k9 => first | exact BindsTo.of_eq rfl | exact binds_K (Frag.In.keeps X F.keep) rfl (by k_is) rfl rfl rfl); (case c5 => decide); (case kB => exact locs rfl); (case c2 => exact rfl); (case c3 => exact rfl); (case c4 => exact rfl); k_whole; intro g L₁ h₁ FG F₁ N₁ B₁ X₁ T₁; (try dsimp only); (try walk_at "m_fold"))
  replace F₁ : Fr g L₁ h₁ (fun y => List.lookup y [(Str.ofString "in_digest", .bool dig), (Str.ofString "depth", .int dz td), (Str.ofString "end", .int e te), (Str.ofString "at", .int a ta), (Str.ofString "data", .bytes d.toArray t)]) := F₁
  have hif9 : True := trivial
  k_steps
  unfold Stop
  rename Fr _ _ _ _ => Fw
  rename News _ _ _ _ => Nw
  (try walk_at "m_fold")
  (refine Mine.ex_0_3 (hs9) ?_; (try clear hs9); intro hkv hwv eq2; subst eq2)
  refine way_cut (fs := fieldsAt d e a) Fw Nw ?_ ?_
  · have hcut9 : True := trivial
    clear hif9
    (try walk_at "m_fold")
    rcases hwv with ⟨rfl, hw0⟩ | ⟨l, tw, rfl, hw0⟩
    · k_steps
      exact ⟨_, _, _, by rw [enc_none hw0]; rfl, rfl, by k_asm, by k_asm⟩
    · k_steps
      exact ⟨_, _, _, by rw [enc_some hw0], rfl, by k_asm, by k_asm⟩
  clear Fw Nw
  intro tw h3 tk3 F₃ N₃
  k_steps
  unfold Stop
  rename Fr _ _ _ _ => Fw
  rename News _ _ _ _ => Nw
  refine cut_kindL (w := w) (kd := kq) (fun Q' hq' => ?_) (fun k9 tlk h4 tk4 F₄ N₄ hlk hK9 => ?_) Fw Nw
  · have hcut9 : True := trivial
    clear hif9
    (try walk_at "m_fold")
    rcases hkv with ⟨rfl, hq1⟩ | ⟨q, l, rfl, hq1, hq2⟩
    · replace hkN := hkN hq1
      cases dig with
      | true =>
        k_steps
        rename Fr _ _ _ _ => Fx
        rename News _ _ _ _ => Nx
        exact kind_new hq' Fx Nx (by first | assumption | exact And.right (by assumption) | exact And.right (And.right (by assumption))) (by first | assumption | exact And.right (by assumption)) (by rw [hkN, if_pos rfl])
      | false =>
        k_steps
        exact hq' 601 [] _ _ (by k_asm) (by k_asm) (fun _ _ _ h => nomatch h) (.inl (by rw [hkN, if_neg Bool.false_ne_true]; exact .head _))
    · k_steps
      exact hq' q [] _ _ (fr_same rfl (by k_asm)) (by k_asm) (fun _ _ _ h => nomatch h) (.inl (by rw [hkS l hq1]; exact .tail _ hq2))
  clear Fw Nw hkv hwv
  k_steps
  unfold Stop
  rename Fr _ _ _ _ => Fw
  rename News _ _ _ _ => Nw
  rename_i Dk _ lDk _ _ _ _
  refine cut_kids (w := w) (xs := [Str.ofString "spans", Str.ofString "one", Str.ofString "other"]) (zs := if dz < 20 ∧ (kq.1 == Str.ofString "multipart") = true then (orEnd e (z7At d kq (headAt d e a).2 e)).map tr else []) (fun Q' hq' => ?_) (fun u5 us n1 tl h5 tk5 F₅ N₅ hus htwo hne => ?_) Fw Nw
  · clear hif9
    k_steps
    · unfold Stop
      have hm : (kq.1 == Str.ofString "multipart") = true := by assumption
      have hlt : dz < 20 := by assumption
      rename Fr _ _ _ _ => Fb
      rename News _ _ _ _ => Nb
      refine cut_spans (z := z7At d kq (headAt d e a).2 e) (fun Q'' hq'' => ?_) (fun r7 tl7 h7 tk7 F7 N7 hl7 ho7 => ?_) Fb Nb
      · have hcut9 : True := trivial
        (try walk_at "m_fold")
        rcases hK9 with hb9 | ⟨rfl, _⟩
        · rcases or_kd hb9 hm with ⟨rfl, rfl⟩ | ⟨rfl, rfl⟩ | ⟨rfl, rfl⟩
          · k_steps
            exact hq'' r7 tl7 _ _ (by k_asm) (news_sub (by k_asm) (by walk_at "m_sub9")) (fun q hq p hp => Nat.ne_of_lt (hl7 q (.tail _ (.tail _ hq)) p hp)) (z7_kd1 d _ e ▸ ho7)
          · k_steps
            exact hq'' r7 tl7 _ _ (by k_asm) (news_sub (by k_asm) (by walk_at "m_sub9")) (fun q hq p hp => Nat.ne_of_lt (hl7 q (.tail _ (.tail _ hq)) p hp)) (z7_kd2 d _ e ▸ ho7)
          · k_steps
            rename_i lz _ _ _ hlz
            exact hq'' _ [(lz, listOf #[] 0)] _ _ (by k_asm) (news_sub (by k_asm) (by walk_at "m_sub9")) (fun q hq p hp => by rw [List.mem_singleton.mp hp]; exact Nat.ne_of_lt (allLt_mem (show AllLt lz ((Dk, listOf #[] 0) :: _) from hlz.2) q hq)) ⟨lz, [], 0, rfl, .head _, .nil⟩
        · exact absurd hm (by decide +kernel)
      · clear Fb Nb
        (try walk_at "m_fold")
        (refine Mine.ex_3_3 (ho7) ?_; (try clear ho7); intro D7 ys7 n7 eq3 hD7 two7; subst eq3)
        replace N7 := news_more N7 (in_l hD7)
        k_steps
        unfold Stop
        rename Fr _ _ _ _ => Fc
        rename News _ _ _ _ => Nc
        refine cut_iter (Dk := Dk) (z := orEnd e (z7At d kq (headAt d e a).2 e)) (fun Q3 hq3 => ?_) (fun D8 ys8 n8 P8 h8 tk8 F8 N8 hPD hD8 two8 => ?_) Fc Nc
        · have hcut9 : True := trivial
          k_steps
          · rename_i D2 _ lD2 ax _ _ _ lax
            have gD : @LT.lt Nat _ Dk D2 := allLt_mem lD2.2.2 (Dk, listOf #[] 0) (by walk_at "m_mem9")
            exact hq3 ax [.ref D2] 0 [(ax, listOf #[.ref D2] 0), (D2, tup [.int (e : Int) te, .int (e : Int) te])] _ _ (by k_asm) (news_sub (by k_asm) (by walk_at "m_sub9")) (List.forall_mem_cons.mpr ⟨Nat.ne_of_gt (Nat.lt_trans gD lax.1), List.forall_mem_cons.mpr ⟨Nat.ne_of_gt gD, List.forall_mem_nil _⟩⟩) (.head _) (by rw [orEnd, if_pos hz9]; exact .cons ⟨D2, te, te, rfl, .tail _ (.head _)⟩ .nil)
          · exact hq3 D7 ys7 n7 ((D7, listOf ys7.toArray n7) :: tl7) _ _ (by k_asm) (news_sub (by k_asm) (by walk_at "m_sub9")) (List.forall_mem_cons.mpr ⟨(hl7 (Dk, listOf #[] 0) (.head _) _ hD7).symm, fun p hp => (hl7 (Dk, listOf #[] 0) (.head _) p hp).symm⟩) (.head _) (by rw [orEnd, if_neg hz9]; exact two7.mono fun _ _ h => h.mono fun p hp => .tail _ hp)
        · clear Fc Nc
          k_steps
          unfold Stop
          rename Fr _ _ _ _ => Fd
          rename News _ _ _ _ => Nd
          have hys : ys8.length ≤ 16777216 := by
            have h1 := two8.length
            have h2 := orEnd_len (e := e) h7l
            (first | lia | omega)
          have np : News g L₁ _ ((Dk, listOf #[] 0) :: ([] ++ (P8 ++ (tlk ++ (p9, tup [kv9, wv9, .int ((headAt d e a).2 : Int) t9]) :: news)))) := news_sub Nd (by walk_at "m_sub9")
          have hXn : ∀ q ∈ tlk ++ (p9, tup [kv9, wv9, .int ((headAt d e a).2 : Int) t9]) :: news, q ∈ P8 ++ (tlk ++ (p9, tup [kv9, wv9, .int ((headAt d e a).2 : Int) t9]) :: news) := fun q hq => in_r hq
          have hXk : ∀ q ∈ tlk, q ∈ P8 ++ (tlk ++ (p9, tup [kv9, wv9, .int ((headAt d e a).2 : Int) t9]) :: news) := fun q hq => in_r (in_l hq)
          have offX : ∀ p ∈ P8 ++ (tlk ++ (p9, tup [kv9, wv9, .int ((headAt d e a).2 : Int) t9]) :: news), p.1 ≠ Dk := all_app hPD fun p hp => Nat.ne_of_lt (lDk p hp)
          have hXP : ∀ q ∈ P8, q ∈ P8 ++ (tlk ++ (p9, tup [kv9, wv9, .int ((headAt d e a).2 : Int) t9]) :: news) := fun q hq => in_l hq
          generalize orEnd e (z7At d kq (headAt d e a).2 e) = zs at *
          have hXa : (D8, listOf ys8.toArray n8) ∈ P8 ++ (tlk ++ (p9, tup [kv9, wv9, .int ((headAt d e a).2 : Int) t9]) :: news) := in_l hD8
          generalize (tlk ++ (p9, tup [kv9, wv9, .int ((headAt d e a).2 : Int) t9]) :: news) = X0 at *
          generalize P8 ++ X0 = X at *
          refine turns_led_st (σ := TS) (its := ys8) (nl := n8) (tsLed Dk X) (fun _ => []) [Str.ofString "one", Str.ofString "other"] (tsP w (zs.map tr) Dk X X0) ⟨[], 0, []⟩ rfl (fun c => .tail _ (in_r hXa)) Fd np (by walk_at "m_all") ⟨rfl, .nil, offX, fun _ _ _ h => nomatch h⟩ ?_ ?_
          · clear Fd Nd np
            rintro i v ⟨us, n1, tl⟩ u2 I oI h2 tk2 hv ⟨hlen, htwo, hoff, hne⟩ off F₂ N₂
            (try walk_at "m_fold")
            obtain ⟨⟨za, zb⟩, hx, pp, t1, t2, rfl, hp⟩ := two8.get hv
            have hzm := List.mem_of_getElem? hx
            have hi : i < ys8.length := (List.getElem?_eq_some_iff.mp hv).1
            dsimp only [tsLed] at hlen htwo hoff hne off F₂ N₂ ⊢
            dsimp only [frB, kstB] at F₂
            replace N₂ := news_more N₂ (.tail _ (.tail _ (in_r (hXP _ hp))))
            have hDI : @Ne Nat Dk I := off _ (.head _)
            have hpD : @Ne Nat pp Dk := hoff _ (in_r (hXP _ hp))
            k_steps
            exact kt_next (by k_asm) (by k_asm) hlen htwo hne hof5 hl5 off hXn hx ho5 (by walk_at "m_frok")
          · clear Fd Nd np
            rintro ⟨us, n1, tl⟩ u2 h2 tk2 ⟨hlen, htwo, hoff, hne⟩ F₂ N₂
            dsimp only [tsLed] at hlen htwo hoff hne F₂ N₂ ⊢
            dsimp only [frB, kstB] at F₂
            have hus : us.length ≤ 16777216 := by (first | lia | omega)
            rw [List.take_of_length_le (by rw [List.length_map, ← two8.length]; exact Nat.le_refl _)] at htwo
            k_steps
            exact hq' _ us n1 tl _ _ ⟨by walk_at "m_all", fun z _ h3 => fs2 (ct2 h3) (fs1 (ct1 h3) rfl)⟩ (by k_asm) (news_sub N₂ (sub_cons (.head _) (sub_app (fun p hp => .tail _ (in_l hp)) fun p hp => .tail _ (in_r (hXn p hp))))) hus (by rw [if_pos ⟨hlt, hm⟩]; exact htwo) hne
    all_goals exact hq' _ [] 0 [] _ _ ⟨by walk_at "m_all", fun _ _ _ => rfl⟩ (by k_asm) (by k_asm) (Nat.zero_le _) (by first | rw [if_neg (fun h => absurd h.1 (by assumption))]; exact .nil | rw [if_neg (fun h => absurd h.2 (by rw [show (kq.1 == Str.ofString "multipart") = false from by assumption]; exact Bool.false_ne_true))]; exact .nil) (fun _ _ _ h => nomatch h)
  clear Fw Nw
  dsimp only [frB, kstB] at F₅
  k_steps
  unfold Stop
  rename Fr _ _ _ _ => Fw
  rename News _ _ _ _ => Nw
  refine cut_inner (w := w) (z := if dz < 20 ∧ (kq.1 == Str.ofString "multipart") = false ∧ openB kq (fieldsAt d e a) = true then tri else .none) (fun Q' hq' => ?_) (fun iv tli h6 tk6 F₆ N₆ hli hiv => ?_) Fw Nw
  · clear hif9
    k_steps
    · exact hq' _ tl5 _ _ (by k_asm) (news_sub (by k_asm) (by walk_at "m_sub9")) (fun q hq => hl5 q (.tail _ hq)) (by rw [in_pos hop (six_multi h6) (by assumption) (by assumption) (by assumption)]; exact ho5)
    all_goals exact hq' _ [] _ _ (fr_same rfl (by k_asm)) (news_sub (by k_asm) (by walk_at "m_sub9")) (fun _ _ _ h => nomatch h) (by first | rw [in_neg3 (by assumption)]; exact RD.none | rw [in_neg2 hop (by assumption) (by assumption)]; exact RD.none | rw [in_neg1 hop (by assumption)]; exact RD.none)
  clear Fw Nw hif9
  k_steps
  exact tree_fin (kd := kq) (tlx := tl ++ tlk ++ tli) hret (by k_asm) (by k_asm) (.head _) (.tail _ (.head _)) (by walk_at "m_sub9") (by walk_at "m_sub9") (by walk_at "m_alls") (by walk_at "m_alls") (fun q hq => all_app (all_app (hne q (by walk_at "m_mem9")) (hlk q (by walk_at "m_mem9"))) (hli q (by walk_at "m_mem9"))) (hK9.reads.mono (by walk_at "m_sub9")) (htwo.mono fun _ _ r => r.mono (by walk_at "m_sub9")) (hiv.mono (by walk_at "m_sub9")) rfl

end
/-! F10 -/
section
open PyProof.V PySem.Spec PyProof.Rows.LCg PyProof.Rows.LCt
theorem kind_some {d : List UInt8} {e a : Nat} {dig : Bool} {l : List UInt8} (h : firstBody (fieldsAt d e a) ctW = some l) : kindAt (fieldsAt d e a) dig = kdOf l := by unfold kindAt; rw [h]
theorem kind_none {d : List UInt8} {e a : Nat} {dig : Bool} (h : firstBody (fieldsAt d e a) ctW = none) : kindAt (fieldsAt d e a) dig = if dig = true then kd3 else plainK := by unfold kindAt; rw [h]
/-- one level of the law's tree -/
theorem tree_step (w : World) (d : List UInt8) (a e : Nat) (dz : Int) (dig : Bool) (t ta te td : Tok) (need : Nat) (tr : Nat × Nat → PyData) (tri : PyData) (news : List (Addr × Obj)) (hz1 : d.length + 1 ≤ 16777216) (hae : a ≤ e) (he : e ≤ d.length) (G : Good d e a)
    (hkid : dz < 20 → ((kindAt (fieldsAt d e a) dig).1 == Str.ofString "multipart") = true → ∀ x ∈ zsAt d (kindAt (fieldsAt d e a) dig) (headAt d e a).2 e, ∀ t t1 t2 t3 news, CtrN w 665 (need + 11) [.bytes d.toArray t, .int (x.1 : Nat) t1, .int (x.2 : Nat) t2, .int (dz + 1) t3, .bool ((kindAt (fieldsAt d e a) dig).2.1 == Str.ofString "digest")] news (fun tl v => RD w tl v (tr x)))
    (hin : dz < 20 → openB (kindAt (fieldsAt d e a) dig) (fieldsAt d e a) = true → ∀ t t1 t2 t3 news, CtrN w 665 (need + 11) [.bytes d.toArray t, .int ((headAt d e a).2 : Nat) t1, .int (e : Nat) t2, .int (dz + 1) t3, .bool false] news (fun tl v => RD w tl v tri)) :
   CtrN w 665 (need + 12) [.bytes d.toArray t, .int a ta, .int e te, .int dz td, .bool dig] news (fun tl v => RD w tl v (treeOut a (headAt d e a).2 e (kindAt (fieldsAt d e a) dig) (fieldsAt d e a)
      (if dz < 20 ∧ ((kindAt (fieldsAt d e a) dig).1 == Str.ofString "multipart") = true then (zsAt d (kindAt (fieldsAt d e a) dig) (headAt d e a).2 e).map tr else [])
      (if dz < 20 ∧ ((kindAt (fieldsAt d e a) dig).1 == Str.ofString "multipart") = false ∧ openB (kindAt (fieldsAt d e a) dig) (fieldsAt d e a) = true then tri else .none))) :=
  tree_any w d a e dz dig t ta te td need tr tri news _ hz1 hae he G (six_at _ _) kind_none (fun _ h => kind_some h) hkid hin
theorem law_tree_ok (w : World) (d : List UInt8) (hz : d.length + 1 ≤ 16777216) : ∀ (n a e : Nat) (dig : Bool), n ≤ 20 → Good d e a → a ≤ e → e ≤ d.length → ∀ (t ta te td : Tok) (news : List (Addr × Obj)),
    CtrN w 665 (n + 12) [.bytes d.toArray t, .int a ta, .int e te, .int (20 - (n : Int)) td, .bool dig] news (fun tl v => RD w tl v (treeD d n a e dig))
  | 0, a, e, dig, _, G, hae, he, t, ta, te, td, news => by
    have h := tree_step w d a e (20 - ((0 : Nat) : Int)) dig t ta te td 0 (fun _ => .none) .none news hz hae he G (fun h => absurd h (by decide)) (fun h => absurd h (by decide))
    rw [if_neg (fun h => absurd h.1 (by decide)), if_neg (fun h => absurd h.1 (by decide))] at h
    exact h
  | n + 1, a, e, dig, hn, G, hae, he, t, ta, te, td, news => by
    have hb := headAt_le (d := d) (Nat.le_refl (e - a)) hae
    have e20 : 20 - ((n + 1 : Nat) : Int) + 1 = 20 - (n : Int) := by (first | lia | omega)
    have hlt : 20 - ((n + 1 : Nat) : Int) < 20 := by (first | lia | omega)
    have h := tree_step w d a e (20 - ((n + 1 : Nat) : Int)) dig t ta te td (n + 1) (fun x => treeD d n x.1 x.2 ((kindAt (fieldsAt d e a) dig).2.1 == Str.ofString "digest")) (treeD d n (headAt d e a).2 e false) news hz hae he G
      (fun _ hm x hx t t1 t2 t3 news => by
        have z := zs_ok (G.head hae) hb.2 x hx
        rw [e20]
        exact law_tree_ok w d hz n x.1 x.2 _ (by (first | lia | omega)) z.2.2 z.1 (by have := z.2.1; (first | lia | omega)) t t1 t2 t3 news)
      (fun _ ho t t1 t2 t3 news => by rw [e20]; exact law_tree_ok w d hz n _ e false (by (first | lia | omega)) (G.head hae) hb.2 he t t1 t2 t3 news)
    unfold treeD
    rw [ifc (show (20 - ((n + 1 : Nat) : Int) < 20 ∧ ((kindAt (fieldsAt d e a) dig).1 == Str.ofString "multipart") = true) ↔ ((kindAt (fieldsAt d e a) dig).1 == Str.ofString "multipart") = true from ⟨fun h => h.2, fun h => ⟨hlt, h⟩⟩),
      ifc (show (20 - ((n + 1 : Nat) : Int) < 20 ∧ ((kindAt (fieldsAt d e a) dig).1 == Str.ofString "multipart") = false ∧ openB (kindAt (fieldsAt d e a) dig) (fieldsAt d e a) = true) ↔ (((kindAt (fieldsAt d e a) dig).1 == Str.ofString "multipart") = false ∧ openB (kindAt (fieldsAt d e a) dig) (fieldsAt d e a) = true) from ⟨fun h => h.2, fun h => ⟨hlt, h⟩⟩)] at h
    exact h

end
/-! Fin -/
section
open PyProof.V PySem.Spec PyProof.Rows.LCg PyProof.Rows.LCt
theorem PartIn.obj9 {w : World} {led : List (Addr × Obj)} {v : Value} {z : PyData} {n : Nat} (h : PartIn w led n v z) : ∃ p dx ct b bo e fl kv enc kids inner, v = .ref p ∧ (p, instObj 551 dx) ∈ led ∧ (dx, partD w.params ct b bo e fl kv enc kids inner) ∈ led := h.obj
/-- a fact that the walk's looks do not open -/
inductive Hid (p : Prop) : Prop
  | mk (h : p) : Hid p
theorem Hid.out {p : Prop} : Hid p → p
  | .mk h => h
theorem told_meth {prog : Program} {w : World} {A : Around} {E : Value → Shared → Prop} {s : Shared} {h₀ : Heap} {L : Addr} {m : Str → Option Value} {news : List (Addr × Obj)} {pl : Sem Bool} {Q : Value × List Value → Shared → Prop} {p dx : Addr} {ct : PTk} {b bo e : Nat} {fl k : Value} {enc : Str} {kids inner : Value}
    (F : Fr h₀ L s.heap m) (X : (Mine.H.heap_1_41 w.params).In h₀) (N : News h₀ L s.heap news) (h1 : (p, instObj 551 dx) ∈ news) (h2 : (dx, partD w.params ct b bo e fl k enc kids inner) ∈ news) (h : Q (.ref 548, [.ref p]) s) :
    wpAny (model prog w) A (getMethod (.ref p) (Str.ofString "told") pl) Q E s := by
  have I := InstAt.of_news N h1 h2
  refine' method_inst (K := Mine.H.heap_1_41 w.params) (C := 551) (f := 548) F X I ?k4 ?k5 ?k6 ?k7 h
  case k4 => k_is
  case k5 => k_is
  case k6 => k_is
  case k7 => k_get
theorem told_with {prog : Program} {w : World} {A : Around} {E : Value → Shared → Prop} {s : Shared} {h₀ : Heap} {L : Addr} {m : Str → Option Value} {p : Addr} {Q : Value → Shared → Prop} {pos : Pos} {env : Env}
    (F : Fr h₀ L s.heap m) (X : (Mine.H.heap_1_41 w.params).In h₀) (h : wpAny (model prog w) A (call (.ref 548) [.ref p]) Q E s) :
    wpAny (model prog w) A (callWith pos (.ref 548) [.ref p] (backTo pos (starEach [] env)) []) Q E s := by
  refine callWith_K0 (K := Mine.H.heap_1_41 w.params) (Frag.In.keeps X F.keep) ?hk h
  case hk => k_is
theorem law_tree_whole (w : World) (d : List UInt8) (hD : DataOk d) (t ta te td : Tok) (news : List (Addr × Obj)) :
    CtrN w 665 32 [.bytes d.toArray t, .int 0 ta, .int (d.length : Int) te, .int 0 td, .bool false] news (fun tl v => RD w tl v (treeD d 20 0 d.length false)) :=
  law_tree_ok w d (by have := hD.1; (first | lia | omega)) 20 0 d.length false (Nat.le_refl _) hD.good (Nat.zero_le _) (Nat.le_refl _) t ta te td news
theorem read_data (w : World) (d : List UInt8) (t : Tok) (hD : DataOk d) (news : List (Addr × Obj)) : CtrN w 598 58 [.bytes d.toArray t] news (fun tl v => PartIn w tl 21 v (treeD d 20 0 d.length false)) :=
  read_message_ok w d t (by have := hD.1; (first | lia | omega)) (fine_ok hD.good (Nat.zero_le _) (Nat.le_refl _)) news
theorem eq_RD {prog : Program} {w : World} {A : Around} {E : Value → Shared → Prop} {s : Shared} {h₀ : Heap} {L : Addr} {news tl1 tl2 : List (Addr × Obj)} {a b : Value} {z : PyData} {Q : Value → Shared → Prop} (X : (Mine.H.heap_1_41 w.params).In s.heap) (N : News h₀ L s.heap news) (r1 : RD w tl1 a z) (r2 : RD w tl2 b z) (s1 : ∀ p ∈ tl1, p ∈ news) (s2 : ∀ p ∈ tl2, p ∈ news) (hz : SeqAt.shaped z = true) (hu : A.units + 64 < cLine) (h : Q (.bool true) s) :
    wpAny (model prog w) A (compareOp .Eq a b) Q E s := by
  (refine Mine.ex_1_1 (r1 s.heap X fun p hp => (N p (s1 p hp)).1) ?_; intro as ra)
  (refine Mine.ex_1_1 (r2 s.heap X fun p hp => (N p (s2 p hp)).1) ?_; intro bs rb)
  refine eq_dataH ra rb hz hz hu ?_
  rw [PySem.SeqAt.eqv_refl z (PySem.SeqAt.canLay_of_shaped hz)]
  exact h
theorem reg_53 : True := by
  k_with "my call builtin:len" => (((fail_if_success (fail_if_success (have z9 := hsFin))); ((k_here; (with_reducible show wpAny _ _ (call (Value.builtin "len") [Value.bytes _ _]) _ _ _); k_dflt (refine Mine.len_B ?zₘ ?_; (case zₘ => walk_at "m_om")); intro _ _))))
  k_with "my call ref" => (((fail_if_success (fail_if_success (have z9 := hsFin))); (((with_reducible show wpAny _ _ (call (Value.ref _) _) _ _ _); refine Mine.stop_here ?_))))
  k_with "my getMethod ref" => (((fail_if_success (fail_if_success (have z9 := hsFin))); (refine Mine.stop_here ?_)))
  k_with "my call ref" => (((fail_if_success (fail_if_success (have z9 := hsFin))); ((k_here; (with_reducible show wpAny _ _ (call (Value.ref 598) _) _ _ _); (try walk_at "m_fold"); k_dflt (refine' CtrN.useS ?k0ₘ ?k1ₘ ?k2ₘ ?k3ₘ ?k4ₘ ?k5ₘ ?kKₘ ?kdₘ ?kuₘ ?_; (case k2ₘ => k_asm); (case k3ₘ => k_asm); (case k4ₘ => k_asm); (case k5ₘ => k_asm); (case k1ₘ => first | exact below_caller _ | k_asm); (case k0ₘ => exact (read_data _ _ _ hD5 _)); (case kKₘ => first | exact rfl | assumption); (case kdₘ => ktr_room); (case kuₘ => ktr_units); k_whole); intro r6 tl6 h6 tk6 F6 N6 hl6 ho6; replace N6 := Mine.news_comm N6; (try simp only [List.cons_append] at N6); (try k_unfold); (try dsimp only); (try walk_at "m_fold"); (refine Mine.ex_11_3 (Mine.PartIn.obj9 ho6) ?_; intro p6 dx6 ct6 b6 bo6 e6 fl6 kv6 en6 kd6 in6 e7 m61 m62); subst e7; replace N6 := Mine.news_more (Mine.news_more N6 (show (dx6, _) ∈ _ from by simp [m62])) (show (p6, _) ∈ _ from by simp [m61])))))
  k_with "my call ref" => (((fail_if_success (fail_if_success (have z9 := hsFin))); ((k_here; (with_reducible show wpAny _ _ (call (Value.ref 548) _) _ _ _); (try walk_at "m_fold"); k_dflt (refine' CtrN.useS ?k0ₘ ?k1ₘ ?k2ₘ ?k3ₘ ?k4ₘ ?k5ₘ ?kKₘ ?kdₘ ?kuₘ ?_; (case k2ₘ => k_asm); (case k3ₘ => k_asm); (case k4ₘ => k_asm); (case k5ₘ => k_asm); (case k1ₘ => first | exact below_caller _ | k_asm); (case k0ₘ => exact (told_ok _ 21 _ _ _ (PartIn.up ho6 (by intro q9 hq9; simp only [List.mem_cons, List.mem_append]; simp [hq9])))); (case kKₘ => first | exact rfl | assumption); (case kdₘ => ktr_room); (case kuₘ => ktr_units); k_whole); intro r7 tl7 h7 tk7 F7 N7 hl7 ho7; replace N7 := Mine.news_comm N7; (try simp only [List.cons_append] at N7); (try k_unfold); (try dsimp only); (try walk_at "m_fold")))))
  k_with "my call ref" => (((fail_if_success (fail_if_success (have z9 := hsFin))); ((k_here; (with_reducible show wpAny _ _ (call (Value.ref 665) _) _ _ _); (try walk_at "m_fold"); k_dflt (refine' CtrN.useS ?k0ₘ ?k1ₘ ?k2ₘ ?k3ₘ ?k4ₘ ?k5ₘ ?kKₘ ?kdₘ ?kuₘ ?_; (case k2ₘ => k_asm); (case k3ₘ => k_asm); (case k4ₘ => k_asm); (case k5ₘ => k_asm); (case k1ₘ => first | exact below_caller _ | k_asm); (case k0ₘ => exact (law_tree_whole _ _ hD5 _ _ _ _ _)); (case kKₘ => first | exact rfl | assumption); (case kdₘ => ktr_room); (case kuₘ => ktr_units); k_whole); intro r8 tl8 h8 tk8 F8 N8 hl8 ho8; replace N8 := Mine.news_comm N8; (try simp only [List.cons_append] at N8); (try k_unfold); (try dsimp only); (try walk_at "m_fold")))))
  k_with "my compareOp Eq" => (((fail_if_success (fail_if_success (have z9 := hsFin))); (refine Mine.stop_here ?_)))
  k_with "my compareOp Eq" => (((fail_if_success (fail_if_success (have z9 := hsFin))); ((k_here; k_dflt (refine' Mine.eq_RD ?Xₘ ?Nₘ ho7 ho8 ?s1ₘ ?s2ₘ ?zₘ ?uₘ ?_; (case Xₘ => k_in); (case Nₘ => k_asm); (case s1ₘ => (intro q9 hq9; simp only [List.mem_cons, List.mem_append]; simp [hq9])); (case s2ₘ => (intro q9 hq9; simp only [List.mem_cons, List.mem_append]; simp [hq9])); (case zₘ => exact tree_shaped hD5.good); (case uₘ => ktr_units); k_whole)))))
  trivial
theorem ints_pos {cz : List Value} {ns : List Int} (h : IntsAre cz ns) (hp : 0 < ns.length) : 0 < cz.length := by rw [IntsAre.length h]; exact hp
theorem ints_40 {cz : List Value} {ns : List Int} (h : IntsAre cz (ns.take 40)) : cz.length ≤ 40 := by rw [IntsAre.length h, List.length_take]; (first | lia | omega)
noncomputable def final.tw9528210708110719138 : Unit := ()
set_option maxHeartbeats 8000000 in
set_option Elab.async true in
theorem final : PySem.Challenge.rw_no0390_01.Holds := by
  have hsFin : True := trivial
  w_on
  refine Mine.H._proof_1_40 fun said => ?_
  refine Mine.H._proof_1_829 said ?_
  k_go0
  (all_goals try k_fold)
  w_top off
  k_steps
  all_goals unfold Stop
  rename IntsAre _ _ => hci
  have hcp := ints_pos hci (by assumption)
  have hc40 := ints_40 hci
  k_dflt (refine' CtrM.use ?k0 ?k1 ?k2 ?k3 ?k4 ?k5 ?kK ?kd ?ku ?_; (case k2 => k_asm); (case k3 => k_asm); (case k4 => k_asm); (case k5 => k_asm); (case k1 => exact below_caller _); (case k0 => exact (data_ok _ _ _ _ _ _ _ 0 (by decide) _ _ hcp hc40 hci (by k_ne) (fun p hp => by simp only [List.mem_cons, List.not_mem_nil, or_false] at hp; rw [hp]; k_ne))); (case kK => exact rfl); (case kd => ktr_room); (case ku => ktr_units); k_whole)
  rotate_left
  k_dflt (refine' CtrM.use ?k0 ?k1 ?k2 ?k3 ?k4 ?k5 ?kK ?kd ?ku ?_; (case k2 => k_asm); (case k3 => k_asm); (case k4 => k_asm); (case k5 => k_asm); (case k1 => exact below_caller _); (case k0 => exact (data_ok _ _ _ [.int 0 _] [0] _ _ 0 (by decide) _ _ (Nat.succ_pos _) (by rw [List.length_singleton]; decide) (.cons 0 _ .nil) (by k_ne) (fun p hp => by simp only [List.mem_cons, List.not_mem_nil, or_false] at hp; rcases hp with hp | hp <;> (rw [hp]; k_ne)))); (case kK => exact rfl); (case kd => ktr_room); (case ku => ktr_units); k_whole)
  all_goals
    intro r5 all5 h5 tk5 F5 N5 ho5
    (try walk_at "m_fold")
    (refine Mine.ex_2_2 (ho5) ?_; (try clear ho5); intro d5 t5 e5 hD5)
    subst e5
    k_steps
    unfold Stop
    k_dflt (refine' CtrN.use ?k0 ?k1 ?k2 ?k3 ?k4 ?k5 ?kK ?kd ?ku ?_; (case k2 => k_asm); (case k3 => k_asm); (case k4 => k_asm); (case k5 => k_asm); (case k1 => exact below_caller _); (case k0 => exact (read_data _ _ _ hD5 _)); (case kK => exact rfl); (case kd => ktr_room); (case ku => ktr_units); k_whole)
    intro r6 tl6 h6 tk6 F6 N6 hl6 ho6
    (refine Mine.ex_11_3 (PartIn.obj9 ho6) ?_; intro p6 dx6 ct6 b6 bo6 e6 fl6 kv6 en6 kd6 in6 e7 m61 m62)
    subst e7
    replace N6 := news_more (news_more N6 (List.mem_append_left _ m62)) (.tail _ (List.mem_append_left _ m61))
    k_steps
    unfold Stop
    refine told_meth F6 (by assumption) N6 (.head _) (.tail _ (.head _)) ?_
    refine told_with F6 (by assumption) ?_
    k_dflt (refine' CtrN.use ?k0 ?k1 ?k2 ?k3 ?k4 ?k5 ?kK ?kd ?ku ?_; (case k2 => k_asm); (case k3 => k_asm); (case k4 => k_asm); (case k5 => k_asm); (case k1 => exact below_caller _); (case k0 => exact (told_ok _ 21 _ _ _ (PartIn.up ho6 (by intro q9 hq9; simp only [List.mem_cons, List.mem_append]; simp [hq9])))); (case kK => exact rfl); (case kd => ktr_room); (case ku => ktr_units); k_whole)
    intro r7 tl7 h7 tk7 F7 N7 hl7 ho7
    replace ho7 := Hid.mk ho7
    have hz5 : d5.length ≤ 16777216 := by have := hD5.1; (first | lia | omega)
    replace hD5 := Hid.mk hD5
    clear ho6
    dsimp only
    with_reducible show wpAny _ _ _ _ _ _
    k_fold
    k_steps
    unfold Stop
    k_dflt (refine' CtrN.use ?k0 ?k1 ?k2 ?k3 ?k4 ?k5 ?kK ?kd ?ku ?_; (case k2 => k_asm); (case k3 => k_asm); (case k4 => k_asm); (case k5 => k_asm); (case k1 => exact below_caller _); (case k0 => exact (law_tree_whole _ _ hD5.out _ _ _ _ _)); (case kK => exact rfl); (case kd => ktr_room); (case ku => ktr_units); k_whole)
    intro r8 tl8 h8 tk8 F8 N8 hl8 ho8
    k_unfold
    dsimp only
    with_reducible show wpAny _ _ _ _ _ _
    refine eq_RD (Frag.In.keeps (by assumption) F8.keep) N8 ho7.out ho8 ?s1 ?s2 ?z ?u ?_
    case s1 => intro q9 hq9; simp only [List.mem_cons, List.mem_append]; simp [hq9]
    case s2 => intro q9 hq9; simp only [List.mem_cons, List.mem_append]; simp [hq9]
    case z => exact tree_shaped hD5.out.good
    case u => ktr_units
    k_steps

end
end Mine
theorem PySem.Challenge.cw_no0390_01_holds : PySem.Challenge.rw_no0390_01.Holds := by
  exact Mine.final
