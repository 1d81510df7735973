import PyProof.Rows.All
import Wide.All
import OpenK.AllK
import Wide.FinOn
import PySem.Challenge.RW_nz0170_01
open PySem PySem.W PyProof.Rows
set_option Elab.async false
set_option maxRecDepth 100000
set_option maxHeartbeats 8000000
set_option linter.all false
set_option rowWalk.seconds 0
set_option compiler.extract_closed false
namespace Mine
def top.tw10023818074659062010 : Nat := 0
def top.tw10064567891944019422 : Nat := 0
def top.tw10094127352394778022 : Nat := 0
def top.tw10094775956839617091 : Nat := 0
def top.tw10113966705711667590 : Nat := 0
def top.tw10125694090793629789 : Nat := 0
def top.tw10138887786639547405 : Nat := 0
def top.tw10150790493449547701 : Nat := 0
def top.tw10185157870882700685 : Nat := 0
def top.tw10216438505340515243 : Nat := 0
def top.tw10228722213227452305 : Nat := 0
def top.tw10252250511457427941 : Nat := 0
def top.tw10262454022904364570 : Nat := 0
def top.tw10266395040114263243 : Nat := 0
def top.tw10269832723537093154 : Nat := 0
def top.tw10301480805130757123 : Nat := 0
def top.tw10315134021498988727 : Nat := 0
def top.tw10344659599643834844 : Nat := 0
def top.tw10353023159210366363 : Nat := 0
def top.tw10372316881680602888 : Nat := 0
def top.tw10413641080735490514 : Nat := 0
def top.tw10446462859148636201 : Nat := 0
def top.tw10490925522621987433 : Nat := 0
def top.tw10523349913809046113 : Nat := 0
def top.tw10568379509984384278 : Nat := 0
def top.tw1057471147340941411 : Nat := 0
def top.tw10575976825882404800 : Nat := 0
def top.tw10595304548999274116 : Nat := 0
def top.tw10611223016578027499 : Nat := 0
def top.tw10637111002932187237 : Nat := 0
def top.tw10683072833917976555 : Nat := 0
def top.tw10683872573383578423 : Nat := 0
def top.tw10746717241127337953 : Nat := 0
def top.tw10749805820692372786 : Nat := 0
def top.tw1076204760519074908 : Nat := 0
def top.tw10830453342527196332 : Nat := 0
def top.tw10837734976837391664 : Nat := 0
def top.tw1086233526214217421 : Nat := 0
def top.tw10872677623182028877 : Nat := 0
def top.tw10878784321510476451 : Nat := 0
def top.tw10879392622915422139 : Nat := 0
def top.tw10893761106456205742 : Nat := 0
def top.tw11049975453304834691 : Nat := 0
def top.tw110579645239839958 : Nat := 0
def top.tw1107975661235413375 : Nat := 0
def top.tw11143487653026243981 : Nat := 0
def top.tw11151382553424251829 : Nat := 0
def top.tw11205408938705365373 : Nat := 0
def top.tw11292551448112294501 : Nat := 0
def top.tw11295624337867842641 : Nat := 0
def top.tw11306297274799275414 : Nat := 0
def top.tw11397530902666755759 : Nat := 0
def top.tw11400676419645829365 : Nat := 0
def top.tw11404652009926716352 : Nat := 0
def top.tw11423496076538779731 : Nat := 0
def top.tw11441350044921911558 : Nat := 0
def top.tw11464853819268194884 : Nat := 0
def top.tw11496740109932872853 : Nat := 0
def top.tw11558108120824163172 : Nat := 0
def top.tw11568370603624554152 : Nat := 0
def top.tw11590033786329360419 : Nat := 0
def top.tw11676859367624759786 : Nat := 0
def top.tw11689098537348711015 : Nat := 0
def top.tw11740605671245408464 : Nat := 0
def top.tw11750636446007010667 : Nat := 0
def top.tw11755210646492608419 : Nat := 0
def top.tw11764059753427524206 : Nat := 0
def top.tw11772068763412144030 : Nat := 0
def top.tw11772760410728972569 : Nat := 0
def top.tw11793287277099696936 : Nat := 0
def top.tw11799956174659642157 : Nat := 0
def top.tw11809375909107177527 : Nat := 0
def top.tw11840879517427688753 : Nat := 0
def top.tw11862941994232050270 : Nat := 0
def top.tw11983075495106319775 : Nat := 0
def top.tw1199007276324587460 : Nat := 0
def top.tw12057949763279724330 : Nat := 0
def top.tw1206244698954701235 : Nat := 0
def top.tw12100972986506586518 : Nat := 0
def top.tw12127893188606231988 : Nat := 0
def top.tw12130658692478505421 : Nat := 0
def top.tw12153740154942875073 : Nat := 0
def top.tw12164147836124403651 : Nat := 0
def top.tw12164871364257319519 : Nat := 0
def top.tw12167108481965854936 : Nat := 0
def top.tw12290066896817915765 : Nat := 0
def top.tw12304421192579964113 : Nat := 0
def top.tw12306389523577530880 : Nat := 0
def top.tw12307489783587580598 : Nat := 0
def top.tw12437534305222827338 : Nat := 0
def top.tw12472922532343263186 : Nat := 0
def top.tw12478470824336903353 : Nat := 0
def top.tw12493667932049312599 : Nat := 0
def top.tw12516235423898869633 : Nat := 0
def top.tw12548123292145046942 : Nat := 0
def top.tw1255690045787150041 : Nat := 0
def top.tw12560277058272917896 : Nat := 0
def top.tw12574539665024604865 : Nat := 0
def top.tw12587138521069571482 : Nat := 0
def top.tw12606606533031621204 : Nat := 0
def top.tw12659968313517964609 : Nat := 0
def top.tw12697307447024912965 : Nat := 0
def top.tw12704732604636651920 : Nat := 0
def top.tw12741020791326817846 : Nat := 0
def top.tw12748283197362895116 : Nat := 0
def top.tw12787960464215440692 : Nat := 0
def top.tw12793767779293054935 : Nat := 0
def top.tw12937238703331561037 : Nat := 0
def top.tw12959016523946904419 : Nat := 0
def top.tw12970044609634164584 : Nat := 0
def top.tw13041625346474946629 : Nat := 0
def top.tw13068721794362507485 : Nat := 0
def top.tw13072405209208779801 : Nat := 0
def top.tw13101068184568954145 : Nat := 0
def top.tw13129226834579047373 : Nat := 0
def top.tw13219275894170161656 : Nat := 0
def top.tw13241753243555391343 : Nat := 0
def top.tw13255016901085245058 : Nat := 0
def top.tw13271789955828322381 : Nat := 0
def top.tw13277127283214981179 : Nat := 0
def top.tw13300107460247189200 : Nat := 0
def top.tw13304516451745694404 : Nat := 0
def top.tw13309044647543175367 : Nat := 0
def top.tw13321388925346258302 : Nat := 0
def top.tw13338968105820630487 : Nat := 0
def top.tw13386326636096728404 : Nat := 0
def top.tw13422980662291186692 : Nat := 0
def top.tw1342423796911883442 : Nat := 0
def top.tw13424323386225855305 : Nat := 0
def top.tw13450452731448687968 : Nat := 0
def top.tw13464878084468846640 : Nat := 0
def top.tw13501122532101169793 : Nat := 0
def top.tw13520229997553339254 : Nat := 0
def top.tw13571577913516018960 : Nat := 0
def top.tw13627346679956439724 : Nat := 0
def top.tw13636224859202960548 : Nat := 0
def top.tw13651525255792016430 : Nat := 0
def top.tw13689420564748906846 : Nat := 0
def top.tw13729261848128444832 : Nat := 0
def top.tw13748384880462992304 : Nat := 0
def top.tw13778038695330677400 : Nat := 0
def top.tw13832065864419518279 : Nat := 0
def top.tw13834823100429562822 : Nat := 0
def top.tw13858141710577661120 : Nat := 0
def top.tw13926188149175630409 : Nat := 0
def top.tw13977682410841325953 : Nat := 0
def top.tw14010603644607402287 : Nat := 0
def top.tw14016498332541871313 : Nat := 0
def top.tw14033434718358240927 : Nat := 0
def top.tw14064232673624872926 : Nat := 0
def top.tw14094822746306891185 : Nat := 0
def top.tw14216771134277992127 : Nat := 0
def top.tw1421760677092936799 : Nat := 0
def top.tw14255635716116485070 : Nat := 0
def top.tw14289524842787218356 : Nat := 0
def top.tw14338024311920180896 : Nat := 0
def top.tw14342109938030741215 : Nat := 0
def top.tw14371435436696713502 : Nat := 0
def top.tw14471486637414289487 : Nat := 0
def top.tw14478450459955060945 : Nat := 0
def top.tw14577877229707739750 : Nat := 0
def top.tw14640625403108559724 : Nat := 0
def top.tw14655818552109145097 : Nat := 0
def top.tw14662890846660783354 : Nat := 0
def top.tw14695908875703101673 : Nat := 0
def top.tw14719590408728043643 : Nat := 0
def top.tw14777441287662360050 : Nat := 0
def top.tw14783968459833426194 : Nat := 0
def top.tw14803174523211623101 : Nat := 0
def top.tw1483352278270511012 : Nat := 0
def top.tw14845389947700653181 : Nat := 0
def top.tw14846515932413606841 : Nat := 0
def top.tw14879723315750836159 : Nat := 0
def top.tw14890772188223647889 : Nat := 0
def top.tw14922861112683784817 : Nat := 0
def top.tw14927557008961811335 : Nat := 0
def top.tw149359795532308849 : Nat := 0
def top.tw14936008195319440449 : Nat := 0
def top.tw14945664044275154535 : Nat := 0
def top.tw14958260452775158468 : Nat := 0
def top.tw14970293066554121797 : Nat := 0
def top.tw14985602954288780464 : Nat := 0
def top.tw15003760259906697660 : Nat := 0
def top.tw15010492188614157639 : Nat := 0
def top.tw15070035408576991506 : Nat := 0
def top.tw1507739578049632851 : Nat := 0
def top.tw15112679481962972751 : Nat := 0
def top.tw15120557581742073294 : Nat := 0
def top.tw15128577148059277228 : Nat := 0
def top.tw15130247113678638360 : Nat := 0
def top.tw1513451477387618871 : Nat := 0
def top.tw15170452248111968637 : Nat := 0
def top.tw15196609684749482546 : Nat := 0
def top.tw15222774118181000969 : Nat := 0
def top.tw15289214000352292420 : Nat := 0
def top.tw15325725582500904479 : Nat := 0
def top.tw15337946955562988809 : Nat := 0
def top.tw15343576557154706307 : Nat := 0
def top.tw15379203083316285735 : Nat := 0
def top.tw15488581864469710096 : Nat := 0
def top.tw1549498835118122739 : Nat := 0
def top.tw15564025699369699035 : Nat := 0
def top.tw15565090170751649979 : Nat := 0
def top.tw15578514640036734823 : Nat := 0
def top.tw15582810551144962103 : Nat := 0
def top.tw15599604829002248002 : Nat := 0
def top.tw15743228347640645658 : Nat := 0
def top.tw15758672991602865490 : Nat := 0
def top.tw15772300165772501877 : Nat := 0
def top.tw15821210999257935946 : Nat := 0
def top.tw15879077965829158240 : Nat := 0
def top.tw15910831484182612966 : Nat := 0
def top.tw15939565867637931402 : Nat := 0
def top.tw15958745492137340101 : Nat := 0
def top.tw16014227731866786897 : Nat := 0
def top.tw16021447913844595605 : Nat := 0
def top.tw16044253502934627460 : Nat := 0
def top.tw1606284555128938395 : Nat := 0
def top.tw16080799553462053082 : Nat := 0
def top.tw16116155655272585901 : Nat := 0
def top.tw16163669297360412805 : Nat := 0
def top.tw16174617771981550087 : Nat := 0
def top.tw16211781796649945314 : Nat := 0
def top.tw16275252184621502098 : Nat := 0
def top.tw16329681757468571779 : Nat := 0
def top.tw16360720512230040619 : Nat := 0
def top.tw16376663685178166964 : Nat := 0
def top.tw1651036560984277217 : Nat := 0
def top.tw16520384516384949453 : Nat := 0
def top.tw16550225107361554897 : Nat := 0
def top.tw16606637367755523077 : Nat := 0
def top.tw1664963178866901593 : Nat := 0
def top.tw16653037511519064832 : Nat := 0
def top.tw16655917085933843167 : Nat := 0
def top.tw16695472142079130851 : Nat := 0
def top.tw1671735434632393726 : Nat := 0
def top.tw16737428120552173829 : Nat := 0
def top.tw16760232231118547535 : Nat := 0
def top.tw16768898306379534405 : Nat := 0
def top.tw16784256948165222576 : Nat := 0
def top.tw16793712697543626159 : Nat := 0
def top.tw16835871174150145657 : Nat := 0
def top.tw16855084441724173503 : Nat := 0
def top.tw1693210978972372023 : Nat := 0
def top.tw17063713123442346526 : Nat := 0
def top.tw1706842095784090058 : Nat := 0
def top.tw1711236486065477726 : Nat := 0
def top.tw17129199723012813998 : Nat := 0
def top.tw17144995644571443998 : Nat := 0
def top.tw17147219934553587404 : Nat := 0
def top.tw17214107612004072782 : Nat := 0
def top.tw17275615674350594555 : Nat := 0
def top.tw17303266172307528692 : Nat := 0
def top.tw17324626741769402485 : Nat := 0
def top.tw1732822212921388411 : Nat := 0
def top.tw1733305979694492217 : Nat := 0
def top.tw17365072644657827768 : Nat := 0
def top.tw17451106184215582730 : Nat := 0
def top.tw17482851011585181266 : Nat := 0
def top.tw17485772660776365674 : Nat := 0
def top.tw17538580352498159460 : Nat := 0
def top.tw17604455647191739054 : Nat := 0
def top.tw17648600266314843059 : Nat := 0
def top.tw17662004910859742722 : Nat := 0
def top.tw17666542892246825471 : Nat := 0
def top.tw17669954493250520008 : Nat := 0
def top.tw17682342079625204377 : Nat := 0
def top.tw17693633187601821034 : Nat := 0
def top.tw17749355739734685554 : Nat := 0
def top.tw17766811063973313072 : Nat := 0
def top.tw17776871571228509468 : Nat := 0
def top.tw17800885236249473401 : Nat := 0
def top.tw17831851951975936584 : Nat := 0
def top.tw17883141194614918969 : Nat := 0
def top.tw179025824724705497 : Nat := 0
def top.tw17917109272019007936 : Nat := 0
def top.tw1794533964175381633 : Nat := 0
def top.tw18007407999109220502 : Nat := 0
def top.tw18049569583985886444 : Nat := 0
def top.tw18075393656390974030 : Nat := 0
def top.tw18103928409814552729 : Nat := 0
def top.tw1813083344431321973 : Nat := 0
def top.tw18139277535151724120 : Nat := 0
def top.tw18143724594246033138 : Nat := 0
def top.tw18154281326688299016 : Nat := 0
def top.tw18237045275006725751 : Nat := 0
def top.tw1823835924044929606 : Nat := 0
def top.tw18258167792334484509 : Nat := 0
def top.tw183275020382157588 : Nat := 0
def top.tw18352863314509411511 : Nat := 0
def top.tw18368808168821884493 : Nat := 0
def top.tw1837288437706551926 : Nat := 0
def top.tw18399791206954236542 : Nat := 0
def top.tw185666983695434800 : Nat := 0
def top.tw1930753910741467332 : Nat := 0
def top.tw1931214562219081751 : Nat := 0
def top.tw1988402608144907684 : Nat := 0
def top.tw2027225552370902312 : Nat := 0
def top.tw2029482456618982893 : Nat := 0
def top.tw2050419237890010310 : Nat := 0
def top.tw2064330197895203613 : Nat := 0
def top.tw2121221467534264068 : Nat := 0
def top.tw2181019853573968915 : Nat := 0
def top.tw2191880870492926132 : Nat := 0
def top.tw2233916731030386309 : Nat := 0
def top.tw2236921909704525570 : Nat := 0
def top.tw2237492002231629213 : Nat := 0
def top.tw2241391650033199151 : Nat := 0
def top.tw22608026842045688 : Nat := 0
def top.tw2266132144794048648 : Nat := 0
def top.tw2311410861510010758 : Nat := 0
def top.tw2315312193960313265 : Nat := 0
def top.tw2336100204888218023 : Nat := 0
def top.tw2384065042957494254 : Nat := 0
def top.tw2425211933658263570 : Nat := 0
def top.tw2440431444771154000 : Nat := 0
def top.tw2452485115184198840 : Nat := 0
def top.tw2521698325115618641 : Nat := 0
def top.tw2525799567779798367 : Nat := 0
def top.tw2566924513685163292 : Nat := 0
def top.tw2627708908640931675 : Nat := 0
def top.tw2636497153273051967 : Nat := 0
def top.tw2682673337185283240 : Nat := 0
def top.tw2695214149996350245 : Nat := 0
def top.tw2752072764377643160 : Nat := 0
def top.tw275846519125344057 : Nat := 0
def top.tw2776053129094199267 : Nat := 0
def top.tw2796395419975095070 : Nat := 0
def top.tw2797365027233119236 : Nat := 0
def top.tw280164494673769641 : Nat := 0
def top.tw2801878416450277322 : Nat := 0
def top.tw2809060864796552764 : Nat := 0
def top.tw2840756019666343244 : Nat := 0
def top.tw2867611196979017238 : Nat := 0
def top.tw2879465056415497593 : Nat := 0
def top.tw2910584641731191253 : Nat := 0
def top.tw2920342317405542028 : Nat := 0
def top.tw2951897051852756878 : Nat := 0
def top.tw2956702293460366024 : Nat := 0
def top.tw3036524023359183687 : Nat := 0
def top.tw3045652887798196991 : Nat := 0
def top.tw3191899913097709853 : Nat := 0
def top.tw3209213651011471527 : Nat := 0
def top.tw3287432149399408392 : Nat := 0
def top.tw3309727541757648368 : Nat := 0
def top.tw3340270616069410847 : Nat := 0
def top.tw3353231343088588329 : Nat := 0
def top.tw3383025017263121129 : Nat := 0
def top.tw3402869771943903221 : Nat := 0
def top.tw3409767896445443285 : Nat := 0
def top.tw3418771535493762501 : Nat := 0
def top.tw3423541780322883192 : Nat := 0
def top.tw3455154623454801855 : Nat := 0
def top.tw3508647736234723856 : Nat := 0
def top.tw3509518606343150984 : Nat := 0
def top.tw352090165634925843 : Nat := 0
def top.tw352292288757885249 : Nat := 0
def top.tw3583266501355329392 : Nat := 0
def top.tw3619260133633007601 : Nat := 0
def top.tw3637407560739501602 : Nat := 0
def top.tw3665414808364594430 : Nat := 0
def top.tw3688376145456673580 : Nat := 0
def top.tw3693555697926406621 : Nat := 0
def top.tw3713804428527238582 : Nat := 0
def top.tw3741676147689664242 : Nat := 0
def top.tw3770734035419684401 : Nat := 0
def top.tw3776294187397042802 : Nat := 0
def top.tw3800477218435686560 : Nat := 0
def top.tw3801689252213611140 : Nat := 0
def top.tw381343707367282356 : Nat := 0
def top.tw383025253336472607 : Nat := 0
def top.tw3831524267348243001 : Nat := 0
def top.tw3843376071341738953 : Nat := 0
def top.tw3852656686966103221 : Nat := 0
def top.tw3855642353913236620 : Nat := 0
def top.tw3917157030204582072 : Nat := 0
def top.tw3940830863429052699 : Nat := 0
def top.tw3945547512123741491 : Nat := 0
def top.tw4028321991173639969 : Nat := 0
def top.tw406875958476590516 : Nat := 0
def top.tw4073666535373327092 : Nat := 0
def top.tw4084916208488737296 : Nat := 0
def top.tw408990028562774510 : Nat := 0
def top.tw4090434907319408764 : Nat := 0
def top.tw4123909307250169414 : Nat := 0
def top.tw4139480144655709072 : Nat := 0
def top.tw4214232419395857879 : Nat := 0
def top.tw4255241139974763217 : Nat := 0
def top.tw426863033190839976 : Nat := 0
def top.tw4292253127753274131 : Nat := 0
def top.tw4305101891187647717 : Nat := 0
def top.tw4325792887625679650 : Nat := 0
def top.tw4345522329301996387 : Nat := 0
def top.tw4358205214569608661 : Nat := 0
def top.tw4416799564132192727 : Nat := 0
def top.tw4508567299986049931 : Nat := 0
def top.tw4522212957597209986 : Nat := 0
def top.tw4525933729342753379 : Nat := 0
def top.tw4527437082428106595 : Nat := 0
def top.tw4559278135110359516 : Nat := 0
def top.tw4564356342489742802 : Nat := 0
def top.tw4572488665029357801 : Nat := 0
def top.tw4600578204020070826 : Nat := 0
def top.tw4621351600349503368 : Nat := 0
def top.tw462610060872826127 : Nat := 0
def top.tw4679277303125203374 : Nat := 0
def top.tw4683997843967391512 : Nat := 0
def top.tw4702718986641282035 : Nat := 0
def top.tw4730633924038612677 : Nat := 0
def top.tw4749231712789258598 : Nat := 0
def top.tw4779785710940815293 : Nat := 0
def top.tw4943039756635696131 : Nat := 0
def top.tw4950133103464178499 : Nat := 0
def top.tw4961089915987511416 : Nat := 0
def top.tw4986846814000716233 : Nat := 0
def top.tw499714710113494316 : Nat := 0
def top.tw5005801379097483014 : Nat := 0
def top.tw5006249089910185486 : Nat := 0
def top.tw5079763037612295364 : Nat := 0
def top.tw5082598384989711338 : Nat := 0
def top.tw508885227101991762 : Nat := 0
def top.tw5128688674174096386 : Nat := 0
def top.tw5146496850023015414 : Nat := 0
def top.tw5154055346104468672 : Nat := 0
def top.tw5176288218029210213 : Nat := 0
def top.tw5192089888052727710 : Nat := 0
def top.tw5201573768547746616 : Nat := 0
def top.tw52061882145203251 : Nat := 0
def top.tw5219105075599462062 : Nat := 0
def top.tw5230057537957818398 : Nat := 0
def top.tw5353462750931653692 : Nat := 0
def top.tw542170699395766178 : Nat := 0
def top.tw5444556369816642133 : Nat := 0
def top.tw545423250604748019 : Nat := 0
def top.tw5466901833148007207 : Nat := 0
def top.tw5477798415565180635 : Nat := 0
def top.tw5498339873828681155 : Nat := 0
def top.tw5505065662657509134 : Nat := 0
def top.tw5548281345936151342 : Nat := 0
def top.tw5562114923451535934 : Nat := 0
def top.tw5568560378518637217 : Nat := 0
def top.tw5588170514654949362 : Nat := 0
def top.tw5617151858477832212 : Nat := 0
def top.tw565843550924031821 : Nat := 0
def top.tw5662946755359122336 : Nat := 0
def top.tw5718526577537585737 : Nat := 0
def top.tw5728271315705703594 : Nat := 0
def top.tw5737281625479121069 : Nat := 0
def top.tw5769004878370311991 : Nat := 0
def top.tw5855696139184522009 : Nat := 0
def top.tw5920778012179170427 : Nat := 0
def top.tw5945798136467543091 : Nat := 0
def top.tw5946725978586846830 : Nat := 0
def top.tw5956751986644989623 : Nat := 0
def top.tw5976834729595378235 : Nat := 0
def top.tw5991660309151078180 : Nat := 0
def top.tw6005948727298620519 : Nat := 0
def top.tw6045890323686028345 : Nat := 0
def top.tw6046990336204646576 : Nat := 0
def top.tw6059609868454149758 : Nat := 0
def top.tw6075283927774197684 : Nat := 0
def top.tw6098375387699134171 : Nat := 0
def top.tw612927770136575025 : Nat := 0
def top.tw6145578597257557304 : Nat := 0
def top.tw6150606570583219751 : Nat := 0
def top.tw617383541047753846 : Nat := 0
def top.tw6182488239488374414 : Nat := 0
def top.tw6190924425384258061 : Nat := 0
def top.tw6282722579763471034 : Nat := 0
def top.tw6295133969260993224 : Nat := 0
def top.tw6297832785626498593 : Nat := 0
def top.tw6339904844525011998 : Nat := 0
def top.tw6350101672481286549 : Nat := 0
def top.tw6364914443264978909 : Nat := 0
def top.tw637280053992466584 : Nat := 0
def top.tw6409404894225712546 : Nat := 0
def top.tw6423259651972170407 : Nat := 0
def top.tw6440995846615590171 : Nat := 0
def top.tw6443905064233194984 : Nat := 0
def top.tw646351182735487159 : Nat := 0
def top.tw6490125557980178309 : Nat := 0
def top.tw6536501985447075396 : Nat := 0
def top.tw6541750589833601232 : Nat := 0
def top.tw6575784210154809083 : Nat := 0
def top.tw6591047369792434800 : Nat := 0
def top.tw6598422890692862084 : Nat := 0
def top.tw6608782238253160419 : Nat := 0
def top.tw6628569398598015177 : Nat := 0
def top.tw6646663964172439597 : Nat := 0
def top.tw6647751698694082557 : Nat := 0
def top.tw6667628039916486969 : Nat := 0
def top.tw6747308149561895520 : Nat := 0
def top.tw675077253962027742 : Nat := 0
def top.tw6805131962324956894 : Nat := 0
def top.tw6832294905438789578 : Nat := 0
def top.tw6884482687721452562 : Nat := 0
def top.tw6891013454908847343 : Nat := 0
def top.tw6927100017027548546 : Nat := 0
def top.tw6939325617184942268 : Nat := 0
def top.tw6956828031273020711 : Nat := 0
def top.tw6964064742138198419 : Nat := 0
def top.tw7028492660618871856 : Nat := 0
def top.tw7028793783468953155 : Nat := 0
def top.tw7112397520519986384 : Nat := 0
def top.tw7152739109140741552 : Nat := 0
def top.tw7186631317436968675 : Nat := 0
def top.tw7219786114333419545 : Nat := 0
def top.tw7226648882496947356 : Nat := 0
def top.tw7228869719831170441 : Nat := 0
def top.tw731193698657744651 : Nat := 0
def top.tw7318867591808607049 : Nat := 0
def top.tw7320864183761556949 : Nat := 0
def top.tw7332474730392440328 : Nat := 0
def top.tw7354987328436321204 : Nat := 0
def top.tw7407027647098308468 : Nat := 0
def top.tw7430335275161205157 : Nat := 0
def top.tw7475401889144176376 : Nat := 0
def top.tw7511427495810782309 : Nat := 0
def top.tw7638097222780265517 : Nat := 0
def top.tw7701578694674441377 : Nat := 0
def top.tw7767633162412886822 : Nat := 0
def top.tw7786451697764809952 : Nat := 0
def top.tw7791322203180925110 : Nat := 0
def top.tw7816910272019392847 : Nat := 0
def top.tw7837860621090860393 : Nat := 0
def top.tw7877756520068503121 : Nat := 0
def top.tw7894701984180422987 : Nat := 0
def top.tw7908190486044430832 : Nat := 0
def top.tw7910050821868928888 : Nat := 0
def top.tw7911072309002438759 : Nat := 0
def top.tw7917069649277977847 : Nat := 0
def top.tw7990288452948593272 : Nat := 0
def top.tw8028053817621801920 : Nat := 0
def top.tw805411189136841509 : Nat := 0
def top.tw8073031381631738330 : Nat := 0
def top.tw8084950740828114664 : Nat := 0
def top.tw8109100871944570369 : Nat := 0
def top.tw8140873123128150402 : Nat := 0
def top.tw814528858296140866 : Nat := 0
def top.tw8203816499804837257 : Nat := 0
def top.tw8203822980389149546 : Nat := 0
def top.tw8231969350796476245 : Nat := 0
def top.tw8258729205755659224 : Nat := 0
def top.tw8258894060185524102 : Nat := 0
def top.tw8266731419363026121 : Nat := 0
def top.tw8286974233581099852 : Nat := 0
def top.tw8296947588445355997 : Nat := 0
def top.tw8315417632429616861 : Nat := 0
def top.tw8331705608060929535 : Nat := 0
def top.tw8345746912022637477 : Nat := 0
def top.tw8357844287138951621 : Nat := 0
def top.tw840995296942997719 : Nat := 0
def top.tw8437273895218399743 : Nat := 0
def top.tw8437835124937751269 : Nat := 0
def top.tw8494643281246341598 : Nat := 0
def top.tw8498670853947458069 : Nat := 0
def top.tw8498815426070966778 : Nat := 0
def top.tw8504315288640908444 : Nat := 0
def top.tw8505761184431078001 : Nat := 0
def top.tw85222257755031417 : Nat := 0
def top.tw8523112189610620883 : Nat := 0
def top.tw8525089967495478407 : Nat := 0
def top.tw8525558368026071638 : Nat := 0
def top.tw8548112208207899350 : Nat := 0
def top.tw8564091407197625372 : Nat := 0
def top.tw8617440064467017608 : Nat := 0
def top.tw8618071764090850245 : Nat := 0
def top.tw8688323045339486568 : Nat := 0
def top.tw872172548645259164 : Nat := 0
def top.tw8817318196899505584 : Nat := 0
def top.tw8843962029259265116 : Nat := 0
def top.tw8871344646458058910 : Nat := 0
def top.tw888932713508188656 : Nat := 0
def top.tw8901580284038164772 : Nat := 0
def top.tw8917946682252227627 : Nat := 0
def top.tw8937864085960431399 : Nat := 0
def top.tw8940603498665734798 : Nat := 0
def top.tw9070504951750910394 : Nat := 0
def top.tw9079462902029970129 : Nat := 0
def top.tw9099338888479218335 : Nat := 0
def top.tw9102093042435549141 : Nat := 0
def top.tw9130286678092337804 : Nat := 0
def top.tw9198297423434369899 : Nat := 0
def top.tw9203977392666424997 : Nat := 0
def top.tw9215048463552842144 : Nat := 0
def top.tw9287171093615950443 : Nat := 0
def top.tw9299649485883558107 : Nat := 0
def top.tw9395008986203344068 : Nat := 0
def top.tw9407222988355825191 : Nat := 0
def top.tw9418389719374317458 : Nat := 0
def top.tw9433901638527149036 : Nat := 0
def top.tw9455088496304765650 : Nat := 0
def top.tw9501001602130117210 : Nat := 0
def top.tw9568403709828906063 : Nat := 0
def top.tw959972581189667753 : Nat := 0
def top.tw9616830763870737045 : Nat := 0
def top.tw9639594679907208671 : Nat := 0
def top.tw9687752958218475674 : Nat := 0
def top.tw973995511521385530 : Nat := 0
def top.tw9755643710369634387 : Nat := 0
def top.tw9843969962099249254 : Nat := 0
def top.tw9861290040945838486 : Nat := 0
def top.tw9899774923764055371 : Nat := 0
def top.tw9961153035494529380 : Nat := 0
-- the head is looked at twice: the first look lays nothing, but the names above keep the second from laying its (large) twins
set_option Elab.async true in
theorem top : True := by
  first
  | let rec hd : PySem.Challenge.rw_nz0170_01.Holds :=
      ((by
        set_option Elab.async false in
        (w_on; o_law; k_head; (case hw => w_witness2); fail "enough") : PySem.Challenge.rw_nz0170_01.Holds) :)
    trivial
  | trivial
#print axioms top
open_top top.hd for PySem.Challenge.rw_nz0170_01
-- the head leaves the walk of a top on: off again
example : True := by
  w_top off
  trivial

section
open PySem PySem.W PySem.Calls PySem.Spec PyProof.Rows
example : True := by
  w_top off
  k_with_none
  trivial
/-- the names of a frame, as a word for a let -/
@[reducible] def frMap {h0 : Heap} {L : Addr} {h : Heap} {m : Str → Option Value} (_ : Fr h0 L h m) : Str → Option Value := m
/-- the marks handed out so far do not matter -/
theorem anyTok {α : Type} {M : Model} {A : Around} {c : Sem α} {Q : α → Shared → Prop} {E : Value → Shared → Prop} {s : Shared} (h : ∀ k, wpAny M A c Q E { s with toks := k }) : wpAny M A c Q E s := h s.toks
abbrev Led := List (Addr × Obj)
abbrev PR : Program := PySem.Challenge.rw_nz0170_01.row.prog
abbrev TopP (mean : ExcName → Option Value) (mg mb : Str → Option Value) (h : Heap) : Prop := Top top.hd.view_39 (looseW top.hd.view_39 [Str.ofString "MintError"]) mean mg mb h
/-- what a def hands back: led are the objects of its arguments; own are new objects that it tells of -/
abbrev FSpec (k : Nat) (w : World) (mean : ExcName → Option Value) (mg mb : Str → Option Value) (f : Addr) (led : Led) (vs : List Value) (P : Heap → Prop) (R : Value → Led → Prop) : Prop :=
  ∀ (dp un : Nat) (gd : Option (List Code)) (cn : Str) (cs : Scope) (a : Addr) (ccd : Value) (cl : List (Str × Addr)) (outer : List Env) (A₀ : Around) (base h₀ : Heap) (L : Addr) (m : Str → Option Value) (s : Shared) (Q E : Value → Shared → Prop),
    Below A₀ base outer h₀ → Fr h₀ L s.heap m → (top.hd.heap_39 w.params).In h₀ → News h₀ L s.heap led → TopP mean mg mb h₀ → cs.kind = .function → P s.heap →
    dp + k < recursionLimit → un + 20 * k < cLine →
    (∀ (v : Value) (own : Led) (h' : Heap) (tk' : Nat), s.heap.StaysIn h' → (∀ p ∈ own, h'.get? p.1 = some p.2 ∧ s.heap.get? p.1 = none) → R v own → Q v { s with heap := h', toks := tk' }) →
    wpAny (model PySem.Challenge.rw_nz0170_01.row.prog w) (ktrTop dp un gd cn cs L a ccd cl outer) (call (.ref f) vs) Q E s
section
variable {prog : Program} {w : World} {A₀ A : Around} {s : Shared} {base h₀ : Heap} {outer : List Env} {L : Addr} {m : Str → Option Value} {env : Env} {led : Led} {K : Frag} {p : Program} {loose : List Str} {mean : ExcName → Option Value} {mg mb : Str → Option Value}
  {R : Result → Shared → Prop} {name qual : Str} {params : Arguments} {body : List Stmt} {scope : Scope} {dV kV doc pm cdv ct oc : Value} {an od : Option Addr} {osl : Array (Option Value)} {f : Addr} {args : Args} {binds : List (Str × Value)}
theorem enterL (B : Below A₀ base outer h₀) (F : Fr h₀ L s.heap m) (X₀ : K.In h₀) (N : News h₀ L s.heap led) (T : Top p loose mean mg mb h₀) (hA : A.frames = some (env :: outer)) (hf : env.frame = some L) (hke : env.scope.kind = .function)
    (ho : K.lookup f = some ⟨oc, od, .func (fnOf name qual params body scope dV kV doc pm an cdv ct), osl⟩) (hcd : codeIn K cdv qual = true) (hroom : A.depth < recursionLimit)
    (hbind : BindsTo s (fnOf name qual params body scope dV kV doc pm an cdv ct) args binds) (hloc : ∀ y ∈ binds, scope.names.lookup y.1 = some .local)
    (h : ∀ g L' h₁, (∀ b o, s.heap.get? b = some o → b ∉ led.map (·.1) → g.get? b = some o) → Fr h₀ L g m → Fr g L' h₁ (fun y => binds.reverse.lookup y) → News g L' h₁ led → Below A base (env :: outer) g → K.In g → Top p loose mean mg mb g →
      wpAny (model prog w) (A.deeper (envOf qual scope L' f cdv)) (execs body (envOf qual scope L' f cdv))
        (fun fl s' => LeaveK h₀ L m g R (match fl with | .ret v => v | _ => .none) s')
        (fun e s' => wpAny (model prog w) (A.deeper (envOf qual scope L' f cdv)) (leaving (envOf qual scope L' f cdv) e) (fun _ s'' => R (.error e) s'') (fun e' s'' => R (.error e') s'') s')
        { s with heap := h₁, toks := s.toks + binds.length })
    (hco : scope.isCoroutine = false) (hgen : scope.isGenerator = false) (hk : scope.kind = .function)
    (hcell : ∀ x ∈ scope.names, x.2 ≠ .cell) : codeAny (model prog w) A (.call (.ref f) args) R s := by
  obtain ⟨FG, BG, st, lv⟩ := groundX (R := R) B F N hA hf hke
  refine codeAny_call_def (fd := fnX name qual params body scope [] dV kV doc pm an cdv ct) (body := body) (binds := binds) hroom ((X₀.keeps F.keep) _ _ ho) rfl (T.nolimit.keeps F.keep) (codeRec_of (X₀.keeps F.keep) hcd) rfl hbind hcell hloc (fun h₁ hns hk₁ => ?_) hco hgen hk
  exact wpAny_mono (h _ s.heap.objs.size h₁ (fun b o e n => hideAll_get _ e n) FG ⟨hns, fun b o e => hk₁ b o (of_hideAll _ e), Nat.le_of_eq (hideAll_size _ _)⟩
    (fun p hp => ⟨hk₁ _ _ (N p hp).1, Nat.ne_of_lt (Heap.lt_size (N p hp).1), hideAll_none _ (List.mem_map_of_mem hp)⟩) BG (X₀.keeps st) (T.keeps st)) (fun fl s' hl => lv _ _ hl) fun _ _ y => y
theorem stays_end {g h h' : Heap} {L' : Addr} {m' : Str → Option Value} {news' : Led} (hg : ∀ b o, h.get? b = some o → b ∉ led.map (·.1) → g.get? b = some o) (hl : ∀ p ∈ led, h.get? p.1 = some p.2)
    (F : Fr g L' h' m') (N : News g L' h' news') (hs : ∀ p ∈ led, p ∈ news') : h.StaysIn h' := fun b o e => by
  by_cases q : b ∈ led.map (·.1)
  · obtain ⟨p, hp, rfl⟩ := List.mem_map.mp q
    have := hl p hp
    rw [e] at this; cases this
    exact (N p (hs p hp)).1
  · exact F.keep b o (hg b o e q)
theorem stays_end0 {g h h' : Heap} {L' : Addr} {m' : Str → Option Value} (hg : ∀ b o, h.get? b = some o → b ∉ ([] : Led).map (·.1) → g.get? b = some o) (F : Fr g L' h' m') : h.StaysIn h' := fun b o e =>
  F.keep b o (hg b o e (fun q => nomatch q))
/-- fresh objects of a callee, told to the caller -/
theorem fresh_of {g h h' : Heap} {L' : Addr} {news' own : Led} (hg : ∀ b o, h.get? b = some o → b ∉ led.map (·.1) → g.get? b = some o) (N : News g L' h' news') (hs : ∀ p ∈ own, p ∈ news') (hn : ∀ p ∈ own, ∀ q ∈ led, p.1 ≠ q.1) :
    ∀ p ∈ own, h'.get? p.1 = some p.2 ∧ h.get? p.1 = none := fun p hp => ⟨(N p (hs p hp)).1, by
  cases e : h.get? p.1 with
  | none => rfl
  | some o =>
    have := hg _ _ e (fun q => by
      obtain ⟨r, hr, e'⟩ := List.mem_map.mp q
      exact hn p hp r hr e'.symm)
    rw [(N p (hs p hp)).2.2] at this; cases this⟩
theorem fr_stays {h₀ h h' : Heap} {L : Addr} {m : Str → Option Value} (F : Fr h₀ L h m) (st : h.StaysIn h') : Fr h₀ L h' m := by
  obtain ⟨⟨oL, es, ep, hL, r⟩, k, ab⟩ := F
  exact ⟨⟨oL, es, ep, st _ _ hL, r⟩, fun b o e => st _ _ (k b o e), ab⟩
theorem news_stays {h₀ h h' : Heap} {L : Addr} {m : Str → Option Value} {news own : Led} (F : Fr h₀ L h m) (N : News h₀ L h news) (st : h.StaysIn h') (ho : ∀ p ∈ own, h'.get? p.1 = some p.2 ∧ h.get? p.1 = none) : News h₀ L h' (own ++ news) := fun p hp => by
  rcases List.mem_append.mp hp with q | q
  · obtain ⟨a, b⟩ := ho p q
    refine ⟨a, fun e => ?_, ?_⟩
    · obtain ⟨⟨oL, es, ep, hL, r⟩, k, ab⟩ := F
      rw [e, hL] at b; cases b
    · cases q : h₀.get? p.1 with
      | none => rfl
      | some o => rw [F.keep _ _ q] at b; cases b
  · exact ⟨st _ _ (N p q).1, (N p q).2.1, (N p q).2.2⟩
theorem useS {mean : ExcName → Option Value} {mg mb : Str → Option Value} {w : World} {f : Addr} {led : Led} {vs : List Value} {P : Heap → Prop} {V : Tok → Value} {k : Nat} (S : FSpec k w mean mg mb f led vs P (fun v own => own = [] ∧ ∃ t, v = V t))
    {dp un : Nat} {gd : Option (List Code)} {cn : Str} {cs : Scope} {a : Addr} {ccd : Value} {cl : List (Str × Addr)} {outer : List Env} {A₀ : Around} {base h₀ : Heap} {L : Addr} {m : Str → Option Value} {s : Shared} {Q E : Value → Shared → Prop} {news : Led}
    (B : Below A₀ base outer h₀) (F : Fr h₀ L s.heap m) (X : (top.hd.heap_39 w.params).In h₀) (N : News h₀ L s.heap led) (T : TopP mean mg mb h₀) (hk : cs.kind = .function) (hp : P s.heap) (hdp : dp + k < recursionLimit) (hu : un + 20 * k < cLine) (N' : News h₀ L s.heap news)
    (ret : ∀ t h' tk', s.heap.StaysIn h' → Fr h₀ L h' m → News h₀ L h' news → Q (V t) { s with heap := h', toks := tk' }) :
    wpAny (model PySem.Challenge.rw_nz0170_01.row.prog w) (ktrTop dp un gd cn cs L a ccd cl outer) (call (.ref f) vs) Q E s :=
  S _ _ _ _ _ _ _ _ _ _ _ _ _ _ _ _ _ B F X N T hk hp hdp hu fun v own h' tk' st ho r => by
    obtain ⟨rfl, t, rfl⟩ := r
    exact ret t h' tk' st (fr_stays F st) (news_stays F N' st ho)
end
def lk {α : Type} (x : Str) : List (Str × α) → Option α
  | [] => none
  | (a, b) :: r => if a = x then some b else lk x r
theorem lookup_lk {α : Type} (enc : α → PyData) (x : Str) : ∀ D : List (Str × α), Spec.lookup (.str x) (D.map fun p => (PyData.str p.1, enc p.2)) = (lk x D).map enc
  | [] => rfl
  | (a, b) :: r => by
    show (if Spec.same (.str a) (.str x) then some (enc b) else Spec.lookup (.str x) (r.map fun p => (PyData.str p.1, enc p.2))) = (if a = x then some b else lk x r).map enc
    rw [PyProof.V.same_str, lookup_lk enc x r]
    by_cases h : a = x <;> simp [h]
theorem lk_mem {α : Type} {x : Str} {b : α} : ∀ {D : List (Str × α)}, lk x D = some b → (x, b) ∈ D
  | (a, c) :: r, h => by
    unfold lk at h
    split at h
    · rename_i e; cases h; rw [e]; exact .head _
    · exact .tail _ (lk_mem h)
abbrev encS (D : List (Str × Str)) : List (PyData × PyData) := D.map fun p => (PyData.str p.1, PyData.str p.2)
/-- a dict of texts, made by a callee -/
def TabS (w : World) (d : Addr) (o : Obj) (D : List (Str × Str)) : Prop := (d == sysModules) = false ∧ ∃ kvs, o.IsDictOf (PySem.strKind PySem.Challenge.rw_nz0170_01.row.prog w) kvs ∧ PyProof.V.FlatPairs PyData.str kvs (encS D)
/-- the texts that a dict of texts may hand back are short -/
def lenLe (D : List (Str × Str)) (n : Nat) : Bool := D.all fun p => decide (p.2.length ≤ n)
section
variable {w : World} {A : Around} {E : Value → Shared → Prop} {s : Shared} {h₀ : Heap} {L d : Addr} {m : Str → Option Value} {news : Led} {o : Obj} {D : List (Str × Str)} {x : Str} {t : Tok}
theorem tabS_at (N : News h₀ L s.heap news) (hm : (d, o) ∈ news) (T : TabS w d o D) : StrTab PySem.Challenge.rw_nz0170_01.row.prog w s.heap d (encS D) := by
  obtain ⟨lo, kvs, hd, hf⟩ := T
  exact ⟨lo, kvs, Heap.dictOf_iff.mpr ⟨o, (N _ hm).1, hd⟩, hf⟩
theorem in_tabS {Q : Value → Shared → Prop} (N : News h₀ L s.heap news) (hm : (d, o) ∈ news) (T : TabS w d o D) (h : Q (.bool (lk x D).isSome) { s with toks := s.toks + 1 }) :
    wpAny (model PySem.Challenge.rw_nz0170_01.row.prog w) A (compareOp .In (.str x t) (.ref d)) Q E s :=
  in_strTab (tabS_at N hm T) (by rw [lookup_lk]; cases q : lk x D <;> (rw [q] at h; exact h))
theorem item_tabS {value slice : Expr} {Q : Value → Shared → Prop} (N : News h₀ L s.heap news) (hm : (d, o) ∈ news) (T : TabS w d o D) (hl : (lk x D).isSome = true) (hn : lenLe D 20 = true)
    (h : ∀ t', ((lk x D).getD Str.empty).length ≤ 20 → Q (.str ((lk x D).getD Str.empty) t') { s with toks := s.toks + 1 })
    (hs : subscripted slice false (.ref d) (.str x t) = operate [.ref d, .str x t] (getItem (.ref d) (.str x t)) := by with_unfolding_all rfl) (hg : ∀ r, letTemporaryGo value (.ref d) r = pure () := by intro _; with_unfolding_all rfl) :
    wpAny (model PySem.Challenge.rw_nz0170_01.row.prog w) A (subscriptTail value slice (.ref d) (.str x t)) Q E s := by
  obtain ⟨y, hy⟩ := Option.isSome_iff_exists.mp hl
  refine item_strTab (dv := .str y) (tabS_at N hm T) (by rw [lookup_lk, hy]; rfl) (fun v hv => ?_) hs hg
  obtain ⟨t', rfl⟩ := hv.str_inv
  have := List.all_eq_true.mp hn _ (lk_mem hy)
  rw [hy] at h
  exact h t' (of_decide_eq_true this)
/-- the place of a text in a made list of texts -/
theorem index_strs {n : Nat} {its : Array Value} {ss : List Str} {Q : Value → Shared → Prop} (N : News h₀ L s.heap news) (hm : (d, W.listOf its n) ∈ news) (hi : StrsAre its.toList ss) (hz : ss.length ≤ 1000) (hk : (ss.any fun y => y == x) = true)
    (h : ss.idxOf x < ss.length → Q (.int (ss.idxOf x : Nat) s.toks) { s with toks := s.toks + 1 }) : wpAny (model PySem.Challenge.rw_nz0170_01.row.prog w) A (call (.builtin "list.index") [.ref d, .str x t]) Q E s := by
  have hmem : x ∈ ss := by
    obtain ⟨y, hy, e⟩ := List.any_eq_true.mp hk
    rw [← eq_of_beq e]; exact hy
  have hj : ss.idxOf x < ss.length := List.idxOf_lt_length_iff.mpr hmem
  have hlen := hi.len_eq
  have hs : its.toList.length = its.size := Array.length_toList
  have at_ : ∀ i (hlt : i < its.size), isStrOf x its[i] = (ss[i]'(by omega) == x) := fun i hlt => by
    obtain ⟨t', e⟩ := hi.at (j := i) (y := ss[i]'(by omega)) (by simp [show i < ss.length by omega])
    have e2 : its[i] = .str (ss[i]'(by omega)) t' := by
      have : its.toList[i]? = some its[i] := by simp [hlt]
      rw [e] at this; exact (Option.some.inj this).symm
    rw [e2]; rfl
  refine call_meets PySem.F.slot_list_index ⟨_, (N _ hm).1, rfl⟩ PySem.F.entry_list_index (PySem.F.args_list_index_2 _ _)
    (MeetsSeq.list_index d its n (.str x t) (isStrOf x) (fun y hy => eq_isStrOf x t hi y (by simpa using hy)) (ss.idxOf x) (by omega) (by omega) ?_ ?_) ⟨(N _ hm).1, h hj⟩
  · rw [at_ _ (by omega)]; simp
  · intro i hlt hi'
    rw [at_ _ (by omega)]
    have q := List.not_of_lt_findIdx (p := fun y => y == x) (xs := ss) (i := i) hi'
    simpa using q
/-- an item of a made list of texts at a place that is not written -/
theorem item_strs {value slice : Expr} {n j : Nat} {its : Array Value} {ss : List Str} {u : Tok} {Q : Value → Shared → Prop} (N : News h₀ L s.heap news) (hm : (d, W.listOf its n) ∈ news) (hi : StrsAre its.toList ss) (hz : ss.length ≤ 1000) (hj : j < ss.length)
    (h : ∀ t', Q (.str (ss.getD j Str.empty) t') s)
    (hs : subscripted slice false (.ref d) (.int (j : Nat) u) = operate [.ref d, .int (j : Nat) u] (getItem (.ref d) (.int (j : Nat) u)) := by with_unfolding_all rfl) :
    wpAny (model PySem.Challenge.rw_nz0170_01.row.prog w) A (subscriptTail value slice (.ref d) (.int (j : Nat) u)) Q E s := by
  have hl : s.heap.IsList d its := PySem.IsL.isList (n := n) (N _ hm).1
  obtain ⟨t', e⟩ := hi.at (j := j) (y := ss.getD j Str.empty) (by simp [hj])
  exact tail_any hl.typeIs slot_list_getitem.lookup (wpAny_getItem_list hl (by omega) (by omega) (x := .str (ss.getD j Str.empty) t') (by simpa using e) (h t')) hs
end
/-- a tuple of a name and two sizes -/
abbrev tup3 (r : Str × Int × Int) (t1 t2 t3 : Tok) : Obj := { cls := .type "tuple", data := .seq #[.str r.1 t1, .int r.2.1 t2, .int r.2.2 t3] }
def T3 (r : Str × Int × Int) (v : Value) (own : Led) : Prop := ∃ q t1 t2 t3, v = .ref q ∧ own = [(q, tup3 r t1 t2 t3)]
theorem T3.mk {r : Str × Int × Int} {q : Addr} {t1 t2 t3 : Tok} {n : Str} {a b : Int} (h : r = (n, a, b)) : T3 r (.ref q) [(q, { cls := .type "tuple", data := .seq #[.str n t1, .int a t2, .int b t3] })] := by
  subst h; exact ⟨q, t1, t2, t3, rfl, rfl⟩
section
variable {s : Shared} {g h' : Heap} {L' : Addr} {m' : Str → Option Value} {led news' : Led} {Q : Value → Shared → Prop} {R : Value → Led → Prop}
theorem end1 {q : Addr} {o : Obj} {tk' : Nat} (hret : ∀ (v : Value) (own : Led) (h' : Heap) (tk' : Nat), s.heap.StaysIn h' → (∀ p ∈ own, h'.get? p.1 = some p.2 ∧ s.heap.get? p.1 = none) → R v own → Q v { s with heap := h', toks := tk' })
    (hg : ∀ b o, s.heap.get? b = some o → b ∉ led.map (·.1) → g.get? b = some o) (hl : ∀ p ∈ led, s.heap.get? p.1 = some p.2) (F : Fr g L' h' m') (N : News g L' h' news') (hs : ∀ p ∈ led, p ∈ news') (hm : (q, o) ∈ news') (hn : ∀ p ∈ led, q ≠ p.1) (hR : R (.ref q) [(q, o)]) :
    Q (.ref q) { s with heap := h', toks := tk' } :=
  hret _ _ _ _ (stays_end hg hl F N hs) (fresh_of hg N (fun p hp => by rw [List.mem_singleton.mp hp]; exact hm) (fun p hp r hr => by rw [List.mem_singleton.mp hp]; exact hn r hr)) hR
theorem end0 {v : Value} {tk' : Nat} (hret : ∀ (v : Value) (own : Led) (h' : Heap) (tk' : Nat), s.heap.StaysIn h' → (∀ p ∈ own, h'.get? p.1 = some p.2 ∧ s.heap.get? p.1 = none) → R v own → Q v { s with heap := h', toks := tk' })
    (hg : ∀ b o, s.heap.get? b = some o → b ∉ led.map (·.1) → g.get? b = some o) (hl : ∀ p ∈ led, s.heap.get? p.1 = some p.2) (F : Fr g L' h' m') (N : News g L' h' news') (hs : ∀ p ∈ led, p ∈ news') (hR : R v []) :
    Q v { s with heap := h', toks := tk' } := hret _ _ _ _ (stays_end hg hl F N hs) (fun _ hp => absurd hp List.not_mem_nil) hR
end
section
variable {mean : ExcName → Option Value} {mg mb : Str → Option Value} {w : World} {f : Addr} {led : Led} {vs : List Value} {P : Heap → Prop} {k : Nat}
    {dp un : Nat} {gd : Option (List Code)} {cn : Str} {cs : Scope} {a : Addr} {ccd : Value} {cl : List (Str × Addr)} {outer : List Env} {A₀ : Around} {base h₀ : Heap} {L : Addr} {m : Str → Option Value} {s : Shared} {Q E : Value → Shared → Prop} {news : Led}
theorem useT {r : Str × Int × Int} (S : FSpec k w mean mg mb f led vs P (T3 r))
    (B : Below A₀ base outer h₀) (F : Fr h₀ L s.heap m) (X : (top.hd.heap_39 w.params).In h₀) (N : News h₀ L s.heap led) (T : TopP mean mg mb h₀) (hk : cs.kind = .function) (hp : P s.heap) (hdp : dp + k < recursionLimit) (hu : un + 20 * k < cLine) (N' : News h₀ L s.heap news)
    (ret : ∀ n a b q t1 t2 t3 h' tk', r = (n, a, b) → s.heap.StaysIn h' → Fr h₀ L h' m → News h₀ L h' ((q, { cls := .type "tuple", data := .seq #[.str n t1, .int a t2, .int b t3] }) :: news) → Q (.ref q) { s with heap := h', toks := tk' }) :
    wpAny (model PySem.Challenge.rw_nz0170_01.row.prog w) (ktrTop dp un gd cn cs L a ccd cl outer) (call (.ref f) vs) Q E s :=
  S _ _ _ _ _ _ _ _ _ _ _ _ _ _ _ _ _ B F X N T hk hp hdp hu fun v own h' tk' st ho r' => by
    obtain ⟨q, t1, t2, t3, rfl, rfl⟩ := r'
    obtain ⟨n, a, b⟩ := r
    exact ret n a b q t1 t2 t3 h' tk' rfl st (fr_stays F st) (news_stays F N' st ho)
theorem useD {D : List (Str × Str)} (S : FSpec k w mean mg mb f led vs P (fun v own => ∃ d o, v = .ref d ∧ own = [(d, o)] ∧ TabS w d o D))
    (B : Below A₀ base outer h₀) (F : Fr h₀ L s.heap m) (X : (top.hd.heap_39 w.params).In h₀) (N : News h₀ L s.heap led) (T : TopP mean mg mb h₀) (hk : cs.kind = .function) (hp : P s.heap) (hdp : dp + k < recursionLimit) (hu : un + 20 * k < cLine) (N' : News h₀ L s.heap news)
    (ret : ∀ d o h' tk', TabS w d o D → s.heap.StaysIn h' → Fr h₀ L h' m → News h₀ L h' ((d, o) :: news) → Q (.ref d) { s with heap := h', toks := tk' }) :
    wpAny (model PySem.Challenge.rw_nz0170_01.row.prog w) (ktrTop dp un gd cn cs L a ccd cl outer) (call (.ref f) vs) Q E s :=
  S _ _ _ _ _ _ _ _ _ _ _ _ _ _ _ _ _ B F X N T hk hp hdp hu fun v own h' tk' st ho r' => by
    obtain ⟨d, o, rfl, rfl, td⟩ := r'
    exact ret d o h' tk' td st (fr_stays F st) (news_stays F N' st ho)
end
theorem pos_eq {α : Sort _} {c : Prop} [Decidable c] {a b r : α} (h : c) (k : a = r) : ite c a b = r := (if_pos h).trans k
theorem neg_eq {α : Sort _} {c : Prop} [Decidable c] {a b r : α} (h : ¬ c) (k : b = r) : ite c a b = r := (if_neg h).trans k
theorem neg_eqB {α : Sort _} {c : Bool} {a b r : α} (h : c = false) (k : b = r) : (if c = true then a else b) = r := (if_neg (Bool.eq_false_iff.mp h)).trans k
theorem flat_to {K : Type} {enc : K → PyData} {kvs : List (K × Value)} {D D' : List (PyData × PyData)} (h : PyProof.V.FlatPairs enc kvs D) (e : D = D') : PyProof.V.FlatPairs enc kvs D' := e ▸ h
theorem stI {r y : Str} {t : Tok} (h : r = y) : ([] : Led) = [] ∧ ∃ t', Value.str y t = Value.str r t' := ⟨rfl, t, by rw [h]⟩
theorem instAt_base {h₀ h : Heap} {L x C dx : Addr} {m : Str → Option Value} {od : Obj} {sl : Array (Option Value)} (F : Fr h₀ L h m) (h1 : h₀.get? x = some (⟨.ref C, some dx, .plain, sl⟩ : Obj)) (h2 : h₀.get? dx = some od) :
    InstAt h x ⟨.ref C, some dx, .plain, sl⟩ C (some od) := ⟨F.keep _ _ h1, rfl, rfl, F.keep _ _ h2⟩
/-- a register operand -/
inductive RegIn (h : Heap) (a : Addr) (kd : Str) : Prop
  | mk (da ra dra : Addr) (x1 x2 y1 y2 y3 y4 : Int) (t1 t2 t3 u1 u2 u3 u4 u5 u6 u7 u8 : Tok) (nm : Str) (nb sz : Int) : h.get? a = some (instObj 325 da) →
    h.get? da = some (W.dictOf [⟨x1, .str (Str.ofString "kind") t1, .str (Str.ofString "reg") t2⟩, ⟨x2, .str (Str.ofString "register") t3, .ref ra⟩] 2) →
    h.get? ra = some (instObj 419 dra) →
    h.get? dra = some (W.dictOf [⟨y1, .str (Str.ofString "name") u1, .str nm u2⟩, ⟨y2, .str (Str.ofString "kind") u3, .str kd u4⟩, ⟨y3, .str (Str.ofString "number") u5, .int nb u6⟩, ⟨y4, .str (Str.ofString "size") u7, .int sz u8⟩] 4) → RegIn h a kd
theorem RegIn.keep {h h' : Heap} {a : Addr} {kd : Str} (k : ∀ b o, h.get? b = some o → h'.get? b = some o) (x : RegIn h a kd) : RegIn h' a kd := by
  obtain ⟨da, ra, dra, x1, x2, y1, y2, y3, y4, t1, t2, t3, u1, u2, u3, u4, u5, u6, u7, u8, nm, nb, sz, a1, a2, a3, a4⟩ := x
  exact ⟨da, ra, dra, x1, x2, y1, y2, y3, y4, t1, t2, t3, u1, u2, u3, u4, u5, u6, u7, u8, nm, nb, sz, k _ _ a1, k _ _ a2, k _ _ a3, k _ _ a4⟩
/-- the operands of a sort -/
def OpsAt (h : Heap) (l : Addr) (n : Nat) (b : Bool) : Prop :=
  (n = 0 ∧ b = false ∧ h.get? l = some (W.listOf #[] 0)) ∨ (n = 1 ∧ b = false ∧ ∃ r, h.get? l = some (W.listOf #[.ref r] 0) ∧ RegIn h r (Str.ofString "gpr")) ∨
  (n = 2 ∧ b = false ∧ ∃ r q, h.get? l = some (W.listOf #[.ref r, .ref q] 0) ∧ RegIn h r (Str.ofString "gpr") ∧ RegIn h q (Str.ofString "gpr")) ∨
  (n = 2 ∧ b = true ∧ ∃ r q, h.get? l = some (W.listOf #[.ref r, .ref q] 0) ∧ RegIn h r (Str.ofString "xmm") ∧ RegIn h q (Str.ofString "gpr"))
theorem OpsAt.keep {h h' : Heap} {l : Addr} {n : Nat} {b : Bool} (k : ∀ b o, h.get? b = some o → h'.get? b = some o) (x : OpsAt h l n b) : OpsAt h' l n b := by
  rcases x with ⟨a1, a2, a3⟩ | ⟨a1, a2, r, a3, a4⟩ | ⟨a1, a2, r, q, a3, a4, a5⟩ | ⟨a1, a2, r, q, a3, a4, a5⟩
  · exact .inl ⟨a1, a2, k _ _ a3⟩
  · exact .inr (.inl ⟨a1, a2, r, k _ _ a3, a4.keep k⟩)
  · exact .inr (.inr (.inl ⟨a1, a2, r, q, k _ _ a3, a4.keep k, a5.keep k⟩))
  · exact .inr (.inr (.inr ⟨a1, a2, r, q, k _ _ a3, a4.keep k, a5.keep k⟩))
theorem list_base {h : Heap} {l : Addr} {vs : List Value} (e : h.get? l = some (W.listOf vs.toArray 0)) : h.IsList l vs.toArray := ⟨_, e, rfl, 0, rfl⟩
theorem toG {h g : Heap} (hg : ∀ b o, h.get? b = some o → b ∉ ([] : Led).map (·.1) → g.get? b = some o) : ∀ b o, h.get? b = some o → g.get? b = some o := fun b o e => hg b o e List.not_mem_nil
/-- as FSpec, the result told of the heap behind the call -/
abbrev FSpecH (k : Nat) (w : World) (mean : ExcName → Option Value) (mg mb : Str → Option Value) (f : Addr) (vs : List Value) (P : Heap → Prop) (R : Heap → Value → Prop) : Prop :=
  ∀ (dp un : Nat) (gd : Option (List Code)) (cn : Str) (cs : Scope) (a : Addr) (ccd : Value) (cl : List (Str × Addr)) (outer : List Env) (A₀ : Around) (base h₀ : Heap) (L : Addr) (m : Str → Option Value) (s : Shared) (Q E : Value → Shared → Prop),
    Below A₀ base outer h₀ → Fr h₀ L s.heap m → (top.hd.heap_39 w.params).In h₀ → News h₀ L s.heap [] → TopP mean mg mb h₀ → cs.kind = .function → P s.heap →
    dp + k < recursionLimit → un + 20 * k < cLine →
    (∀ (v : Value) (h' : Heap) (tk' : Nat), s.heap.StaysIn h' → R h' v → Q v { s with heap := h', toks := tk' }) →
    wpAny (model PySem.Challenge.rw_nz0170_01.row.prog w) (ktrTop dp un gd cn cs L a ccd cl outer) (call (.ref f) vs) Q E s
section
variable {mean : ExcName → Option Value} {mg mb : Str → Option Value} {w : World} {f : Addr} {vs : List Value} {P : Heap → Prop} {k : Nat}
    {dp un : Nat} {gd : Option (List Code)} {cn : Str} {cs : Scope} {a : Addr} {ccd : Value} {cl : List (Str × Addr)} {outer : List Env} {A₀ : Around} {base h₀ : Heap} {L : Addr} {m : Str → Option Value} {s : Shared} {Q E : Value → Shared → Prop} {news : Led}
theorem useH {R : Heap → Value → Prop} (S : FSpecH k w mean mg mb f vs P R)
    (B : Below A₀ base outer h₀) (F : Fr h₀ L s.heap m) (X : (top.hd.heap_39 w.params).In h₀) (N : News h₀ L s.heap []) (T : TopP mean mg mb h₀) (hk : cs.kind = .function) (hp : P s.heap) (hdp : dp + k < recursionLimit) (hu : un + 20 * k < cLine) (N' : News h₀ L s.heap news)
    (ret : ∀ v h' tk', R h' v → s.heap.StaysIn h' → Fr h₀ L h' m → News h₀ L h' news → Q v { s with heap := h', toks := tk' }) :
    wpAny (model PySem.Challenge.rw_nz0170_01.row.prog w) (ktrTop dp un gd cn cs L a ccd cl outer) (call (.ref f) vs) Q E s :=
  S _ _ _ _ _ _ _ _ _ _ _ _ _ _ _ _ _ B F X N T hk hp hdp hu fun v h' tk' st r' => ret v h' tk' r' st (fr_stays F st) (fun p hp => news_stays (own := []) F N' st (fun _ h => absurd h List.not_mem_nil) p hp)
end
section
variable {s : Shared} {g h' : Heap} {L' : Addr} {m' : Str → Option Value} {Q : Value → Shared → Prop} {R : Heap → Value → Prop}
theorem endH {v : Value} {tk' : Nat} (hret : ∀ (v : Value) (h' : Heap) (tk' : Nat), s.heap.StaysIn h' → R h' v → Q v { s with heap := h', toks := tk' })
    (hg : ∀ b o, s.heap.get? b = some o → b ∉ ([] : Led).map (·.1) → g.get? b = some o) (F : Fr g L' h' m') (hR : R h' v) : Q v { s with heap := h', toks := tk' } := hret _ _ _ (stays_end0 hg F) hR
end
/-- a tuple of a name and two sizes stands at q -/
def IsT3 (h : Heap) (q : Addr) (r : Str × Int × Int) : Prop := ∃ t1 t2 t3, h.get? q = some (tup3 r t1 t2 t3)
theorem IsT3.keep {h h' : Heap} {q : Addr} {r : Str × Int × Int} (k : ∀ b o, h.get? b = some o → h'.get? b = some o) (x : IsT3 h q r) : IsT3 h' q r := let ⟨a, b, c, e⟩ := x; ⟨a, b, c, k _ _ e⟩
theorem IsT3.of_news {h₀ h : Heap} {L q : Addr} {news : Led} {n : Str} {a b : Int} {t1 t2 t3 : Tok} (N : News h₀ L h news) (hm : (q, ({ cls := .type "tuple", data := .seq #[.str n t1, .int a t2, .int b t3] } : Obj)) ∈ news) : IsT3 h q (n, a, b) := ⟨t1, t2, t3, (N _ hm).1⟩
theorem IsT3.of_eq {h : Heap} {q : Addr} {r r' : Str × Int × Int} (e : r = r') (x : IsT3 h q r') : IsT3 h q r := e ▸ x
section
variable {prog : Program} {w : World} {A : Around} {E : Value → Shared → Prop} {s : Shared} {p q : Addr} {r r' : Str × Int × Int}
theorem ne_t3 {Q : Value → Shared → Prop} (x : IsT3 s.heap p r) (y : IsT3 s.heap q r') (hu : A.units < cLine) (h : Q (.bool (!decide (r = r'))) s) : wpAny (model prog w) A (compareOp .NotEq (.ref p) (.ref q)) Q E s := by
  obtain ⟨t1, t2, t3, e1⟩ := x; obtain ⟨u1, u2, u3, e2⟩ := y
  obtain ⟨a, b, c⟩ := r; obtain ⟨a', b', c'⟩ := r'
  have hl : s.heap.IsTuple p #[.str a t1, .int b t2, .int c t3] := ⟨_, e1, rfl, 0, rfl⟩
  have hb : s.heap.IsTuple q #[.str a' u1, .int b' u2, .int c' u3] := ⟨_, e2, rfl, 0, rfl⟩
  refine SeqAt.RcNeAt.tuples (e := fun j => match j with | 0 => a == a' | 1 => b == b' | _ => c == c') hl hb hu (fun j h1 h2 => ?_) prog w E Q ?_
  · match j, h1 with
    | 0, _ => exact (eqGives_str a a' t1 u1).at _ _
    | 1, _ => exact (MeetsSeq.EqGives.int b b' t2 u2).at _ _
    | 2, _ => exact (MeetsSeq.EqGives.int c c' t3 u3).at _ _
    | n + 3, h => exact absurd h (by show ¬ (n + 3 < 3); omega)
  · have e : (!((List.range (min (#[Value.str a t1, .int b t2, .int c t3] : Array Value).size (#[Value.str a' u1, .int b' u2, .int c' u3] : Array Value).size)).all (fun j => match j with | 0 => a == a' | 1 => b == b' | _ => c == c') && (#[Value.str a t1, .int b t2, .int c t3] : Array Value).size == (#[Value.str a' u1, .int b' u2, .int c' u3] : Array Value).size)) = !decide ((a, b, c) = (a', b', c')) := by
      show (!((a == a' && (b == b' && (c == c' && true))) && true)) = _
      by_cases h1 : a = a' <;> by_cases h2 : b = b' <;> by_cases h3 : c = c' <;> simp [h1, h2, h3]
    rw [e]; exact h
theorem eq_nilL {Q : Value → Shared → Prop} {its : Array Value} (hl : s.heap.IsList p its) (he : s.heap.IsList q #[]) (hu : A.units < cLine) (h : Q (.bool (its.size == 0)) s) : wpAny (model prog w) A (compareOp .Eq (.ref p) (.ref q)) Q E s := by
  by_cases e : its.size = 0
  · refine SeqAt.eq_listAt (e := fun _ => true) hl he e hu (fun j h1 _ => absurd h1 (by omega)) ?_
    have : ((List.range its.size).all fun _ => true) = (its.size == 0) := by rw [e]; rfl
    rw [this]; exact h
  · have e' : (its.size != (#[] : Array Value).size) = true := by simp [e]
    refine SeqAt.eq_list_lengthsAt hl he e' hu ?_
    have : (its.size == 0) = false := by simp [e]
    rw [this] at h; exact h
theorem ne_nilL {Q : Value → Shared → Prop} {its : Array Value} (hl : s.heap.IsList p its) (he : s.heap.IsList q #[]) (hu : A.units < cLine) (h : Q (.bool (!(its.size == 0))) s) : wpAny (model prog w) A (compareOp .NotEq (.ref p) (.ref q)) Q E s := by
  by_cases e : its.size = 0
  · refine SeqAt.RcNeAt.lists (e := fun _ => true) hl he e hu (fun j h1 _ => absurd h1 (by omega)) prog w E Q ?_
    have : (!(List.range its.size).all fun _ => true) = (!(its.size == 0)) := by rw [e]; rfl
    rw [this]; exact h
  · have e' : (its.size != (#[] : Array Value).size) = true := by simp [e]
    refine SeqAt.RcNeAt.lists_lengths hl he e' hu prog w E Q ?_
    have : (its.size == 0) = false := by simp [e]
    rw [this] at h; exact h
end
/-- a row of the manual: name, kinds, size -/
structure FR where
  name : Str
  kinds : List Str
  size : Int
abbrev FV : Type := (Nat → Int) × (Nat → Tok)
/-- the dict of a Form -/
abbrev formD (r : FR) (kt : Addr) (op num : Int) (pl : Addr) (q9 : FV) (u8 : Tok) : Obj :=
  W.dictOf [⟨q9.1 0, .str (Str.ofString "name") (q9.2 0), .str r.name (q9.2 10)⟩, ⟨q9.1 1, .str (Str.ofString "kinds") (q9.2 1), .ref kt⟩, ⟨q9.1 2, .str (Str.ofString "opcode") (q9.2 2), .int op (q9.2 11)⟩, ⟨q9.1 3, .str (Str.ofString "escape") (q9.2 3), .int 0 (q9.2 12)⟩, ⟨q9.1 4, .str (Str.ofString "digit") (q9.2 4), .int (-1) (q9.2 13)⟩,
    ⟨q9.1 5, .str (Str.ofString "size") (q9.2 5), .int r.size (q9.2 14)⟩, ⟨q9.1 6, .str (Str.ofString "must") (q9.2 6), .int 0 (q9.2 15)⟩, ⟨q9.1 7, .str (Str.ofString "is_wide") (q9.2 7), .bool false⟩, ⟨q9.1 8, .str (Str.ofString "number") (q9.2 8), .int num u8⟩, ⟨q9.1 9, .str (Str.ofString "places") (q9.2 9), .ref pl⟩] 10
/-- a Form object of a row -/
inductive FormAt (h : Heap) (f : Addr) (r : FR) : Prop
  | mk (fd kt pl : Addr) (op num : Int) (q9 : FV) (u8 : Tok) (ks : List Value) (n : Nat) : h.get? f = some (instObj 248 fd) → h.get? fd = some (formD r kt op num pl q9 u8) →
    h.get? kt = some ({ cls := .type "tuple", data := .seq ks.toArray n } : Obj) → StrsAre ks r.kinds → FormAt h f r
theorem FormAt.keep {h h' : Heap} {f : Addr} {r : FR} (k : ∀ b o, h.get? b = some o → h'.get? b = some o) (x : FormAt h f r) : FormAt h' f r := by
  obtain ⟨fd, kt, pl, op, num, q9, u8, ks, n, a, b, c, d⟩ := x
  exact ⟨fd, kt, pl, op, num, q9, u8, ks, n, k _ _ a, k _ _ b, k _ _ c, d⟩
inductive FormsAt (h : Heap) : List Value → List FR → Prop
  | nil : FormsAt h [] []
  | cons {f : Addr} {r : FR} {vs : List Value} {rs : List FR} : FormAt h f r → FormsAt h vs rs → FormsAt h (.ref f :: vs) (r :: rs)
theorem FormsAt.keep {h h' : Heap} {vs : List Value} {rs : List FR} (k : ∀ b o, h.get? b = some o → h'.get? b = some o) (x : FormsAt h vs rs) : FormsAt h' vs rs := by
  induction x with
  | nil => exact .nil
  | cons a _ ih => exact .cons (a.keep k) ih
/-- an instruction set of rows; fv: the forms of a name -/
inductive IsetAt (w : World) (h : Heap) (ia : Addr) (rows : List FR) (fv : Str → List Value) : Prop
  | mk (dx fl dn dc : Addr) (x1 x2 x3 : Int) (t1 t2 t3 : Tok) (on : Obj) (kvs : List (Str × Value)) : h.get? ia = some (instObj 113 dx) →
    h.get? dx = some (W.dictOf [⟨x1, .str (Str.ofString "forms") t1, .ref fl⟩, ⟨x2, .str (Str.ofString "by_name") t2, .ref dn⟩, ⟨x3, .str (Str.ofString "by_code") t3, .ref dc⟩] 3) →
    h.get? dn = some on →
    (dn == sysModules) = false →
    on.IsDictOf (PySem.strKind PySem.Challenge.rw_nz0170_01.row.prog w) kvs →
    ((∀ nm : Str, (valueAt kvs nm = none ∧ fv nm = []) ∨ ∃ ln n, valueAt kvs nm = some (.ref ln) ∧ h.get? ln = some (W.listOf (fv nm).toArray n) ∧ fv nm ≠ [] ∧ (fv nm).length ≤ 16)) →
    (∀ nm : Str, FormsAt h (fv nm) (rows.filter fun r => r.name == nm)) → IsetAt w h ia rows fv
theorem IsetAt.keep {w : World} {h h' : Heap} {ia : Addr} {rows : List FR} {fv : Str → List Value} (k : ∀ b o, h.get? b = some o → h'.get? b = some o) (x : IsetAt w h ia rows fv) : IsetAt w h' ia rows fv := by
  obtain ⟨dx, fl, dn, dc, x1, x2, x3, t1, t2, t3, on, kvs, a, b, c, d, e, f, g⟩ := x
  refine ⟨dx, fl, dn, dc, x1, x2, x3, t1, t2, t3, on, kvs, k _ _ a, k _ _ b, k _ _ c, d, e, fun nm => ?_, fun nm => (g nm).keep k⟩
  rcases f nm with q | ⟨ln, n, q1, q2, q3⟩
  · exact .inl q
  · exact .inr ⟨ln, n, q1, k _ _ q2, q3⟩
def hasF (rows : List FR) (nm : Str) : Bool := rows.any fun r => r.name == nm
theorem FormsAt.length {h : Heap} {vs : List Value} {rs : List FR} (x : FormsAt h vs rs) : vs.length = rs.length := by
  induction x with
  | nil => rfl
  | cons _ _ ih => rw [List.length_cons, List.length_cons, ih]
theorem hasF_of {rows : List FR} {nm : Str} : hasF rows nm = !(rows.filter fun r => r.name == nm).isEmpty := by
  unfold hasF
  induction rows with
  | nil => rfl
  | cons r rs ih =>
    rw [List.any_cons, List.filter_cons]
    by_cases h : (r.name == nm) = true
    · simp [h]
    · rw [Bool.not_eq_true] at h
      simp only [h, Bool.false_or, Bool.false_eq_true, if_false]
      exact ih
section
variable {w : World} {A : Around} {E : Value → Shared → Prop} {s : Shared} {h₀ : Heap} {L d : Addr} {m : Str → Option Value} {o : Obj} {kvs : List (Str × Value)} {x : Str} {t : Tok}
theorem dictOf_base (F : Fr h₀ L s.heap m) (ho : h₀.get? d = some o) (hd : o.IsDictOf (PySem.strKind PySem.Challenge.rw_nz0170_01.row.prog w) kvs) : s.heap.DictOf (PySem.strKind PySem.Challenge.rw_nz0170_01.row.prog w) d kvs := Heap.dictOf_iff.mpr ⟨o, F.keep _ _ ho, hd⟩
theorem in_base {Q : Value → Shared → Prop} (F : Fr h₀ L s.heap m) (ho : h₀.get? d = some o) (lo : (d == sysModules) = false) (hd : o.IsDictOf (PySem.strKind PySem.Challenge.rw_nz0170_01.row.prog w) kvs)
    (h : Q (.bool (valueAt kvs x).isSome) { s with toks := s.toks + 1 }) : wpAny (model PySem.Challenge.rw_nz0170_01.row.prog w) A (compareOp .In (.str x t) (.ref d)) Q E s :=
  wpAny_in_of (strKind_is _ w x t) lo (dictOf_base F ho hd).mapOf h
theorem get2_base {Q : Value → Shared → Prop} {dflt v : Value} (F : Fr h₀ L s.heap m) (ho : h₀.get? d = some o) (lo : (d == sysModules) = false) (hd : o.IsDictOf (PySem.strKind PySem.Challenge.rw_nz0170_01.row.prog w) kvs)
    (hv : (valueAt kvs x).getD dflt = v) (h : Q v { s with toks := s.toks + 1 }) : wpAny (model PySem.Challenge.rw_nz0170_01.row.prog w) A (call (.builtin "dict.get") [.ref d, .str x t, dflt]) Q E s :=
  call_meetsIn PySem.F.slot_dict_get (dictOf_base F ho hd).typeIs PySem.F.entry_dict_get (PySem.F.args_dict_get_3 _ _ _) (meets_dict_get_default (PySem.strKind PySem.Challenge.rw_nz0170_01.row.prog w) d (strKind_is _ w x t) lo dflt) ⟨_, (dictOf_base F ho hd).mapOf, by rw [hv]; exact h⟩
theorem getm_base {pl : Sem Bool} {Q : Value × List Value → Shared → Prop} (F : Fr h₀ L s.heap m) (ho : h₀.get? d = some o) (hd : o.IsDictOf (PySem.strKind PySem.Challenge.rw_nz0170_01.row.prog w) kvs)
    (h : Q (.builtin "dict.get", [.ref d]) s) : wpAny (model PySem.Challenge.rw_nz0170_01.row.prog w) A (getMethod (.ref d) (Str.ofString "get") pl) Q E s :=
  getMethod_builtin (dictOf_base F ho hd).typeIs PySem.F.plainAttrs_dict PySem.F.slot_dict_get PySem.F.type_dict_get (dictOf_base F ho hd).mapOf.noDict h
end
theorem getD_none {α : Type} {o : Option α} {d : α} (h : o = none) : o.getD d = d := by rw [h]; rfl
theorem getD_some {α : Type} {o : Option α} {d v : α} (h : o = some v) : o.getD d = v := by rw [h]; rfl
theorem list_baseN {h : Heap} {l : Addr} {vs : List Value} {n : Nat} (e : h.get? l = some (W.listOf vs.toArray n)) : h.IsList l vs.toArray := ⟨_, e, rfl, n, rfl⟩
theorem has_of {h : Heap} {rows : List FR} {fv : Str → List Value} {kvs : List (Str × Value)} {x : Str}
    (f : (valueAt kvs x = none ∧ fv x = []) ∨ ∃ ln n, valueAt kvs x = some (.ref ln) ∧ h.get? ln = some (W.listOf (fv x).toArray n) ∧ fv x ≠ [] ∧ (fv x).length ≤ 16) (g : FormsAt h (fv x) (rows.filter fun r => r.name == x)) :
    (valueAt kvs x).isSome = hasF rows x := by
  rw [hasF_of]
  have hl := g.length
  rcases f with ⟨a, b⟩ | ⟨ln, n, a, b, c, d⟩
  · rw [b] at hl
    rw [a, List.isEmpty_iff.mpr (List.length_eq_zero_iff.mp hl.symm)]; rfl
  · rw [a]
    cases e : rows.filter fun r => r.name == x with
    | nil => rw [e] at hl; exact absurd (List.length_eq_zero_iff.mp hl) c
    | cons _ _ => rfl
theorem boolI {r y : Bool} (h : r = y) : ([] : Led) = [] ∧ ∃ _ : Tok, Value.bool y = Value.bool r := ⟨rfl, 0, by rw [h]⟩
def FPost (h₀ : Heap) (L : Addr) (m : Str → Option Value) (led : Led) (ok : Prop) (s : Shared) (Q : Flow → Shared → Prop) (f : Flow) (s' : Shared) : Prop :=
  match f with
  | .ret v => Q (.ret v) s'
  | .next => ok ∧ ∃ h' tk', s' = { s with heap := h', toks := tk' } ∧ Fr h₀ L h' m ∧ News h₀ L h' led
  | _ => False
theorem FPost.next {h₀ : Heap} {L : Addr} {m : Str → Option Value} {led led' : Led} {ok : Prop} {s : Shared} {Q : Flow → Shared → Prop} {h' : Heap} {tk' : Nat} (o : ok) (F : Fr h₀ L h' m) (N : News h₀ L h' led') (hs : ∀ p ∈ led, p ∈ led') : FPost h₀ L m led ok s Q .next { s with heap := h', toks := tk' } :=
  ⟨o, h', tk', rfl, F, fun p hp => N p (hs p hp)⟩
section
variable {prog : Program} {w : World} {A : Around} {E : Value → Shared → Prop} {s : Shared} {env : Env} {h₀ : Heap} {x : Str} {body : List Stmt} {Q : Flow → Shared → Prop}
/-- a loop over forms that stores nothing: what holds of each that does not return -/
theorem forms_loop {q : Addr} {n : Nat} {vs : List Value} {rs : List FR} {m₀ : Str → Option Value} (tst : FR → Bool) (hh : A.handled = none) (F : Fr h₀ env.locals s.heap m₀) (N : News h₀ env.locals s.heap [(q, W.listOf vs.toArray n)]) (hf : FormsAt h₀ vs rs)
    (turn : ∀ f r I it h tk, FormAt h₀ f r → r ∈ rs → it.cls = .type "list_iterator" → Fr h₀ env.locals h (fun y => if y = x then some (.ref f) else m₀ y) → News h₀ env.locals h [(I, it), (q, W.listOf vs.toArray n)] →
      wpAny (model prog w) A (execs body env) (FPost h₀ env.locals (fun y => if y = x then some (.ref f) else m₀ y) [(I, it), (q, W.listOf vs.toArray n)] (tst r = false) s Q) E { s with heap := h, toks := tk })
    (done : ∀ u h tk, rs.any tst = false → Fr h₀ env.locals h (fun y => if y = x then u else m₀ y) → News h₀ env.locals h [(q, W.listOf vs.toArray n)] → Q .next { s with heap := h, toks := tk }) :
    wpAny (model prog w) A (pyIter (.ref q)) (fun it s₂ => LoopAtV prog w A h₀ env x body Q E it s₂) E s := by
  refine iter_listUnr (lo := W.listOf vs.toArray n) (vs := vs) hh F N (.head _) rfl rfl fun I l1 => ?_
  have key : ∀ (ws : List Value) (ts : List FR) (m : Str → Option Value), FormsAt h₀ ws ts → (∀ r ∈ ts, r ∈ rs) → (∀ z, z ≠ x → m z = m₀ z) → (ts.any tst = false → rs.any tst = false) →
      ListRest prog w A E h₀ env x body Q s I (q, W.listOf vs.toArray n) ws m [(q, W.listOf vs.toArray n)] := by
    intro ws
    induction ws with
    | nil =>
      intro ts m hw _ hm hr
      cases hw
      refine ListRest.zero fun h tk F' N' => done (m x) h tk (hr rfl) ?_ N'
      have e : (fun y => if y = x then m x else m₀ y) = m := by
        funext y
        by_cases hy : y = x
        · rw [if_pos hy, hy]
        · rw [if_neg hy]; exact (hm y hy).symm
      rw [e]; exact F'
    | cons v r ih =>
      intro ts m hw hsub hm hr
      cases hw with
      | cons hf' hw' =>
        rename_i f fr ts'
        refine ListRest.succ fun it h tk hc F' N' => ?_
        have e : (fun y => if y = x then some (Value.ref f) else m y) = fun y => if y = x then some (Value.ref f) else m₀ y := by
          funext y
          by_cases hy : y = x
          · rw [if_pos hy, if_pos hy]
          · rw [if_neg hy, if_neg hy]; exact hm y hy
        rw [e] at F'
        refine wpAny_mono (turn f fr I it h tk hf' (hsub _ (.head _)) hc F' N') (fun fl s' p => ?_) fun _ _ y => y
        cases fl with
        | ret v => exact p
        | brk => exact absurd p id
        | cont => exact absurd p id
        | next =>
          obtain ⟨ok, h', tk', rfl, F2, N2⟩ := p
          refine ⟨h', tk', _, [(q, W.listOf vs.toArray n)], rfl, F2, fun p hp => ?_, fun p hp => ?_, .head _, ih ts' _ hw' (fun r hr' => hsub r (.tail _ hr')) (fun z hz => by rw [if_neg hz]) (fun ht => hr (by rw [List.any_cons, ok, ht]; rfl))⟩
          · rcases List.mem_cons.mp hp with rfl | hp
            · exact N2 _ (.head _)
            · exact N2 _ (.tail _ hp)
          · rw [List.mem_singleton.mp hp]
            exact Nat.ne_of_lt (l1 _ (.head _))
  exact key vs rs m₀ hf (fun _ h => h) (fun _ _ => rfl) (fun h => h)
end
section
variable {mean : ExcName → Option Value} {mg mb : Str → Option Value} {w : World} {f : Addr} {led : Led} {vs : List Value} {P : Heap → Prop} {k : Nat}
    {dp un : Nat} {gd : Option (List Code)} {cn : Str} {cs : Scope} {a : Addr} {ccd : Value} {cl : List (Str × Addr)} {outer : List Env} {A₀ : Around} {base h₀ : Heap} {L : Addr} {m : Str → Option Value} {s : Shared} {Q E : Value → Shared → Prop} {news : Led}
theorem useB {b : Bool} (S : FSpec k w mean mg mb f led vs P (fun v own => own = [] ∧ ∃ _ : Tok, v = .bool b))
    (B : Below A₀ base outer h₀) (F : Fr h₀ L s.heap m) (X : (top.hd.heap_39 w.params).In h₀) (N : News h₀ L s.heap led) (T : TopP mean mg mb h₀) (hk : cs.kind = .function) (hp : P s.heap) (hdp : dp + k < recursionLimit) (hu : un + 20 * k < cLine) (N' : News h₀ L s.heap news)
    (ret : ∀ h' tk', s.heap.StaysIn h' → Fr h₀ L h' m → News h₀ L h' news → Q (.bool b) { s with heap := h', toks := tk' }) :
    wpAny (model PySem.Challenge.rw_nz0170_01.row.prog w) (ktrTop dp un gd cn cs L a ccd cl outer) (call (.ref f) vs) Q E s :=
  S _ _ _ _ _ _ _ _ _ _ _ _ _ _ _ _ _ B F X N T hk hp hdp hu fun v own h' tk' st ho r => by
    obtain ⟨rfl, _, rfl⟩ := r
    exact ret h' tk' st (fr_stays F st) (news_stays F N' st ho)
theorem useL {ws : List Value} (S : FSpec k w mean mg mb f led vs P (fun v own => ∃ q n, v = .ref q ∧ own = [(q, W.listOf ws.toArray n)]))
    (B : Below A₀ base outer h₀) (F : Fr h₀ L s.heap m) (X : (top.hd.heap_39 w.params).In h₀) (N : News h₀ L s.heap led) (T : TopP mean mg mb h₀) (hk : cs.kind = .function) (hp : P s.heap) (hdp : dp + k < recursionLimit) (hu : un + 20 * k < cLine) (N' : News h₀ L s.heap news)
    (ret : ∀ q n h' tk', s.heap.StaysIn h' → Fr h₀ L h' m → News h₀ L h' ((q, W.listOf ws.toArray n) :: news) → Q (.ref q) { s with heap := h', toks := tk' }) :
    wpAny (model PySem.Challenge.rw_nz0170_01.row.prog w) (ktrTop dp un gd cn cs L a ccd cl outer) (call (.ref f) vs) Q E s :=
  S _ _ _ _ _ _ _ _ _ _ _ _ _ _ _ _ _ B F X N T hk hp hdp hu fun v own h' tk' st ho r => by
    obtain ⟨q, n, rfl, rfl⟩ := r
    exact ret q n h' tk' st (fr_stays F st) (news_stays F N' st ho)
end
theorem IsetAt.forms {w : World} {h : Heap} {ia : Addr} {rows : List FR} {fv : Str → List Value} (x : IsetAt w h ia rows fv) (nm : Str) : FormsAt h (fv nm) (rows.filter fun r => r.name == nm) := by
  obtain ⟨dx, fl, dn, dc, x1, x2, x3, t1, t2, t3, on, kvs, a, b, c, d, e, f, g⟩ := x
  exact g nm
/-- a form that takes a suffix of this size -/
def tstF (sz : Int) (r : FR) : Bool := (r.size == sz) && (decide (0 < r.kinds.length) && !(r.kinds.any fun k => Txt.slice k none (some 1) == Str.ofString "x"))
theorem newsOnly {h₀ h : Heap} {L q : Addr} {o : Obj} {news : Led} (N : News h₀ L h news) (hm : (q, o) ∈ news) : News h₀ L h [(q, o)] := fun p hp => by rw [List.mem_singleton.mp hp]; exact N _ hm
theorem tup_base {h : Heap} {l : Addr} {vs : List Value} {n : Nat} (e : h.get? l = some ({ cls := .type "tuple", data := .seq vs.toArray n } : Obj)) : IsTup h l vs.toArray := ⟨_, e, rfl, n, rfl⟩
end

section
open PySem PySem.W PySem.Calls PySem.Spec PyProof.Rows
example : True := by
  w_top off
  k_with_none
  trivial
abbrev PRG : Program := PySem.Challenge.rw_nz0170_01.row.prog
section
variable {w : World} {A : Around} {E : Value → Shared → Prop} {s : Shared} {h₀ : Heap} {L d : Addr} {m : Str → Option Value} {news : Led} {o : Obj} {kvs : List (Str × Value)} {x : Str} {t : Tok} {g : Obj → Led}
theorem upd_news {o' : Obj} {h' : Heap} (F : Fr h₀ L s.heap m) (N : News h₀ L s.heap news) (U : UpdF d o news g) (hs : Heap.SameBut d s.heap h') (ho' : h'.get? d = some o') : Fr h₀ L h' m ∧ News h₀ L h' (g o') := by
  obtain ⟨pre, post, rfl, hg, a, b⟩ := U.split
  have z := N (d, o) (List.mem_append.mpr (.inr (.head _)))
  refine ⟨F.change hs z.2.1 z.2.2, ?_⟩
  rw [hg]
  intro p hp
  rcases List.mem_append.mp hp with q | q
  · have y := N p (List.mem_append.mpr (.inl q))
    exact ⟨hs.extBut _ _ (a p q) y.1, y.2⟩
  · rcases List.mem_cons.mp q with rfl | q
    · exact ⟨ho', z.2⟩
    · have y := N p (List.mem_append.mpr (.inr (.tail _ q)))
      exact ⟨hs.extBut _ _ (b p q) y.1, y.2⟩
theorem dict_at (N : News h₀ L s.heap news) (hm : (d, o) ∈ news) (hd : o.IsDictOf (PySem.strKind PRG w) kvs) : s.heap.DictOf (PySem.strKind PRG w) d kvs := Heap.dictOf_iff.mpr ⟨o, (N _ hm).1, hd⟩
theorem set_names {Q : Unit → Shared → Prop} {v : Value} (F : Fr h₀ L s.heap m) (N : News h₀ L s.heap news) (U : UpdF d o news g) (hd : o.IsDictOf (PySem.strKind PRG w) kvs) (hz : kvs.length ≤ 1000)
    (h : ∀ h' o', Fr h₀ L h' m → News h₀ L h' (g o') → o'.IsDictOf (PySem.strKind PRG w) (stored kvs x v) → Q () { s with heap := h', toks := s.toks + 1 }) : wpAny (model PRG w) A (setItem (.ref d) (.str x t) v) Q E s := by
  have hm : (d, o) ∈ news := by
    obtain ⟨pre, post, rfl, hg, a, b⟩ := U.split
    exact List.mem_append.mpr (.inr (.head _))
  refine wpAny_setItem_pairs (hsz := by rw [sizeLine_eq]; omega) (strKind_is _ w x t) (dict_at N hm hd) fun h' hd' hs => ?_
  obtain ⟨o', ho', hd''⟩ := Heap.dictOf_iff.mp hd'
  obtain ⟨F', N'⟩ := upd_news F N U hs ho'
  exact h h' o' F' N' hd''
end
theorem flatSnoc {kvs : List (Str × Value)} {D : List (Str × Str)} {k v : Str} {t : Tok} (h : PyProof.V.FlatPairs PyData.str kvs (encS D)) : PyProof.V.FlatPairs PyData.str (kvs ++ [(k, .str v t)]) (encS (D ++ [(k, v)])) := by
  induction D generalizing kvs with
  | nil => cases h; exact .cons (PyProof.V.Flat.str _ _) .nil
  | cons p D ih => cases h with | cons a b => exact .cons a (ih b)
theorem flat_none {kvs : List (Str × Value)} {D : List (Str × Str)} {k : Str} (h : PyProof.V.FlatPairs PyData.str kvs (encS D)) (hk : k ∉ D.map (·.1)) : valueAt kvs k = none := by
  induction D generalizing kvs with
  | nil => cases h; rfl
  | cons p D ih =>
    cases h with
    | cons a b =>
      have h1 : p.1 ≠ k := fun e => hk (by rw [← e]; exact .head _)
      have := ih b fun hm => hk (.tail _ hm)
      simpa [valueAt, h1] using this
def StopP (P : Prop) : Prop := P
theorem stopAtP {P : Prop} (h : StopP P) : P := h
/-- how a turn of pairs_of ends -/
def PEnd (w : World) (g : Heap) (L : Addr) (m : Str → Option Value) (I q tb : Addr) (it lo : Obj) (kvs : List (Str × Value)) (k v : Str) (s₁ : Shared) (f : Flow) (s₂ : Shared) : Prop :=
  match f with
  | .next => ∃ h' tk' m' o' tv, s₂ = { s₁ with heap := h', toks := tk' } ∧ Fr g L h' m' ∧ (∀ y, y ≠ Str.ofString "word" → y ≠ Str.ofString "key" → y ≠ Str.ofString "value" → m' y = m y) ∧ News g L h' [(I, it), (q, lo), (tb, o')] ∧ o'.IsDictOf (PySem.strKind PRG w) (stored kvs k (.str v tv))
  | _ => False
theorem PEnd.mk {w : World} {g h' : Heap} {L : Addr} {m m' : Str → Option Value} {I q tb : Addr} {it lo o' : Obj} {kvs : List (Str × Value)} {k v : Str} {s₁ : Shared} {tk' : Nat} {tv : Tok} {all : Led} (F : Fr g L h' m') (hd : o'.IsDictOf (PySem.strKind PRG w) (stored kvs k (.str v tv))) (N : News g L h' all) (k1 : (I, it) ∈ all) (k2 : (q, lo) ∈ all) (k3 : (tb, o') ∈ all)
    (hm : ∀ y, y ≠ Str.ofString "word" → y ≠ Str.ofString "key" → y ≠ Str.ofString "value" → m' y = m y) : PEnd w g L m I q tb it lo kvs k v s₁ .next { s₁ with heap := h', toks := tk' } :=
  ⟨h', tk', m', o', tv, rfl, F, hm, fun p hp => by
    rcases List.mem_cons.mp hp with rfl | hp
    · exact N _ k1
    · rcases List.mem_cons.mp hp with rfl | hp
      · exact N _ k2
      · rw [List.mem_singleton.mp hp]; exact N _ k3, hd⟩
section
variable {w : World} {A : Around} {E : Value → Shared → Prop} {s : Shared} {g : Heap} {env : Env} {body : List Stmt} {Q : Flow → Shared → Prop} {m : Str → Option Value}
theorem pairs_loop {q tb : Addr} {o : Obj} {l : List (Str × Tok)} {D : List (Str × Str)} (hs : (l.map (·.1)).map (fun x => Txt.split x (Str.ofString ":")) = D.map fun p => [p.1, p.2]) (hz : ∀ x ∈ l.map (·.1), x.length ≤ 100) (hnd : (D.map (·.1)).Nodup) (hD : D.length ≤ 100)
    (hh : A.handled = none) (F : Fr g env.locals s.heap m) (N : News g env.locals s.heap [(q, W.listOf (strValues l).toArray 0), (tb, o)]) (ho : o.IsDictOf (PySem.strKind PRG w) [])
    (turn : ∀ I it h tk x tx k v o kvs a b, it.cls = .type "list_iterator" → Txt.split x (Str.ofString ":") = [k, v] → x.length ≤ 100 → o.IsDictOf (PySem.strKind PRG w) kvs → kvs.length ≤ 1000 → @LT.lt Nat _ q I → @LT.lt Nat _ tb I →
      Fr g env.locals h (fun y => if y = Str.ofString "word" then some (.str x tx) else if y = Str.ofString "value" then a else if y = Str.ofString "key" then b else m y) → News g env.locals h [(I, it), (q, W.listOf (strValues l).toArray 0), (tb, o)] →
      wpAny (model PRG w) A (execs body env) (PEnd w g env.locals m I q tb it (W.listOf (strValues l).toArray 0) kvs k v { s with heap := h, toks := tk }) E { s with heap := h, toks := tk })
    (done : ∀ h tk a b c o kvs, o.IsDictOf (PySem.strKind PRG w) kvs → PyProof.V.FlatPairs PyData.str kvs (encS D) → Fr g env.locals h (fun y => if y = Str.ofString "word" then c else if y = Str.ofString "value" then a else if y = Str.ofString "key" then b else m y) → News g env.locals h [(q, W.listOf (strValues l).toArray 0), (tb, o)] → Q .next { s with heap := h, toks := tk }) :
    wpAny (model PRG w) A (pyIter (.ref q)) (fun it s₂ => LoopAtV PRG w A g env (Str.ofString "word") body Q E it s₂) E s := by
  refine iter_listUnr (vs := strValues l) (lo := W.listOf (strValues l).toArray 0) (n := 0) hh F N (.head _) rfl rfl fun I lI => ?_
  have l1 : @LT.lt Nat _ q I := lI _ (.head _)
  have l2 : @LT.lt Nat _ tb I := lI _ (.tail _ (.head _))
  have e4 : ∀ (m' : Str → Option Value) (z : Option Value), (∀ y, y ≠ Str.ofString "word" → y ≠ Str.ofString "key" → y ≠ Str.ofString "value" → m' y = m y) → (fun y => if y = Str.ofString "word" then z else m' y) = fun y => if y = Str.ofString "word" then z else if y = Str.ofString "value" then m' (Str.ofString "value") else if y = Str.ofString "key" then m' (Str.ofString "key") else m y := fun m' z hm => by
    funext y
    by_cases h1 : y = Str.ofString "word"
    · rw [if_pos h1, if_pos h1]
    rw [if_neg h1, if_neg h1]
    by_cases h2 : y = Str.ofString "value"
    · rw [if_pos h2, h2]
    rw [if_neg h2]
    by_cases h3 : y = Str.ofString "key"
    · rw [if_pos h3, h3]
    rw [if_neg h3]
    exact hm y h1 h3 h2
  have key : ∀ (r : List (Str × Tok)) (D1 D2 : List (Str × Str)) (m' : Str → Option Value) o kvs, D = D1 ++ D2 → (r.map (·.1)).map (fun x => Txt.split x (Str.ofString ":")) = D2.map (fun p => [p.1, p.2]) → (∀ x ∈ r.map (·.1), x.length ≤ 100) → (∀ y, y ≠ Str.ofString "word" → y ≠ Str.ofString "key" → y ≠ Str.ofString "value" → m' y = m y) → o.IsDictOf (PySem.strKind PRG w) kvs → PyProof.V.FlatPairs PyData.str kvs (encS D1) →
      ListRest PRG w A E g env (Str.ofString "word") body Q s I (q, W.listOf (strValues l).toArray 0) (strValues r) m' [(q, W.listOf (strValues l).toArray 0), (tb, o)] := by
    intro r
    induction r with
    | nil =>
      intro D1 D2 m' o kvs hD12 hs2 hz2 hm ho hf
      have : D2 = [] := by cases D2 with | nil => rfl | cons _ _ => simp at hs2
      subst this
      rw [List.append_nil] at hD12
      subst hD12
      refine ListRest.zero fun h tk F' N' => done h tk (m' (Str.ofString "value")) (m' (Str.ofString "key")) (m' (Str.ofString "word")) o kvs ho hf ?_ N'
      rw [← e4 m' _ hm]
      have e5 : (fun y => if y = Str.ofString "word" then m' (Str.ofString "word") else m' y) = m' := by
        funext y
        by_cases h1 : y = Str.ofString "word"
        · rw [if_pos h1, h1]
        · rw [if_neg h1]
      rw [e5]; exact F'
    | cons p r ih =>
      intro D1 D2 m' o kvs hD12 hs2 hz2 hm ho hf
      cases D2 with
      | nil => simp at hs2
      | cons d D2 =>
        have hs3 : Txt.split p.1 (Str.ofString ":") = [d.1, d.2] := (List.cons.inj hs2).1
        have hs4 := (List.cons.inj hs2).2
        have hl := hf.length
        have hl1 : D1.length ≤ 100 := by rw [hD12, List.length_append] at hD; omega
        have hkv : kvs.length ≤ 1000 := by rw [← hl, List.length_map]; omega
        have hk : d.1 ∉ D1.map (·.1) := fun hm' => by
          rw [hD12, List.map_append, List.map_cons, List.nodup_append] at hnd
          exact hnd.2.2 _ hm' _ (.head _) rfl
        refine ListRest.succ fun it h tk hc F' N' => ?_
        have F2 := F'
        rw [e4 m' _ hm] at F2
        refine wpAny_mono (turn I it h tk p.1 p.2 d.1 d.2 o kvs _ _ hc hs3 (hz2 _ (.head _)) ho hkv l1 l2 F2 N') (fun f s₂ hp => ?_) fun _ _ y => y
        cases f with
        | next =>
          obtain ⟨h', tk', m2, o', tv, rfl, F3, hm3, N3, ho'⟩ := hp
          have hv := flat_none hf hk
          rw [stored_absent hv] at ho'
          refine ⟨h', tk', m2, [(q, W.listOf (strValues l).toArray 0), (tb, o')], rfl, F3, N3, fun p hp => ?_, .head _, ih (D1 ++ [d]) D2 m2 o' _ (by rw [hD12]; simp) hs4 (fun x hx => hz2 x (.tail _ hx)) hm3 ho' (flatSnoc hf)⟩
          rcases List.mem_cons.mp hp with rfl | hp
          · exact Nat.ne_of_lt l1
          · rw [List.mem_singleton.mp hp]; exact Nat.ne_of_lt l2
        | ret _ => exact absurd hp id
        | brk => exact absurd hp id
        | cont => exact absurd hp id
  exact key l [] D m o [] rfl hs hz (fun _ _ _ _ => rfl) ho .nil
end
end

section
open PySem PySem.W PySem.Calls PySem.Spec PyProof.Rows
example : True := by
  w_top off
  k_with_none
  trivial
local macro_rules | `(tactic| walk_at "call ref") => `(tactic| k_extra "z call ref")
example : True := by
  k_with_none
  k_with "my_enter" => (refine' enterL ?k1 ?k2 ?k3 ?k4 ?k5 ?kA ?kF ?kK ?k6 ?k7 ?k8 ?k9 ?kB ?_ ?c2 ?c3 ?c4 ?c5; (case kA => exact rfl); (case kF => exact rfl); (case kK => assumption); (case k1 => k_asm); (case k2 => k_asm); (case k3 => k_asm); (case k4 => k_asm); (case k5 => k_asm); (case k6 => k_is); (case k7 => k_is); (case k8 => ktr_room); (case k9 => exact BindsTo.of_eq rfl); (case c5 => decide); (case kB => exact locs rfl); (case c2 => exact rfl); (case c3 => exact rfl); (case c4 => exact rfl); k_whole; intro g' L' h' hg' FG' F' N' B' X' T'; (try (refine anyTok ?_; intro tkz)); (try dsimp only); (let mz := frMap F'; have Fz : Fr _ _ _ mz := F'); (try k_lift B'); (try k_fold))
  k_with "z call ref" => (k_here; refine wpAny_call ?_; k_dflt cell_enter)
  k_with "my_use" => ((case k1 => k_asm); (case k2 => k_asm); (case k3 => k_asm); (case k4 => first | exact News.nil | k_asm); (case k5 => k_asm); (case kK => first | exact rfl | assumption); (case kp => first | trivial | assumption); (case kd => first | ktr_room | (simp only [depth_deeper] at *; omega)); (case ku => ktr_units); (case k9 => k_asm))
  k_with "my_if" => (repeat (first | (refine (if_pos (by first | assumption | decide)).trans ?_) | (refine (if_neg (by first | assumption | (exact Bool.eq_false_iff.mp (by assumption)) | decide)).trans ?_)); try rfl)
  k_with "my_end1" => (rename (∀ (b : Addr) (o : Obj), _ → ¬ _ → _) => hg9; refine end1 (by assumption) hg9 (by first | exact (fun _ hp => absurd hp List.not_mem_nil) | assumption) (by assumption) (by assumption) (by first | exact (fun _ hp => absurd hp List.not_mem_nil) | k_all) (by k_mem) (by first | exact (fun _ hp => absurd hp List.not_mem_nil) | k_all) ?_)
  k_with "my_end0" => (rename (∀ (b : Addr) (o : Obj), _ → ¬ _ → _) => hg9; refine end0 (by assumption) hg9 (by first | exact (fun _ hp => absurd hp List.not_mem_nil) | assumption) (by assumption) (by assumption) (by first | exact (fun _ hp => absurd hp List.not_mem_nil) | k_all) ?_)
  trivial
-- a test that the path has decided
def sizes : List (Str × Int) := [(Str.ofString "b", 8), (Str.ofString "w", 16), (Str.ofString "l", 32), (Str.ofString "q", 64)]
def sizeF (x : Str) : Int := (lk x sizes).getD 0
theorem size_lookup (x : Str) (t1 t2 t3 t4 t5 t6 t7 t8 : Tok) :
    (Spec.lookup (.str x) (strData [(.str (Str.ofString "b") t1, .int 8 t2), (.str (Str.ofString "w") t3, .int 16 t4), (.str (Str.ofString "l") t5, .int 32 t6), (.str (Str.ofString "q") t7, .int 64 t8)])).getD (.int 0) = .int (sizeF x) := by
  show (Spec.lookup (.str x) (sizes.map fun p => (PyData.str p.1, PyData.int p.2))).getD (.int 0) = _
  rw [lookup_lk, sizeF]
  cases lk x sizes <;> rfl
theorem suffix_size (w : World) (mean mg mb) (x : Str) (t : Tok) : FSpec 2 w mean mg mb 124 [] [.str x t] (fun _ => True) (fun v own => own = [] ∧ ∃ t', v = .int (sizeF x) t') := by
  unfold FSpec TopP
  k_fill
  intro dp un gd cn cs a ccd cl outer A₀ base h₀ L m s Q E B F X N T hk hP hdp hu hret
  refine wpAny_call ?_
  k_dflt (walk_at "my_enter")
  (repeat' (first | (k_unfold; (try dsimp only)) | (k_end; wrow_close) | ((try dsimp only); (first | (with_reducible show wpAny _ _ (exec _ _) _ _ _); (try k_fold); (try (with_reducible rename News _ _ _ _ => zN; dsimp only at zN)) | skip); walk1) | walk1 | (leave1; walk_say "STEP leave1"; try dsimp only) | fail "no step"))
  (with_reducible rename PyProof.V.Flat _ _ => hv)
  rw [size_lookup] at hv
  obtain ⟨t', rfl⟩ := hv.int_inv
  walk_at "my_end0"
  exact ⟨rfl, _, rfl⟩
end

section
open PySem PySem.W PySem.Calls PySem.Spec PyProof.Rows PyProof.Rows.LCg
example : True := by
  w_top off
  k_with_none
  trivial
/-- the source of a comprehension: a tuple of the base -/
def SrcTup (prog : Program) (w : World) (A : Around) (h₀ : Heap) (L : Addr) (m : Str → Option Value) (env : Env) (elt : Expr) (x : Str) (scope : Scope) (cl : List (Str × Addr)) (Fin : Shared → List Value → Led → Prop) (xv : Value) (s₁ : Shared) : Prop :=
  ∃ ax its news, xv = .ref ax ∧ A.handled = none ∧ Fr h₀ L s₁.heap m ∧ News h₀ L s₁.heap news ∧ h₀.IsTuple ax its ∧ its.size ≤ sizeLine ∧
    ∀ s₂ : Shared, (∃ h, s₂ = { s₁ with heap := h }) → CompRest prog w A h₀ L m env elt x scope cl s₂ (fun _ => True) (fun i v => its[i]? = some v) (Fin s₂) its.size 0 [] news
section
variable {prog : Program} {w : World} {A : Around} {E : Value → Shared → Prop} {s : Shared} {h₀ : Heap} {L : Addr} {m : Str → Option Value} {env : Env}
theorem SrcTup.base {elt : Expr} {x : Str} {scope : Scope} {cl : List (Str × Addr)} {Fin : Shared → List Value → Led → Prop} {ax : Addr} {its : Array Value} {news : Led} {s₁ : Shared}
    (hh : A.handled = none) (F : Fr h₀ L s₁.heap m) (N : News h₀ L s₁.heap news) (hl : h₀.IsTuple ax its) (hsz : its.size ≤ sizeLine)
    (h : ∀ g, CompRest prog w A h₀ L m env elt x scope cl { s₁ with heap := g } (fun _ => True) (fun i v => its[i]? = some v) (Fin { s₁ with heap := g }) its.size 0 [] news) :
    SrcTup prog w A h₀ L m env elt x scope cl Fin (.ref ax) s₁ := ⟨ax, its, news, rfl, hh, F, N, hl, hsz, fun _ ⟨g, e⟩ => e ▸ h g⟩
theorem tuple_st {ax I : Addr} {its : Array Value} (hl : h₀.IsTuple ax its) : ∀ i (h h' : Heap) (o : Obj) (nw : Led), (h.IsTupleIter I ax i ∧ h.IsTuple ax its) → h.get? I = some o → h'.get? I = some o → (∀ b o, h₀.get? b = some o → h'.get? b = some o) → News h₀ L h' nw → True → (h'.IsTupleIter I ax i ∧ h'.IsTuple ax its) :=
  fun i h h' o nw st e e' k N _ => ⟨by obtain ⟨o', q, r⟩ := st.1; rw [e] at q; cases q; exact ⟨o, e', r⟩, by obtain ⟨o', q, r⟩ := hl; exact ⟨o', k _ _ q, r⟩⟩
theorem ListComp_UB {elt iter : Expr} {x : Str} {px : Pos} {scope : Scope} {cl : List (Str × Addr)} {pos : Pos} {Q : Value → Shared → Prop} (F₀ : Fr h₀ L s.heap m)
    (hclos : closureFor scope env = pure cl) (hcell : ∀ y ∈ scope.names, y.2 ≠ .cell) (hkind : scope.kind = .function)
    (hnames : ∀ y ∈ scope.names, y.2 = .local → scope.names.lookup y.1 = some .local) (hx : scope.names.lookup x = some .local)
    (h : wpAny (model prog w) A (eval iter env) (SrcTup prog w A h₀ L m env elt x scope cl (fun s₂ => FinE h₀ L m s₂ Q)) E s)
    (hs : ∀ x, foldedSetIterable iter env x = pure x := by intro _; rfl) :
    wpAny (model prog w) A (eval (.ListComp elt [⟨.Name x px, iter, [], 0⟩] scope pos) env) Q E s := by
  rw [eval_ListComp]
  refine wpAny_comprehension_free (use := none) rfl hs hclos hkind hnames (wpAny_mono h (fun xv s₁ h₁ => ?_) fun _ _ e => e)
  obtain ⟨ax, its, news, rfl, hh, F, N, S, hsz, R⟩ := h₁
  have hl : s₁.heap.IsTuple ax its := by obtain ⟨o', q, r⟩ := S; exact ⟨o', F.keep _ _ q, r⟩
  have hlt : ax < s₁.heap.objs.size := by obtain ⟨_, e, _⟩ := hl; exact Heap.lt_size e
  refine wpAny_pyIter_tuple hl ?_
  have up : ∀ b o, s₁.heap.get? b = some o → (s₁.heap.push { cls := .type "tuple_iterator", data := .fields #[.ref ax, .int 0 0] }).get? b = some o := fun b o e => Heap.get?_push_of_some _ e
  refine block_U (Walks.tuple hh s₁.heap.objs.size ax (Nat.ne_of_lt hlt) its) hsz (fun i h st => by obtain ⟨o, e, _⟩ := st.1; exact ⟨o, e⟩) (tuple_st S) hcell hkind hx ⟨⟨_, Heap.get?_push_size _ rfl, rfl, rfl⟩, by obtain ⟨o', q, r⟩ := hl; exact ⟨o', up _ _ q, r⟩⟩ (fun b hb => ?_)
    (F.keeps up) (N.grown up) (Nat.ne_of_lt F.ns.lt) (next_is_new F) (fun p hp => Nat.ne_of_lt (Heap.lt_size (N p hp).1)) trivial (R _ ⟨_, rfl⟩) ?_
  · show b < (s₁.heap.push _).objs.size
    rw [Heap.size_push]
    rcases List.mem_cons.mp hb with rfl | hb
    · exact Nat.lt_succ_self _
    · rw [List.mem_singleton.mp hb]; exact Nat.lt_succ_of_lt hlt
  · intro D C h tk m' ys news' F' N' o1 hn hC₀ hD₀ hCL hDL hCD offC fin
    refine ⟨m', hn, fun h'' hs'' => fin D h'' tk (F'.change hs'' hCL hC₀) (fun p hp => ?_) o1⟩
    refine ⟨hs''.extBut _ _ ?_ (N' p hp).1, (N' p hp).2⟩
    rcases List.mem_cons.mp hp with rfl | hp
    · exact Ne.symm hCD
    · exact offC p hp
end
theorem tupB {h : Heap} {l : Addr} {vs : List Value} {n : Nat} (e : h.get? l = some ({ cls := .type "tuple", data := .seq vs.toArray n } : Obj)) : h.IsTuple l vs.toArray := ⟨_, e, rfl, n, rfl⟩
theorem tst0 {sz rs : Int} {rn : Str} : tstF sz ⟨rn, [], rs⟩ = false := by simp [tstF]
theorem tstN {sz rs : Int} {rn : Str} {ks : List Str} (h : rs ≠ sz) : tstF sz ⟨rn, ks, rs⟩ = false := by simp [tstF, h]
theorem tstX1 {sz rs : Int} {rn k1 : Str} (h : (Txt.slice k1 none (some 1) == Str.ofString "x") = true) : tstF sz ⟨rn, [k1], rs⟩ = false := by
  unfold tstF; simp only [List.any_cons, h, Bool.true_or, Bool.not_true, Bool.and_false]
theorem tstX2 {sz rs : Int} {rn k1 k2 : Str} (h : (Txt.slice k1 none (some 1) == Str.ofString "x" || Txt.slice k2 none (some 1) == Str.ofString "x") = true) : tstF sz ⟨rn, [k1, k2], rs⟩ = false := by
  unfold tstF; simp only [List.any_cons, List.any_nil, Bool.or_false, h, Bool.not_true, Bool.and_false]
theorem tstY1 {sz rs : Int} {rn k1 : Str} (e : rs = sz) (h : (Txt.slice k1 none (some 1) == Str.ofString "x") = false) : tstF sz ⟨rn, [k1], rs⟩ = true := by
  unfold tstF; simp only [List.any_cons, List.any_nil, Bool.or_false, h, e]; simp
theorem tstY2 {sz rs : Int} {rn k1 k2 : Str} (e : rs = sz) (h : (Txt.slice k1 none (some 1) == Str.ofString "x" || Txt.slice k2 none (some 1) == Str.ofString "x") = false) : tstF sz ⟨rn, [k1, k2], rs⟩ = true := by
  unfold tstF; simp only [List.any_cons, List.any_nil, Bool.or_false, h, e]; simp
def CutPost (Q : Flow → Shared → Prop) (Inv : Shared → Prop) (f : Flow) (s' : Shared) : Prop :=
  match f with
  | .next => Inv s'
  | f => Q f s'
def FInv (g : Heap) (L : Addr) (m : Str → Option Value) (s : Shared) (ok : Prop) (s' : Shared) : Prop := ok ∧ ∃ h' tk', s' = { s with heap := h', toks := tk' } ∧ Fr g L h' m
theorem cut1 {M : Model} {A : Around} {E : Value → Shared → Prop} {Q : Flow → Shared → Prop} {s : Shared} {g : Heap} {L : Addr} {m : Str → Option Value} {st : Stmt} {rest : List Stmt} {env : Env} (F : Fr g L s.heap m) (ok : Prop)
    (head : wpAny M A (exec st env) (CutPost Q (FInv g L m s ok)) E s)
    (tail : ok → ∀ h' tk', Fr g L h' m → News g L h' [] → wpAny M A (execs rest env) Q E { s with heap := h', toks := tk' }) : wpAny M A (execs (st :: rest) env) Q E s := by
  refine wpAny_execs_cons (wpAny_mono head (fun f s' h => ?_) fun _ _ x => x)
  cases f with
  | next => obtain ⟨o, h', tk', rfl, F'⟩ := h; exact tail o h' tk' F' News.nil
  | brk => exact h
  | cont => exact h
  | ret v => exact h
theorem cutNext {Q : Flow → Shared → Prop} {s : Shared} {g h' : Heap} {L : Addr} {m : Str → Option Value} {ok : Prop} {tk' : Nat} (o : ok) (F : Fr g L h' m) : CutPost Q (FInv g L m s ok) .next { s with heap := h', toks := tk' } := ⟨o, h', tk', rfl, F⟩
def GInv (g : Heap) (L : Addr) (y : Str) (m : Str → Option Value) (s : Shared) (ok : Prop) (s' : Shared) : Prop := ok ∧ ∃ h' tk' u, s' = { s with heap := h', toks := tk' } ∧ Fr g L h' (fun z => if z = y then u else m z)
theorem cut2 {M : Model} {A : Around} {E : Value → Shared → Prop} {Q : Flow → Shared → Prop} {s : Shared} {g : Heap} {L : Addr} {m : Str → Option Value} {st : Stmt} {rest : List Stmt} {env : Env} (F : Fr g L s.heap m) (y : Str) (ok : Prop)
    (head : wpAny M A (exec st env) (CutPost Q (GInv g L y m s ok)) E s)
    (tail : ok → ∀ h' tk' u, Fr g L h' (fun z => if z = y then u else m z) → News g L h' [] → wpAny M A (execs rest env) Q E { s with heap := h', toks := tk' }) : wpAny M A (execs (st :: rest) env) Q E s := by
  refine wpAny_execs_cons (wpAny_mono head (fun f s' h => ?_) fun _ _ x => x)
  cases f with
  | next => obtain ⟨o, h', tk', u, rfl, F'⟩ := h; exact tail o h' tk' u F' News.nil
  | brk => exact h
  | cont => exact h
  | ret v => exact h
theorem cutNext2 {Q : Flow → Shared → Prop} {s : Shared} {g h' : Heap} {L : Addr} {y : Str} {v : Value} {m : Str → Option Value} {ok : Prop} {tk' : Nat} (o : ok) (F : Fr g L h' (fun z => if z = y then some v else m z)) : CutPost Q (GInv g L y m s ok) .next { s with heap := h', toks := tk' } := ⟨o, h', tk', _, rfl, F⟩
theorem cutNext2' {Q : Flow → Shared → Prop} {s : Shared} {g h' : Heap} {L : Addr} {y : Str} {m : Str → Option Value} {ok : Prop} {tk' : Nat} (o : ok) (F : Fr g L h' m) : CutPost Q (GInv g L y m s ok) .next { s with heap := h', toks := tk' } := by
  refine ⟨o, h', tk', m y, rfl, ?_⟩
  have e : (fun z => if z = y then m y else m z) = m := by
    funext z
    by_cases h : z = y
    · rw [if_pos h, h]
    · rw [if_neg h]
  rw [e]; exact F
theorem OpsAt.list {h : Heap} {l : Addr} {n : Nat} {b : Bool} (x : OpsAt h l n b) : ∃ its : List Value, h.IsList l its.toArray ∧ its.toArray.size = n ∧ n ≤ 2 := by
  rcases x with ⟨a1, a2, a3⟩ | ⟨a1, a2, r, a3, a4⟩ | ⟨a1, a2, r, q, a3, a4, a5⟩ | ⟨a1, a2, r, q, a3, a4, a5⟩
  · exact ⟨[], list_base a3, a1 ▸ rfl, by omega⟩
  · exact ⟨[_], list_base a3, a1 ▸ rfl, by omega⟩
  · exact ⟨[_, _], list_base a3, a1 ▸ rfl, by omega⟩
  · exact ⟨[_, _], list_base a3, a1 ▸ rfl, by omega⟩
section
variable {prog : Program} {w : World} {A : Around} {E : Value → Shared → Prop} {s : Shared} {h₀ : Heap} {L p q : Addr} {m : Str → Option Value} {news : Led} {its : List Value} {Q : Value → Shared → Prop}
theorem list_up (F : Fr h₀ L s.heap m) (hl : h₀.IsList p its.toArray) : s.heap.IsList p its.toArray := by obtain ⟨o, e, r⟩ := hl; exact ⟨o, F.keep _ _ e, r⟩
theorem nil_at (N : News h₀ L s.heap news) (hm : (q, W.listOf #[] 0) ∈ news) : s.heap.IsList q #[] := ⟨_, (N _ hm).1, rfl, 0, rfl⟩
theorem eq_nilB (F : Fr h₀ L s.heap m) (hl : h₀.IsList p its.toArray) (N : News h₀ L s.heap news) (hm : (q, W.listOf #[] 0) ∈ news) (hu : A.units < cLine) (h : Q (.bool (its.toArray.size == 0)) s) : wpAny (model prog w) A (compareOp .Eq (.ref p) (.ref q)) Q E s :=
  eq_nilL (list_up F hl) (nil_at N hm) hu h
theorem ne_nilB (F : Fr h₀ L s.heap m) (hl : h₀.IsList p its.toArray) (N : News h₀ L s.heap news) (hm : (q, W.listOf #[] 0) ∈ news) (hu : A.units < cLine) (h : Q (.bool (!(its.toArray.size == 0))) s) : wpAny (model prog w) A (compareOp .NotEq (.ref p) (.ref q)) Q E s :=
  ne_nilL (list_up F hl) (nil_at N hm) hu h
end
end

section
open PySem PySem.W PySem.Calls PySem.Spec PyProof.Rows PyProof.V PySem.Builtin PySem.Builtin.Str
example : True := by
  w_top off
  k_with_none
  trivial
theorem any2 {a b y : Str} (h : ([a, b].any fun z => z == y) = true) : y = a ∨ y = b := by
  simp only [List.any_cons, List.any_nil, Bool.or_false, Bool.or_eq_true, beq_iff_eq] at h
  rcases h with h | h
  · exact .inl h.symm
  · exact .inr h.symm
theorem bits_lookup {y : Str} {t1 t2 t3 t4 t5 t6 t7 t8 : Tok} (h : ([Str.ofString "b", Str.ofString "w"].any fun z => z == y) = true) :
    Spec.lookup (.str y) (strData [(.str (Str.ofString "b") t1, .int 8 t2), (.str (Str.ofString "w") t3, .int 16 t4), (.str (Str.ofString "l") t5, .int 32 t6), (.str (Str.ofString "q") t7, .int 64 t8)]) = some (.int (sizeF y)) := by
  show Spec.lookup (.str y) (sizes.map fun p => (PyData.str p.1, PyData.int p.2)) = _
  rw [lookup_lk, sizeF]
  rcases any2 h with rfl | rfl
  · have : lk (Str.ofString "b") sizes = some 8 := by decide +kernel
    rw [this]; rfl
  · have : lk (Str.ofString "w") sizes = some 16 := by decide +kernel
    rw [this]; rfl
section
variable {prog : Program} {w : World} {A : Around} {E : Value → Shared → Prop} {s : Shared} {d : Addr} {D : List (PyData × PyData)} {x : Str} {t : Tok}
theorem item_strTabT {value slice : Expr} {dv : PyData} {Q : Value → Shared → Prop} (T : StrTab prog w s.heap d D) (hl : Spec.lookup (.str x) D = some dv) (h : ∀ v, Flat v dv → Q v { s with toks := s.toks + 1 })
    (hs : subscripted slice false (.ref d) (.str x t) = operate [.ref d, .str x t] (getItem (.ref d) (.str x t)) := by with_unfolding_all rfl) :
    wpAny (model prog w) A (subscriptTail value slice (.ref d) (.str x t)) Q E s := by
  obtain ⟨lo, kvs, hd, hf⟩ := T
  have h1 := hf.isSome same_str x
  rw [hl] at h1
  obtain ⟨v, hv⟩ := Option.isSome_iff_exists.mp h1
  have h2 := hf.getD same_str x Flat.none
  rw [hl, hv] at h2
  exact tail_any hd.mapOf.typeIs slot_dict_getitem.lookup (wpAny_getItem_of (strKind_is prog w x t) hd.mapOf hv (h v h2)) hs
theorem item_bits {value slice : Expr} {t1 t2 t3 t4 t5 t6 t7 t8 : Tok} {Q : Value → Shared → Prop}
    (T : StrTab prog w s.heap d (strData [(.str (Str.ofString "b") t1, .int 8 t2), (.str (Str.ofString "w") t3, .int 16 t4), (.str (Str.ofString "l") t5, .int 32 t6), (.str (Str.ofString "q") t7, .int 64 t8)]))
    (hb : ([Str.ofString "b", Str.ofString "w"].any fun z => z == x) = true) (h : ∀ t', Q (.int (sizeF x) t') { s with toks := s.toks + 1 })
    (hs : subscripted slice false (.ref d) (.str x t) = operate [.ref d, .str x t] (getItem (.ref d) (.str x t)) := by with_unfolding_all rfl) :
    wpAny (model prog w) A (subscriptTail value slice (.ref d) (.str x t)) Q E s :=
  item_strTabT T (bits_lookup hb) (fun v hv => by obtain ⟨t', rfl⟩ := hv.int_inv; exact h t') hs
theorem slice45_long {x : Str} (h : ([Str.ofString "b", Str.ofString "w"].any fun z => z == Txt.slice x (some 4) (some 5)) = true) : 4 < x.length := by
  by_cases hn : 4 < x.length
  · exact hn
  · exfalso
    have e : (Txt.slice x (some 4) (some 5)).length = 0 := by
      have h1 : strSliceIndices (some 4) (some 5) 1 x.length = [] := by
        unfold strSliceIndices sliceRange
        simp only [show (1 : Int) > 0 by decide, if_true]
        have a1 : max (0 : Int) (min (if (4 : Int) < 0 then 4 + (x.length : Int) else 4) (x.length : Int)) = x.length := by rw [if_neg (by omega)]; omega
        have a2 : max (0 : Int) (min (if (5 : Int) < 0 then 5 + (x.length : Int) else 5) (x.length : Int)) = x.length := by rw [if_neg (by omega)]; omega
        rw [a1, a2, if_neg (by omega)]; rfl
      unfold Txt.slice
      rw [h1]
      split
      · rename_i q
        simp at q
        exact q.symm
      · rfl
    rcases any2 h with q | q <;> (rw [q] at e; exact absurd e (by decide +kernel))
theorem item_str4 {value slice : Expr} {u : Tok} {Q : Value → Shared → Prop} (hb : ([Str.ofString "b", Str.ofString "w"].any fun z => z == Txt.slice x (some 4) (some 5)) = true)
    (h : Q (.str (Txt.slice x (some 4) (some 5)) s.toks) { s with toks := s.toks + 1 })
    (hs : subscripted slice false (.str x t) (.int 4 u) = operate [.str x t, .int 4 u] (getItem (.str x t) (.int 4 u)) := by with_unfolding_all rfl)
    (ht : ∀ r, letTemporaryGo value (.str x t) r = pure () := by intro _; with_unfolding_all rfl) :
    wpAny (model prog w) A (subscriptTail value slice (.str x t) (.int 4 u)) Q E s := by
  have hl := slice45_long hb
  refine item_str (by decide) (by omega) (by omega) (fun _ => ?_) hs ht
  have e : Txt.item x 4 = Txt.slice x (some 4) (some 5) := by
    have h1 : strSliceIndices (some 4) (some 5) 1 x.length = [4] := by
      unfold strSliceIndices sliceRange
      simp only [show (1 : Int) > 0 by decide, if_true]
      have a1 : max (0 : Int) (min (if (4 : Int) < 0 then 4 + (x.length : Int) else 4) (x.length : Int)) = 4 := by rw [if_neg (by omega)]; omega
      have a2 : max (0 : Int) (min (if (5 : Int) < 0 then 5 + (x.length : Int) else 5) (x.length : Int)) = 5 := by rw [if_neg (by omega)]; omega
      rw [a1, a2]; rfl
    have hc : x.cps[4]? = some (x.cps[4]'hl) := Array.getElem?_eq_getElem hl
    unfold Txt.slice
    rw [h1, if_neg (by simp; omega)]
    have hi : (seqIndex? (4 : Int) x.length) = some 4 := seqIndex_of (by omega) (by omega)
    unfold Txt.item Txt.charAt
    rw [hi]
    simp [hc]
  rw [e]; exact h
end
theorem sizeF_nonneg (x : Str) : 0 ≤ sizeF x := by
  unfold sizeF
  cases e : lk x sizes with
  | none => exact Int.le_refl _
  | some v =>
    have := lk_mem e
    simp only [sizes, List.mem_cons, Prod.mk.injEq, List.not_mem_nil, or_false] at this
    show 0 ≤ v
    omega
theorem bits_lookupP {y : Str} {t1 t2 t3 t4 t5 t6 t7 t8 : Tok} (h : 0 < sizeF y) :
    Spec.lookup (.str y) (strData [(.str (Str.ofString "b") t1, .int 8 t2), (.str (Str.ofString "w") t3, .int 16 t4), (.str (Str.ofString "l") t5, .int 32 t6), (.str (Str.ofString "q") t7, .int 64 t8)]) = some (.int (sizeF y)) := by
  show Spec.lookup (.str y) (sizes.map fun p => (PyData.str p.1, PyData.int p.2)) = _
  rw [lookup_lk]
  unfold sizeF at h ⊢
  cases e : lk y sizes with
  | none => rw [e] at h; exact absurd h (by decide)
  | some v => rfl
section
variable {prog : Program} {w : World} {A : Around} {E : Value → Shared → Prop} {s : Shared} {d : Addr} {D : List (PyData × PyData)} {x z : Str} {t : Tok}
theorem item_bitsP {value slice : Expr} {t1 t2 t3 t4 t5 t6 t7 t8 : Tok} {Q : Value → Shared → Prop}
    (T : StrTab prog w s.heap d (strData [(.str (Str.ofString "b") t1, .int 8 t2), (.str (Str.ofString "w") t3, .int 16 t4), (.str (Str.ofString "l") t5, .int 32 t6), (.str (Str.ofString "q") t7, .int 64 t8)]))
    (hb : sizeF z < sizeF x) (h : ∀ t', Q (.int (sizeF x) t') { s with toks := s.toks + 1 })
    (hs : subscripted slice false (.ref d) (.str x t) = operate [.ref d, .str x t] (getItem (.ref d) (.str x t)) := by with_unfolding_all rfl) :
    wpAny (model prog w) A (subscriptTail value slice (.ref d) (.str x t)) Q E s :=
  item_strTabT T (bits_lookupP (Int.lt_of_le_of_lt (sizeF_nonneg z) hb)) (fun v hv => by obtain ⟨t', rfl⟩ := hv.int_inv; exact h t') hs
theorem get_bits {t1 t2 t3 t4 t5 t6 t7 t8 u : Tok} {Q : Value → Shared → Prop}
    (T : StrTab prog w s.heap d (strData [(.str (Str.ofString "b") t1, .int 8 t2), (.str (Str.ofString "w") t3, .int 16 t4), (.str (Str.ofString "l") t5, .int 32 t6), (.str (Str.ofString "q") t7, .int 64 t8)]))
    (h : ∀ t', Q (.int (sizeF x) t') { s with toks := s.toks + 1 }) : wpAny (model prog w) A (call (.builtin "dict.get") [.ref d, .str x t, .int 0 u]) Q E s :=
  call_get2_strTab T (Flat.int 0 u) fun v hv => by rw [size_lookup] at hv; obtain ⟨t', rfl⟩ := hv.int_inv; exact h t'
end
theorem IsT3.of_K {K : Frag} {h : Heap} {q : Addr} {n : Str} {a b : Int} {t1 t2 t3 : Tok} (X : K.In h) (e : K.lookup q = some ({ cls := .type "tuple", data := .seq #[.str n t1, .int a t2, .int b t3] } : Obj)) : IsT3 h q (n, a, b) := ⟨t1, t2, t3, X _ _ e⟩
end

section
open PySem PySem.W PySem.Calls PySem.Spec PyProof.Rows PyProof.Rows.LCg
example : True := by
  w_top off
  k_with_none
  trivial
section
variable {prog : Program} {w : World} {A₀ A : Around} {s : Shared} {base h₀ : Heap} {outer : List Env} {L : Addr} {m : Str → Option Value} {env : Env} {led : Led} {K : Frag} {p : Program} {loose : List Str} {mean : ExcName → Option Value} {mg mb : Str → Option Value}
  {R : Result → Shared → Prop} {name qual : Str} {params : Arguments} {body : List Stmt} {scope : Scope} {dV kV doc pm cdv ct oc : Value} {an od : Option Addr} {osl : Array (Option Value)} {f : Addr} {args : Args} {binds : List (Str × Value)}
theorem enterLC (B : Below A₀ base outer h₀) (F : Fr h₀ L s.heap m) (X₀ : K.In h₀) (N : News h₀ L s.heap led) (T : Top p loose mean mg mb h₀) (hA : A.frames = some (env :: outer)) (hf : env.frame = some L) (hke : env.scope.kind = .function)
    (ho : K.lookup f = some ⟨oc, od, .func (fnOf name qual params body scope dV kV doc pm an cdv ct), osl⟩) (hcd : codeIn K cdv qual = true) (hroom : A.depth < recursionLimit)
    (hbind : BindsTo s (fnOf name qual params body scope dV kV doc pm an cdv ct) args binds) (hkind : (binds.all fun y => scope.names.lookup y.1 == some .local || scope.names.lookup y.1 == some .cell) = true)
    (hnd : ((cellsFrom 0 scope.names []).map (·.1)).Nodup)
    (h : ∀ g L' h₁ tk cells, (∀ b o, s.heap.get? b = some o → b ∉ led.map (·.1) → g.get? b = some o) → Fr h₀ L g m → Fr g L' h₁ (bindL (envOfC qual scope L' f cdv).kindOf binds fun _ => none) → News g L' h₁ (cells ++ led) →
      CellsAre (bindC (envOfC qual scope L' f cdv).kindOf binds fun _ => none) (cellsFrom (L' + 1) scope.names []) cells → Below A base (env :: outer) g → K.In g → Top p loose mean mg mb g → (∀ p ∈ led, p.1 < L') →
      wpAny (model prog w) (A.deeper (envOfC qual scope L' f cdv)) (execs body (envOfC qual scope L' f cdv))
        (fun fl s' => LeaveK h₀ L m g R (match fl with | .ret v => v | _ => .none) s')
        (fun e s' => wpAny (model prog w) (A.deeper (envOfC qual scope L' f cdv)) (leaving (envOfC qual scope L' f cdv) e) (fun _ s'' => R (.error e) s'') (fun e' s'' => R (.error e') s'') s')
        { s with heap := h₁, toks := tk })
    (hco : scope.isCoroutine = false) (hgen : scope.isGenerator = false) (hk : scope.kind = .function) : codeAny (model prog w) A (.call (.ref f) args) R s := by
  obtain ⟨FG, BG, st, lv⟩ := groundX (R := R) B F N hA hf hke
  refine codeAny_call_function hroom ((X₀.keeps F.keep) _ _ ho) rfl hco hgen rfl (codeRec_of (X₀.keeps F.keep) hcd) (hbind _ _ _ _ ?_)
  refine wpAny_newFunctionEnv_cells hk (kindsX hkind _) fun env' he s' x => ?_
  subst he
  refine ⟨(T.nolimit.keeps F.keep).keeps x.toInCall.keep, codeAny_func ?_⟩
  obtain ⟨h₁, tk, rfl, _⟩ := x.done
  have hk₁ := x.toInCall.keep
  obtain ⟨cells, NC, Y⟩ := Cl.news (h₀ := s.heap) (Nat.le_refl _) fun n c hm => ⟨x.cell n c (lookup_of_mem_nodup (cellsFrom_names scope.names 0 (s.heap.objs.size + 1) [] [] rfl ▸ hnd) hm), x.above n c hm⟩
  refine wpAny_mono (h _ s.heap.objs.size h₁ tk cells (fun b o e n => hideAll_get _ e n) FG ⟨x.toInCall.ns, fun b o e => hk₁ b o (of_hideAll _ e), Nat.le_of_eq (hideAll_size _ _)⟩ (fun p hp => ?_) Y BG (X₀.keeps st) (T.keeps st) (fun p hp => Heap.lt_size (N p hp).1)) (fun fl s' hl => lv _ _ hl) fun _ _ y => y
  rcases List.mem_append.mp hp with hp | hp
  · refine ⟨(NC p hp).1, (NC p hp).2.1, ?_⟩
    cases q : (hideAll s.heap (led.map (·.1))).get? p.1 with
    | none => rfl
    | some o => have := of_hideAll _ q; rw [(NC p hp).2.2] at this; cases this
  · exact ⟨hk₁ _ _ (N p hp).1, Nat.ne_of_lt (Heap.lt_size (N p hp).1), hideAll_none _ (List.mem_map_of_mem hp)⟩
end
/-- the end of a turn of a comprehension: the value, the ledger as it was -/
def TEnd (h₀ : Heap) (L : Addr) (m : Str → Option Value) (led : Led) (s : Shared) (f : Value → Prop) (y : Value) (s' : Shared) : Prop :=
  f y ∧ ∃ h' tk', s' = { s with heap := h', toks := tk' } ∧ Fr h₀ L h' m ∧ News h₀ L h' led
theorem TEnd.mk {h₀ h' : Heap} {L : Addr} {m : Str → Option Value} {led led' : Led} {s : Shared} {f : Value → Prop} {y : Value} {tk' : Nat} (o : f y) (F : Fr h₀ L h' m) (N : News h₀ L h' led') (hs : ∀ p ∈ led, p ∈ led') : TEnd h₀ L m led s f y { s with heap := h', toks := tk' } :=
  ⟨o, h', tk', rfl, F, fun p hp => N p (hs p hp)⟩
section
variable {prog : Program} {w : World} {A : Around} {E : Value → Shared → Prop} {s : Shared} {h₀ : Heap} {L : Addr} {m : Str → Option Value} {env : Env}
/-- a comprehension of any length whose elements leave the ledger as it is -/
theorem comp_ind {elt : Expr} {x : Str} {scope : Scope} {cl : List (Str × Addr)} {S : Led → Prop} {P : Nat → Value → Prop} {Fin : List Value → Led → Prop} {news : Led} (n : Nat) (f : Nat → Value → Prop) (hS : S news)
    (turn : ∀ i v (ys : List Value) I oI C oC D m₂ h tk (E' : Value → Shared → Prop), i < n → P i v → NsObj oC m₂ → m₂ x = some v → Fr h₀ L h m → News h₀ L h ((I, oI) :: (C, oC) :: (D, lst ys) :: news) → Off3 I C D news → ((@Ne Nat I C) ∧ (@Ne Nat I D) ∧ (@Ne Nat C D)) →
      wpAny (model prog w) A (eval elt (compEnvC scope cl C env)) (TEnd h₀ L m ((I, oI) :: (C, oC) :: (D, lst ys) :: news) s (f i)) E' { s with heap := h, toks := tk })
    (fin : ∀ ys : List Value, ys.length = n → (∀ i y, ys[i]? = some y → f i y) → Fin ys news) : CompRest prog w A h₀ L m env elt x scope cl s S P Fin n 0 [] news := by
  have key : ∀ (j i : Nat) (ys : List Value), i + j = n → ys.length = i → (∀ k y, ys[k]? = some y → f k y) → CompRest prog w A h₀ L m env elt x scope cl s S P Fin j i ys news := by
    intro j
    induction j with
    | zero => intro i ys hi hl hy; exact CompRest.zero (fin ys (by omega) hy)
    | succ j ih =>
      intro i ys hi hl hy
      refine CompRest.succ fun v I oI C oC D m₂ h tk E' hv hC hx F N off ne => ?_
      refine wpAny_mono (turn i v ys I oI C oC D m₂ h tk E' (by omega) hv hC hx F N off ne) (fun y s₂ hp => ?_) fun _ _ e => e
      obtain ⟨hf, h', tk', rfl, F', N'⟩ := hp
      refine ⟨h', tk', news, rfl, F', N', off, hS, ih (i + 1) (ys ++ [y]) (by omega) (by rw [List.length_append, hl]; rfl) fun k z hz => ?_⟩
      by_cases hk : k < ys.length
      · rw [List.getElem?_append_left hk] at hz; exact hy k z hz
      · rw [List.getElem?_append_right (by omega)] at hz
        have : k - ys.length = 0 := by
          by_cases h0 : k - ys.length = 0
          · exact h0
          · rw [List.getElem?_eq_none (by simp; omega)] at hz; cases hz
        rw [this] at hz
        have e1 : k = i := by omega
        rw [e1]
        rw [← Option.some.inj hz]; exact hf
  exact key n 0 [] (by omega) rfl (fun k y h => by simp at h)
end
section
variable {prog : Program} {w : World} {A : Around} {E : Value → Shared → Prop} {s : Shared} {h₀ : Heap} {L : Addr} {m : Str → Option Value} {env : Env}
open LCt
/-- the end of a test -/
def BEnd (h₀ : Heap) (L : Addr) (m : Str → Option Value) (led : Led) (s : Shared) (f : Bool → Prop) (y : Bool) (s' : Shared) : Prop :=
  f y ∧ ∃ h' tk', s' = { s with heap := h', toks := tk' } ∧ Fr h₀ L h' m ∧ News h₀ L h' led
theorem BEnd.mk {h₀ h' : Heap} {L : Addr} {m : Str → Option Value} {led led' : Led} {s : Shared} {f : Bool → Prop} {y : Bool} {tk' : Nat} (o : f y) (F : Fr h₀ L h' m) (N : News h₀ L h' led') (hs : ∀ p ∈ led, p ∈ led') : BEnd h₀ L m led s f y { s with heap := h', toks := tk' } :=
  ⟨o, h', tk', rfl, F, fun p hp => N p (hs p hp)⟩
/-- [x for x in xs if test]: the items that the test takes -/
theorem comp_filter {ct : Expr} {px : Pos} {x : Str} {scope : Scope} {cl : List (Str × Addr)} {S : Led → Prop} {its : List Value} {Fin : List Value → Led → Prop} {news : Led} (tst : Value → Bool) (hS : S news)
    (elt : ∀ v (ys : List Value) I oI C oC D m₂ h tk (E' : Value → Shared → Prop) (Q : Value → Shared → Prop), NsObj oC m₂ → m₂ x = some v → Fr h₀ L h m → News h₀ L h ((I, oI) :: (C, oC) :: (D, lst ys) :: news) → (∀ tk', Q v { s with heap := h, toks := tk' }) →
      wpAny (model prog w) A (eval (.Name x px) (compEnvC scope cl C env)) Q E' { s with heap := h, toks := tk })
    (turn : ∀ v (ys : List Value) I oI C oC D m₂ h tk (E' : Value → Shared → Prop), v ∈ its → NsObj oC m₂ → m₂ x = some v → Fr h₀ L h m → News h₀ L h ((I, oI) :: (C, oC) :: (D, lst ys) :: news) → Off3 I C D news → ((@Ne Nat I C) ∧ (@Ne Nat I D) ∧ (@Ne Nat C D)) →
      wpAny (model prog w) A (isTrue ct (compEnvC scope cl C env) (eval ct (compEnvC scope cl C env))) (BEnd h₀ L m ((I, oI) :: (C, oC) :: (D, lst ys) :: news) s (fun b => b = tst v)) E' { s with heap := h, toks := tk })
    (fin : Fin (its.filter tst) news) : CompRestT prog w A h₀ L m env ct (.Name x px) x scope cl s S (fun i v => its.toArray[i]? = some v) Fin its.toArray.size 0 [] news := by
  have key : ∀ (j i : Nat) (ys : List Value), i + j = its.length → ys = (its.take i).filter tst → CompRestT prog w A h₀ L m env ct (.Name x px) x scope cl s S (fun i v => its.toArray[i]? = some v) Fin j i ys news := by
    intro j
    induction j with
    | zero =>
      intro i ys hi hy
      have : its.take i = its := List.take_of_length_le (by omega)
      rw [this] at hy
      exact CompRestT.zero (hy ▸ fin)
    | succ j ih =>
      intro i ys hi hy
      refine CompRestT.succ fun v I oI C oC D m₂ h tk E' hv hC hx F N off ne => ?_
      have hv' : its[i]? = some v := by simpa using hv
      have hmem : v ∈ its := List.mem_of_getElem? hv'
      have htk : its.take (i + 1) = its.take i ++ [v] := by rw [List.take_add_one, hv']; rfl
      refine wpAny_mono (turn v ys I oI C oC D m₂ h tk E' hmem hC hx F N off ne) (fun b s₂ hp => ?_) fun _ _ e => e
      obtain ⟨hb, h', tk', rfl, F', N'⟩ := hp
      subst hb
      cases ht : tst v with
      | true =>
        rw [if_pos rfl]
        refine elt v ys I oI C oC D m₂ h' tk' E' _ hC hx F' N' fun tk'' => ?_
        exact ⟨h', tk'', news, rfl, F', N', off, hS, ih (i + 1) (ys ++ [v]) (by omega) (by rw [hy, htk, List.filter_append]; simp [ht])⟩
      | false =>
        rw [if_neg Bool.false_ne_true]
        exact ⟨h', tk', news, rfl, F', N', off, hS, ih (i + 1) ys (by omega) (by rw [hy, htk, List.filter_append]; simp [ht])⟩
  have e : its.toArray.size = its.length := by simp
  rw [e]
  exact key its.length 0 [] (by omega) rfl
end
end

section
open PySem PySem.W PySem.Calls PySem.Spec PyProof.Rows PyProof.Rows.LCg
example : True := by
  w_top off
  k_with_none
  trivial
def strsOf : List Value → List Str
  | .str x _ :: r => x :: strsOf r
  | _ => []
theorem strsOf_are : ∀ {vs : List Value} {ss : List Str}, StrsAre vs ss → strsOf vs = ss
  | _, _, .nil => rfl
  | _, _, .cons y t r => by show y :: strsOf _ = _; rw [strsOf_are r]
def rowRead (h : Heap) (v : Value) : FR :=
  match v with
  | .ref q => match h.get? q with
    | some ⟨_, _, .seq its _, _⟩ => match its.toList with
      | [.str n _, .ref kt, .int sz _] => ⟨n, (match h.get? kt with | some ⟨_, _, .seq ks _, _⟩ => strsOf ks.toList | _ => []), sz⟩
      | _ => ⟨Str.empty, [], 0⟩
    | _ => ⟨Str.empty, [], 0⟩
  | _ => ⟨Str.empty, [], 0⟩
/-- a row's tuple -/
def RowAt (h : Heap) (q : Addr) (r : FR) : Prop := ∃ (kt : Addr) (t1 t2 : Tok) (ks : List Value), h.get? q = some ({ cls := .type "tuple", data := .seq [.str r.name t1, .ref kt, .int r.size t2].toArray } : Obj) ∧
  h.get? kt = some ({ cls := .type "tuple", data := .seq ks.toArray } : Obj) ∧ StrsAre ks r.kinds
theorem RowAt.keep {h h' : Heap} {q : Addr} {r : FR} (k : ∀ b o, h.get? b = some o → h'.get? b = some o) (x : RowAt h q r) : RowAt h' q r := by
  obtain ⟨kt, t1, t2, ks, a, b, c⟩ := x
  exact ⟨kt, t1, t2, ks, k _ _ a, k _ _ b, c⟩
theorem RowAt.read {h : Heap} {q : Addr} {r : FR} (x : RowAt h q r) : rowRead h (.ref q) = r := by
  obtain ⟨kt, t1, t2, ks, a, b, c⟩ := x
  obtain ⟨n, k, sz⟩ := r
  unfold rowRead
  simp only [a, b]
  rw [strsOf_are c]
inductive RowsAt (h : Heap) : List Value → List FR → Prop
  | nil : RowsAt h [] []
  | cons {q : Addr} {r : FR} {vs : List Value} {rs : List FR} : RowAt h q r → RowsAt h vs rs → RowsAt h (.ref q :: vs) (r :: rs)
theorem RowsAt.keep {h h' : Heap} {vs : List Value} {rs : List FR} (k : ∀ b o, h.get? b = some o → h'.get? b = some o) (x : RowsAt h vs rs) : RowsAt h' vs rs := by
  induction x with
  | nil => exact .nil
  | cons a _ ih => exact .cons (a.keep k) ih
theorem RowsAt.length {h : Heap} {vs : List Value} {rs : List FR} (x : RowsAt h vs rs) : vs.length = rs.length := by
  induction x with
  | nil => rfl
  | cons _ _ ih => rw [List.length_cons, List.length_cons, ih]
theorem RowsAt.mem {h : Heap} {vs : List Value} {rs : List FR} (x : RowsAt h vs rs) {v : Value} (hv : v ∈ vs) : ∃ q, v = .ref q ∧ RowAt h q (rowRead h v) ∧ rowRead h v ∈ rs := by
  induction x with
  | nil => cases hv
  | cons a _ ih =>
    rcases List.mem_cons.mp hv with rfl | hv
    · exact ⟨_, rfl, a.read.symm ▸ a, a.read.symm ▸ .head _⟩
    · obtain ⟨q, e, b, c⟩ := ih hv
      exact ⟨q, e, b, .tail _ c⟩
theorem RowsAt.at {h : Heap} {vs : List Value} {rs : List FR} (x : RowsAt h vs rs) : ∀ {i : Nat} {v : Value}, vs[i]? = some v → ∃ q r, v = .ref q ∧ rs[i]? = some r ∧ RowAt h q r := by
  induction x with
  | nil => intro i v e; simp at e
  | cons a _ ih =>
    intro i v e
    cases i with
    | zero => simp at e; exact ⟨_, _, e.symm, rfl, a⟩
    | succ i => simp at e; obtain ⟨q, r, h1, h2, h3⟩ := ih e; exact ⟨q, r, h1, by simpa using h2, h3⟩
theorem RowsAt.filter {h : Heap} {vs : List Value} {rs : List FR} (p : FR → Bool) (x : RowsAt h vs rs) : RowsAt h (vs.filter fun v => p (rowRead h v)) (rs.filter p) := by
  induction x with
  | nil => exact .nil
  | cons a _ ih =>
    rename_i q r vs rs _
    rw [List.filter_cons, List.filter_cons, a.read]
    cases p r with
    | true => exact .cons a ih
    | false => exact ih
theorem strs_of_at {ys : List Value} {rs : List FR} (hl : ys.length = rs.length) (h : ∀ (i : Nat) (y : Value), ys[i]? = some y → ∃ (r : FR) (t : Tok), rs[i]? = some r ∧ y = Value.str r.name t) : StrsAre ys (rs.map (·.name)) := by
  induction rs generalizing ys with
  | nil => rw [List.length_eq_zero_iff.mp hl]; exact .nil
  | cons r rs ih =>
    cases ys with
    | nil => cases hl
    | cons y ys =>
      obtain ⟨r', t, e1, e2⟩ := h 0 y (by simp)
      simp at e1
      subst e1 e2
      exact .cons _ _ (ih (by simpa using hl) fun i z hz => by simpa using h (i + 1) z (by simpa using hz))
theorem hasF_names {rows : List FR} {x : Str} : ((rows.map (·.name)).any fun y => y == x) = hasF rows x := by
  unfold hasF; rw [List.any_map]; rfl
/-- a cut that keeps a ledger -/
def LInv (g : Heap) (L : Addr) (m : Str → Option Value) (led : Led) (s : Shared) (ok : Prop) (s' : Shared) : Prop := ok ∧ ∃ h' tk', s' = { s with heap := h', toks := tk' } ∧ Fr g L h' m ∧ News g L h' led
theorem cutL {M : Model} {A : Around} {E : Value → Shared → Prop} {Q : Flow → Shared → Prop} {s : Shared} {g : Heap} {L : Addr} {m : Str → Option Value} {led : Led} {st : Stmt} {rest : List Stmt} {env : Env} (F : Fr g L s.heap m) (N : News g L s.heap led) (ok : Prop)
    (head : wpAny M A (exec st env) (CutPost Q (LInv g L m led s ok)) E s)
    (tail : ok → ∀ h' tk', Fr g L h' m → News g L h' led → wpAny M A (execs rest env) Q E { s with heap := h', toks := tk' }) : wpAny M A (execs (st :: rest) env) Q E s := by
  refine wpAny_execs_cons (wpAny_mono head (fun f s' h => ?_) fun _ _ x => x)
  cases f with
  | next => obtain ⟨o, h', tk', rfl, F', N'⟩ := h; exact tail o h' tk' F' N'
  | brk => exact h
  | cont => exact h
  | ret v => exact h
theorem cutNextL {Q : Flow → Shared → Prop} {s : Shared} {g h' : Heap} {L : Addr} {m : Str → Option Value} {led led' : Led} {ok : Prop} {tk' : Nat} (o : ok) (F : Fr g L h' m) (N : News g L h' led') (hs : ∀ p ∈ led, p ∈ led') : CutPost Q (LInv g L m led s ok) .next { s with heap := h', toks := tk' } :=
  ⟨o, h', tk', rfl, F, fun p hp => N p (hs p hp)⟩
section
variable {prog : Program} {w : World} {A : Around} {E : Value → Shared → Prop} {s : Shared} {h₀ : Heap} {L p q : Addr} {m : Str → Option Value} {news : Led} {ys : List Value} {ss : List Str} {n : Nat} {x : Str} {t : Tok} {Q : Value → Shared → Prop}
theorem split_lit {y : Str} {u : Tok} (hF : Fr h₀ L s.heap m) (hN : News h₀ L s.heap news) (hy : (y.length == 0) = false) (he : Txt.split x y = ss)
    (h : ∀ D vs h' k, StrsAre vs ss → Fr h₀ L h' m → News h₀ L h' ((D, W.listOf vs.toArray 0) :: news) → Q (.ref D) { s with heap := h', toks := k }) (hsz : x.length + 2 ≤ sizeLine) :
    wpAny (model prog w) A (call (.builtin "str.split") [.str x t, .str y u]) Q E s :=
  KSpl.split1 hF hN hy (fun D l h' k e a F N _ => h D _ h' k (he ▸ e ▸ a) F N) hsz
theorem in_strsL (N : News h₀ L s.heap news) (hm : (p, W.listOf ys.toArray n) ∈ news) (hi : StrsAre ys ss) (h : Q (.bool (ss.any fun y => y == x)) s) : wpAny (model prog w) A (compareOp .In (.str x t) (.ref p)) Q E s :=
  SeqInW.in_listW (isStrOf x) (fun y hy => eq_isStrOf x t hi y (by simpa using hy)) (PySem.IsL.isList (n := n) (N _ hm).1) (by
    have e : ys.toArray.any (isStrOf x) = ss.any fun y => y == x := by rw [← any_isStrOf x hi]; simp
    rw [e]; exact h)
theorem ne_nilM (N : News h₀ L s.heap news) (hp : (p, W.listOf ys.toArray n) ∈ news) (hm : (q, W.listOf #[] 0) ∈ news) (hu : A.units < cLine) (h : Q (.bool (!(ys.toArray.size == 0))) s) : wpAny (model prog w) A (compareOp .NotEq (.ref p) (.ref q)) Q E s :=
  ne_nilL ⟨_, (N _ hp).1, rfl, n, rfl⟩ (nil_at N hm) hu h
theorem eq_nilM (N : News h₀ L s.heap news) (hp : (p, W.listOf ys.toArray n) ∈ news) (hm : (q, W.listOf #[] 0) ∈ news) (hu : A.units < cLine) (h : Q (.bool (ys.toArray.size == 0)) s) : wpAny (model prog w) A (compareOp .Eq (.ref p) (.ref q)) Q E s :=
  eq_nilL ⟨_, (N _ hp).1, rfl, n, rfl⟩ (nil_at N hm) hu h
/-- a tuple against the empty tuple -/
theorem ne_nilT {its : Array Value} (hl : s.heap.IsTuple p its) (hb : s.heap.IsTuple q #[]) (hu : A.units < cLine) (h : Q (.bool (!(its.size == 0))) s) : wpAny (model prog w) A (compareOp .NotEq (.ref p) (.ref q)) Q E s := by
  refine SeqAt.RcNeAt.tuples (e := fun _ => true) hl hb hu (fun j _ h2 => absurd h2 (by simp)) prog w E Q ?_
  have e : (!((List.range (min its.size (#[] : Array Value).size)).all (fun _ => true) && its.size == (#[] : Array Value).size)) = !(its.size == 0) := by simp
  rw [e]; exact h
end
theorem StrsAre.len {ys : List Value} {ss : List Str} (x : StrsAre ys ss) : ys.length = ss.length := by
  induction x with
  | nil => rfl
  | cons y t r ih => rw [List.length_cons, List.length_cons, ih]
theorem IsTuple.keepF {h₀ h : Heap} {L q : Addr} {m : Str → Option Value} {its : Array Value} (F : Fr h₀ L h m) (x : h₀.IsTuple q its) : h.IsTuple q its := by
  obtain ⟨o, e, r⟩ := x
  exact ⟨o, F.keep _ _ e, r⟩
theorem IsTuple.ofN {h₀ h : Heap} {L q : Addr} {news : Led} {its : Array Value} {n : Nat} (N : News h₀ L h news) (hm : (q, ({ cls := .type "tuple", data := .seq its n } : Obj)) ∈ news) : h.IsTuple q its := ⟨_, (N _ hm).1, rfl, n, rfl⟩
section
open LCt
/-- the source of a comprehension with a test: a tuple of the base -/
def SrcTupT (prog : Program) (w : World) (A : Around) (h₀ : Heap) (L : Addr) (m : Str → Option Value) (env : Env) (ct elt : Expr) (x : Str) (scope : Scope) (cl : List (Str × Addr)) (Fin : Shared → List Value → Led → Prop) (xv : Value) (s₁ : Shared) : Prop :=
  ∃ ax its news, xv = .ref ax ∧ A.handled = none ∧ Fr h₀ L s₁.heap m ∧ News h₀ L s₁.heap news ∧ h₀.IsTuple ax its ∧ its.size ≤ sizeLine ∧
    ∀ s₂ : Shared, (∃ h, s₂ = { s₁ with heap := h }) → CompRestT prog w A h₀ L m env ct elt x scope cl s₂ (fun _ => True) (fun i v => its[i]? = some v) (Fin s₂) its.size 0 [] news
section
variable {prog : Program} {w : World} {A : Around} {E : Value → Shared → Prop} {s : Shared} {h₀ : Heap} {L : Addr} {m : Str → Option Value} {env : Env}
theorem SrcTupT.base {ct elt : Expr} {x : Str} {scope : Scope} {cl : List (Str × Addr)} {Fin : Shared → List Value → Led → Prop} {ax : Addr} {its : Array Value} {news : Led} {s₁ : Shared}
    (hh : A.handled = none) (F : Fr h₀ L s₁.heap m) (N : News h₀ L s₁.heap news) (hl : h₀.IsTuple ax its) (hsz : its.size ≤ sizeLine)
    (h : ∀ g, CompRestT prog w A h₀ L m env ct elt x scope cl { s₁ with heap := g } (fun _ => True) (fun i v => its[i]? = some v) (Fin { s₁ with heap := g }) its.size 0 [] news) :
    SrcTupT prog w A h₀ L m env ct elt x scope cl Fin (.ref ax) s₁ := ⟨ax, its, news, rfl, hh, F, N, hl, hsz, fun _ ⟨g, e⟩ => e ▸ h g⟩
theorem ListComp_UBT {ct elt iter : Expr} {x : Str} {px : Pos} {scope : Scope} {cl : List (Str × Addr)} {pos : Pos} {Q : Value → Shared → Prop} (F₀ : Fr h₀ L s.heap m)
    (hclos : closureFor scope env = pure cl) (hcell : ∀ y ∈ scope.names, y.2 ≠ .cell) (hkind : scope.kind = .function)
    (hnames : ∀ y ∈ scope.names, y.2 = .local → scope.names.lookup y.1 = some .local) (hx : scope.names.lookup x = some .local)
    (h : wpAny (model prog w) A (eval iter env) (SrcTupT prog w A h₀ L m env ct elt x scope cl (fun s₂ => FinE h₀ L m s₂ Q)) E s)
    (hs : ∀ x, foldedSetIterable iter env x = pure x := by intro _; rfl) :
    wpAny (model prog w) A (eval (.ListComp elt [⟨.Name x px, iter, [ct], 0⟩] scope pos) env) Q E s := by
  rw [eval_ListComp]
  refine wpAny_comprehension_free (use := none) rfl hs hclos hkind hnames (wpAny_mono h (fun xv s₁ h₁ => ?_) fun _ _ e => e)
  obtain ⟨ax, its, news, rfl, hh, F, N, S, hsz, R⟩ := h₁
  have hl : s₁.heap.IsTuple ax its := by obtain ⟨o', q, r⟩ := S; exact ⟨o', F.keep _ _ q, r⟩
  have hlt : ax < s₁.heap.objs.size := by obtain ⟨_, e, _⟩ := hl; exact Heap.lt_size e
  refine wpAny_pyIter_tuple hl ?_
  have up : ∀ b o, s₁.heap.get? b = some o → (s₁.heap.push { cls := .type "tuple_iterator", data := .fields #[.ref ax, .int 0 0] }).get? b = some o := fun b o e => Heap.get?_push_of_some _ e
  refine block_T (Walks.tuple hh s₁.heap.objs.size ax (Nat.ne_of_lt hlt) its) hsz (fun i h st => by obtain ⟨o, e, _⟩ := st.1; exact ⟨o, e⟩) (tuple_st S) hcell hkind hx ⟨⟨_, Heap.get?_push_size _ rfl, rfl, rfl⟩, by obtain ⟨o', q, r⟩ := hl; exact ⟨o', up _ _ q, r⟩⟩ (fun b hb => ?_)
    (F.keeps up) (N.grown up) (Nat.ne_of_lt F.ns.lt) (next_is_new F) (fun p hp => Nat.ne_of_lt (Heap.lt_size (N p hp).1)) trivial (R _ ⟨_, rfl⟩) ?_
  · show b < (s₁.heap.push _).objs.size
    rw [Heap.size_push]
    rcases List.mem_cons.mp hb with rfl | hb
    · exact Nat.lt_succ_self _
    · rw [List.mem_singleton.mp hb]; exact Nat.lt_succ_of_lt hlt
  · intro D C h tk m' ys news' F' N' o1 hn hC₀ hD₀ hCL hDL hCD offC fin
    refine ⟨m', hn, fun h'' hs'' => fin D h'' tk (F'.change hs'' hCL hC₀) (fun p hp => ?_) o1⟩
    refine ⟨hs''.extBut _ _ ?_ (N' p hp).1, (N' p hp).2⟩
    rcases List.mem_cons.mp hp with rfl | hp
    · exact Ne.symm hCD
    · exact offC p hp
end
end
end

section
open PySem PySem.W PySem.Calls PySem.Spec PyProof.Rows
example : True := by
  w_top off
  k_with_none
  trivial
local macro_rules | `(tactic| walk_at "call builtin:str.split") => `(tactic| k_extra "z call builtin:str.split")
local macro_rules | `(tactic| walk_at "pyIter ref") => `(tactic| k_extra "z pyIter ref")
local macro_rules | `(tactic| walk_at "setItem ref str") => `(tactic| k_extra "z setItem ref str")
example : True := by
  k_with_none
  k_with "my_enter" => (refine' enterL ?k1 ?k2 ?k3 ?k4 ?k5 ?kA ?kF ?kK ?k6 ?k7 ?k8 ?k9 ?kB ?_ ?c2 ?c3 ?c4 ?c5; (case kA => exact rfl); (case kF => exact rfl); (case kK => assumption); (case k1 => k_asm); (case k2 => k_asm); (case k3 => k_asm); (case k4 => k_asm); (case k5 => k_asm); (case k6 => k_is); (case k7 => k_is); (case k8 => k_room); (case k9 => exact BindsTo.of_eq rfl); (case c5 => decide); (case kB => exact locs rfl); (case c2 => exact rfl); (case c3 => exact rfl); (case c4 => exact rfl); k_whole; intro g' L' h' hg' FG' F' N' B' X' T'; (try (refine anyTok ?_; intro tkz)); (try dsimp only); (let mz := frMap F'; have Fz : Fr _ _ _ mz := F'); (try k_lift B'); (try k_fold))
  k_with "my_use" => ((case k1 => k_asm); (case k2 => k_asm); (case k3 => k_asm); (case k4 => first | exact News.nil | k_asm); (case k5 => k_asm); (case kK => first | exact rfl | assumption); (case kp => first | trivial | assumption | exact IsetAt.keep (Fr.keep (by k_asm)) (by with_reducible assumption) | exact OpsAt.keep (Fr.keep (by k_asm)) (by with_reducible assumption)); (case kd => first | k_room | ktr_room); (case ku => ktr_units); (case k9 => k_asm))
  k_with "my_clr" => ((repeat (with_reducible rename Fr _ _ _ _ => z9; clear z9)); (repeat (with_reducible rename News _ _ _ _ => z9; clear z9)); (repeat (with_reducible rename Top _ _ _ _ _ _ => z9; clear z9)); (repeat (with_reducible rename Below _ _ _ _ => z9; clear z9)); (repeat (with_reducible rename Heap.StaysIn _ _ => z9; clear z9)); (repeat (with_reducible rename Frag.In _ _ => z9; clear z9)))
  k_with "my_next" => (refine' FPost.next ?_ ?F ?N ?hs; (case F => k_asm); (case N => k_asm); (case hs => lcg_sub))
  k_with "my_endH" => (rename (∀ (b : Addr) (o : Obj), _ → ¬ _ → _) => hg9; refine endH (by assumption) hg9 (by assumption) ?_)
  k_with "my_t3" => (refine ⟨_, rfl, IsT3.of_eq ?_ (IsT3.of_news (by assumption) (by k_mem))⟩)
  k_with "my_if" => ((repeat (with_reducible rename Fr _ _ _ _ => z9; clear z9)); (repeat (with_reducible rename News _ _ _ _ => z9; clear z9)); (repeat (with_reducible rename Top _ _ _ _ _ _ => z9; clear z9)); (repeat (with_reducible rename Below _ _ _ _ => z9; clear z9)); (repeat (with_reducible rename Heap.StaysIn _ _ => z9; clear z9)); (repeat (with_reducible first | (refine pos_eq (by assumption) ?_) | (refine neg_eqB (by assumption) ?_) | (refine neg_eq (by assumption) ?_))); try rfl)
  k_with "my_end1" => (rename (∀ (b : Addr) (o : Obj), _ → ¬ _ → _) => hg9; refine end1 (by assumption) hg9 (by first | exact (fun _ hp => absurd hp List.not_mem_nil) | assumption) (by assumption) (by assumption) (by first | exact (fun _ hp => absurd hp List.not_mem_nil) | k_all) (by k_mem) (by first | exact (fun _ hp => absurd hp List.not_mem_nil) | k_all) ?_)
  k_with "my_end0" => (rename (∀ (b : Addr) (o : Obj), _ → ¬ _ → _) => hg9; refine end0 (by assumption) hg9 (by first | exact (fun _ hp => absurd hp List.not_mem_nil) | assumption) (by assumption) (by assumption) (by first | exact (fun _ hp => absurd hp List.not_mem_nil) | k_all) ?_)
  k_with "z call builtin:str.split" => (k_here; (with_reducible show wpAny _ _ (call (Value.builtin "str.split") _) _ _ _); (refine KSpl.split1 (by k_asm) (by k_asm) (by decide) ?_ (by (rw [sizeLine_eq]; omega))); (intro D' l' h' k' e' a' F' N' l1z); (try k_lt l1z); (try ((with_reducible rename Txt.split _ _ = [_, _] => hs9); rw [hs9] at e'; (kspl_open e'); (simp only [strValues, List.map_cons, List.map_nil] at N' a'))))
  k_with "z pyIter ref" => (k_here; with_reducible refine stopAtP ?_)
  k_with "z setItem ref str" => (k_here; k_dflt (refine' set_names ?F ?N ?U ?k1 ?k2 ?_; (case F => k_asm); (case N => k_asm); (case U => k_updF); (case k1 => with_reducible assumption); (case k2 => with_reducible assumption)); intro h' on' F' N' hd'; (try dsimp only))
  trivial
local macro_rules | `(tactic| k_room) => `(tactic| ((try simp only [depth_under_make, depth_under_kw, depth_in1, depth_deeper]); (try dsimp only [ktrTop]); omega))
local macro_rules | `(tactic| k_inst) => `(tactic| (refine' instAt_base ?F ?h1 ?h2; (case F => k_asm); (case h1 => with_reducible assumption); (case h2 => with_reducible assumption)))
local macro_rules | `(tactic| ktr_units) => `(tactic| (have hcL9 := cLine_is; (try simp only [units_in1, units_deeper, units_under_make, Around.mark_units, units_caller]); (try dsimp only [ktrTop]); omega))
-- a test that the path has decided
theorem pairsG (w : World) (mean mg mb) (text : Str) (t : Tok) (D : List (Str × Str)) (hz : text.length ≤ 200) (hs : (Txt.split text (Str.ofString " ")).map (fun x => Txt.split x (Str.ofString ":")) = D.map fun p => [p.1, p.2]) (hw : ∀ x ∈ Txt.split text (Str.ofString " "), x.length ≤ 100) (hnd : (D.map (·.1)).Nodup) (hD : D.length ≤ 100) : FSpec 2 w mean mg mb 28 [] [.str text t] (fun _ => True) (fun v own => ∃ d o, v = .ref d ∧ own = [(d, o)] ∧ TabS w d o D) := by
  unfold FSpec TopP
  k_fill
  intro dp un gd cn cs a ccd cl outer A₀ base h₀ L m s Q E B F X N T hk hP hdp hu hret
  refine wpAny_call ?_
  k_dflt (walk_at "my_enter")
  (repeat' (first | (k_unfold; (try dsimp only)) | (k_end; wrow_close) | ((try dsimp only); (first | (with_reducible show wpAny _ _ (exec _ _) _ _ _); (try k_fold); (try (with_reducible rename News _ _ _ _ => zN; dsimp only at zN)) | skip); walk1) | walk1 | (leave1; walk_say "STEP leave1"; try dsimp only) | fail "no step"))
  unfold StopP
  rename List.map _ _ = Txt.split text _ => e9
  k_dflt (refine' pairs_loop (D := D) (e9 ▸ hs) (e9 ▸ hw) hnd hD (by rfl) ?kF ?kN ?ko ?turn ?done)
  case kF => k_asm
  case kN => k_asm
  case ko => with_reducible assumption
  case turn =>
    intro I it h tk x tx k v o kvs a b hc hsp hx ho hkv o1 o2 F N
    (repeat' (first | (k_unfold; (try dsimp only)) | (k_end; wrow_close) | ((try dsimp only); (first | (with_reducible show wpAny _ _ (exec _ _) _ _ _); (try k_fold); (try (with_reducible rename News _ _ _ _ => zN; dsimp only at zN)) | skip); walk1) | walk1 | (leave1; walk_say "STEP leave1"; try dsimp only) | fail "no step"))
    refine' PEnd.mk ?eF ?ed ?eN ?e1 ?e2 ?e3 ?em
    case eF => assumption
    case ed => with_reducible assumption
    case eN => assumption
    case e1 => k_mem
    case e2 => k_mem
    case e3 => k_mem
    case em => (intro y h1 h2 h3; simp only [if_neg h1, if_neg h2, if_neg h3])
  case done =>
    intro h tk a b c o kvs ho hf F N
    (try dsimp only)
    (repeat' (first | (k_unfold; (try dsimp only)) | (k_end; wrow_close) | ((try dsimp only); (first | (with_reducible show wpAny _ _ (exec _ _) _ _ _); (try k_fold); (try (with_reducible rename News _ _ _ _ => zN; dsimp only at zN)) | skip); walk1) | walk1 | (leave1; walk_say "STEP leave1"; try dsimp only) | fail "no step"))
    walk_at "my_end1"
    exact ⟨_, _, rfl, rfl, by with_reducible assumption, _, ho, hf⟩
def pairs1_d : List (Str × Str) := [(Str.ofString "sal", Str.ofString "shl"), (Str.ofString "loopz", Str.ofString "loope"), (Str.ofString "loopnz", Str.ofString "loopne"), (Str.ofString "repe", Str.ofString "rep"), (Str.ofString "repz", Str.ofString "rep"), (Str.ofString "repnz", Str.ofString "repne")]
theorem pairs1 (w : World) (mean mg mb) (t : Tok) : FSpec 2 w mean mg mb 28 [] [.str (Str.ofString "sal:shl loopz:loope loopnz:loopne repe:rep repz:rep repnz:repne") t] (fun _ => True) (fun v own => ∃ d o, v = .ref d ∧ own = [(d, o)] ∧ TabS w d o pairs1_d) :=
  pairsG w mean mg mb _ t pairs1_d (by decide +kernel) (by decide +kernel) (by decide +kernel) (by decide +kernel) (by decide +kernel)
def pairs2_d : List (Str × Str) := [(Str.ofString "c", Str.ofString "b"), (Str.ofString "nae", Str.ofString "b"), (Str.ofString "nb", Str.ofString "ae"), (Str.ofString "nc", Str.ofString "ae"), (Str.ofString "z", Str.ofString "e"), (Str.ofString "nz", Str.ofString "ne"), (Str.ofString "na", Str.ofString "be"), (Str.ofString "nbe", Str.ofString "a"), (Str.ofString "pe", Str.ofString "p"), (Str.ofString "po", Str.ofString "np"), (Str.ofString "nge", Str.ofString "l"), (Str.ofString "nl", Str.ofString "ge"), (Str.ofString "ng", Str.ofString "le"), (Str.ofString "nle", Str.ofString "g")]
theorem pairs2 (w : World) (mean mg mb) (t : Tok) : FSpec 2 w mean mg mb 28 [] [.str (Str.ofString "c:b nae:b nb:ae nc:ae z:e nz:ne na:be nbe:a pe:p po:np nge:l nl:ge ng:le nle:g") t] (fun _ => True) (fun v own => ∃ d o, v = .ref d ∧ own = [(d, o)] ∧ TabS w d o pairs2_d) :=
  pairsG w mean mg mb _ t pairs2_d (by decide +kernel) (by decide +kernel) (by decide +kernel) (by decide +kernel) (by decide +kernel)
end

section
open PySem PySem.W PySem.Calls PySem.Spec PyProof.Rows
example : True := by
  w_top off
  k_with_none
  trivial
abbrev wordsA : List Str := [Str.mk #[99, 108, 116, 113], Str.mk #[99, 113, 116, 111], Str.mk #[99, 108, 116, 100], Str.mk #[99, 119, 116, 108], Str.mk #[99, 119, 116, 100], Str.mk #[99, 98, 116, 119], Str.mk #[112, 117, 115, 104, 102], Str.mk #[112, 111, 112, 102]]
abbrev namesA : List Str := [Str.mk #[99, 100, 113, 101], Str.mk #[99, 113, 111], Str.mk #[99, 100, 113], Str.mk #[99, 119, 100, 101], Str.mk #[99, 119, 100], Str.mk #[99, 98, 119], Str.mk #[112, 117, 115, 104, 102, 113], Str.mk #[112, 111, 112, 102, 113]]
abbrev stringsA : List Str := [Str.mk #[109, 111, 118, 115], Str.mk #[99, 109, 112, 115], Str.mk #[115, 116, 111, 115], Str.mk #[108, 111, 100, 115], Str.mk #[115, 99, 97, 115]]
local macro_rules | `(tactic| walk_at "call ref") => `(tactic| k_extra "z call ref")
local macro_rules | `(tactic| walk_at "call builtin:list.index") => `(tactic| k_extra "z call builtin:list.index")
local macro_rules | `(tactic| walk_at "subscriptTail") => `(tactic| k_extra "z subscriptTail")
local macro_rules | `(tactic| walk_at "call builtin:str.split") => `(tactic| k_extra "z call builtin:str.split")
local macro_rules | `(tactic| walk_at "compareOp In str ref") => `(tactic| k_extra "z compareOp In str ref")
example : True := by
  k_with_none
  k_with "my_enter" => (refine' enterL ?k1 ?k2 ?k3 ?k4 ?k5 ?kA ?kF ?kK ?k6 ?k7 ?k8 ?k9 ?kB ?_ ?c2 ?c3 ?c4 ?c5; (case kA => exact rfl); (case kF => exact rfl); (case kK => assumption); (case k1 => k_asm); (case k2 => k_asm); (case k3 => k_asm); (case k4 => k_asm); (case k5 => k_asm); (case k6 => k_is); (case k7 => k_is); (case k8 => ktr_room); (case k9 => exact BindsTo.of_eq rfl); (case c5 => decide); (case kB => exact locs rfl); (case c2 => exact rfl); (case c3 => exact rfl); (case c4 => exact rfl); k_whole; intro g' L' h' hg' FG' F' N' B' X' T'; (try dsimp only); (try k_lift B'); (try k_fold))
  k_with "z call ref" => (k_here; refine wpAny_call ?_; k_dflt cell_enter)
  k_with "my_use" => ((case k1 => k_asm); (case k2 => k_asm); (case k3 => k_asm); (case k4 => first | exact News.nil | k_asm); (case k5 => k_asm); (case kK => first | exact rfl | assumption); (case kp => first | trivial | assumption); (case kd => first | ktr_room | (simp only [depth_deeper] at *; omega)); (case ku => ktr_units); (case k9 => k_asm))
  k_with "my_if" => ((repeat (with_reducible rename Fr _ _ _ _ => z9; clear z9)); (repeat (with_reducible rename News _ _ _ _ => z9; clear z9)); (repeat (with_reducible rename Top _ _ _ _ _ _ => z9; clear z9)); (repeat (with_reducible rename Below _ _ _ _ => z9; clear z9)); (repeat (with_reducible rename Heap.StaysIn _ _ => z9; clear z9)); (repeat (with_reducible first | (refine pos_eq (by assumption) ?_) | (refine neg_eqB (by assumption) ?_) | (refine neg_eq (by assumption) ?_))); try rfl)
  k_with "my_end1" => (rename (∀ (b : Addr) (o : Obj), _ → ¬ _ → _) => hg9; refine end1 (by assumption) hg9 (by first | exact (fun _ hp => absurd hp List.not_mem_nil) | assumption) (by assumption) (by assumption) (by first | exact (fun _ hp => absurd hp List.not_mem_nil) | k_all) (by k_mem) (by first | exact (fun _ hp => absurd hp List.not_mem_nil) | k_all) ?_)
  k_with "my_end0" => (rename (∀ (b : Addr) (o : Obj), _ → ¬ _ → _) => hg9; refine end0 (by assumption) hg9 (by first | exact (fun _ hp => absurd hp List.not_mem_nil) | assumption) (by assumption) (by assumption) (by first | exact (fun _ hp => absurd hp List.not_mem_nil) | k_all) ?_)
  k_with "z call builtin:list.index" => (k_here; (with_reducible show wpAny _ _ (call (Value.builtin _) [Value.ref _, Value.str _ _]) _ _ _); k_dflt (refine' index_strs ?k1 ?k2 ?k3 ?k4 ?k5 ?_; (case k1 => k_asm); (case k2 => k_mem); (case k3 => assumption); (case k4 => decide); (case k5 => assumption)); intro j9)
  k_with "z subscriptTail" => (k_here; (with_reducible show wpAny _ _ (subscriptTail _ _ (Value.ref _) (Value.int (Nat.cast _) _)) _ _ _); k_dflt (refine' item_strs ?k1 ?k2 ?k3 ?k4 ?k5 ?_; (case k1 => k_asm); (case k2 => k_mem); (case k3 => assumption); (case k4 => decide); (case k5 => assumption)); intro t9; (try dsimp only))
  k_with "z call builtin:str.split" => (k_here; (with_reducible show wpAny _ _ (call (Value.builtin "str.split") _) _ _ _); (first | (refine split_lit (ss := wordsA) (by k_asm) (by k_asm) (by decide) (by decide +kernel) ?_ (by kspl_size)) | (refine split_lit (ss := namesA) (by k_asm) (by k_asm) (by decide) (by decide +kernel) ?_ (by kspl_size)) | (refine split_lit (ss := stringsA) (by k_asm) (by k_asm) (by decide) (by decide +kernel) ?_ (by kspl_size))); (intro D' vs' h' k' a' F' N'))
  k_with "z compareOp In str ref" => (k_here; k_dflt (refine' in_strsL ?k1 ?k2 ?k3 ?_; (case k1 => k_asm); (case k2 => k_mem); (case k3 => assumption)))
  trivial
-- a test that the path has decided
def nameF (x : Str) : Str :=
  if (wordsA.any fun y => y == x) = true then namesA.getD (wordsA.idxOf x) Str.empty else
  if (Txt.slice x (some (-1)) none == Str.ofString "l") = true then
    if (stringsA.any fun y => y == Txt.slice x none (some (-1))) = true then Txt.slice x none (some (-1)) ++ Str.ofString "d" else Str.ofString ""
  else Str.ofString ""
theorem name_alone (w : World) (mean mg mb) (x : Str) (t : Tok) (hx : x.length ≤ 100) : FSpec 2 w mean mg mb 136 [] [.str x t] (fun _ => True) (fun v own => own = [] ∧ ∃ t', v = .str (nameF x) t') := by
  unfold FSpec TopP
  k_fill
  intro dp un gd cn cs a ccd cl outer A₀ base h₀ L m s Q E B F X N T hk hP hdp hu hret
  refine wpAny_call ?_
  k_dflt (walk_at "my_enter")
  (repeat' (first | (k_unfold; (try dsimp only)) | (k_end; wrow_close) | ((try dsimp only); (first | (with_reducible show wpAny _ _ (exec _ _) _ _ _); (try k_fold); (try (with_reducible rename News _ _ _ _ => zN; dsimp only at zN)) | skip); walk1) | walk1 | (leave1; walk_say "STEP leave1"; try dsimp only) | fail "no step"))
  all_goals (walk_at "my_end0"; refine stI ?_; unfold nameF; (walk_at "my_if"))
end

section
open PySem PySem.W PySem.Calls PySem.Spec PyProof.Rows
example : True := by
  w_top off
  k_with_none
  trivial
local macro_rules | `(tactic| walk_at "compareOp In str ref") => `(tactic| k_extra "z compareOp In str ref")
local macro_rules | `(tactic| walk_at "getMethod ref") => `(tactic| k_extra "z getMethod ref")
local macro_rules | `(tactic| walk_at "call builtin:dict.get") => `(tactic| k_extra "z call builtin:dict.get")
example : True := by
  k_with_none
  k_with "my_enter" => (refine' enterL ?k1 ?k2 ?k3 ?k4 ?k5 ?kA ?kF ?kK ?k6 ?k7 ?k8 ?k9 ?kB ?_ ?c2 ?c3 ?c4 ?c5; (case kA => exact rfl); (case kF => exact rfl); (case kK => assumption); (case k1 => k_asm); (case k2 => k_asm); (case k3 => k_asm); (case k4 => k_asm); (case k5 => k_asm); (case k6 => k_is); (case k7 => k_is); (case k8 => k_room); (case k9 => exact BindsTo.of_eq rfl); (case c5 => decide); (case kB => exact locs rfl); (case c2 => exact rfl); (case c3 => exact rfl); (case c4 => exact rfl); k_whole; intro g' L' h' hg' FG' F' N' B' X' T'; (try (refine anyTok ?_; intro tkz)); (try dsimp only); (let mz := frMap F'; have Fz : Fr _ _ _ mz := F'); (try k_lift B'); (try k_fold))
  k_with "my_use" => ((case k1 => k_asm); (case k2 => k_asm); (case k3 => k_asm); (case k4 => first | exact News.nil | k_asm); (case k5 => k_asm); (case kK => first | exact rfl | assumption); (case kp => first | trivial | assumption | exact IsetAt.keep (Fr.keep (by k_asm)) (by with_reducible assumption) | exact OpsAt.keep (Fr.keep (by k_asm)) (by with_reducible assumption)); (case kd => first | k_room | ktr_room); (case ku => ktr_units); (case k9 => k_asm))
  k_with "my_if" => ((repeat (with_reducible rename Fr _ _ _ _ => z9; clear z9)); (repeat (with_reducible rename News _ _ _ _ => z9; clear z9)); (repeat (with_reducible rename Top _ _ _ _ _ _ => z9; clear z9)); (repeat (with_reducible rename Below _ _ _ _ => z9; clear z9)); (repeat (with_reducible rename Heap.StaysIn _ _ => z9; clear z9)); (repeat (with_reducible first | (refine pos_eq (by assumption) ?_) | (refine neg_eqB (by assumption) ?_) | (refine neg_eq (by assumption) ?_))); try rfl)
  k_with "my_end1" => (rename (∀ (b : Addr) (o : Obj), _ → ¬ _ → _) => hg9; refine end1 (by assumption) hg9 (by first | exact (fun _ hp => absurd hp List.not_mem_nil) | assumption) (by assumption) (by assumption) (by first | exact (fun _ hp => absurd hp List.not_mem_nil) | k_all) (by k_mem) (by first | exact (fun _ hp => absurd hp List.not_mem_nil) | k_all) ?_)
  k_with "my_end0" => (rename (∀ (b : Addr) (o : Obj), _ → ¬ _ → _) => hg9; refine end0 (by assumption) hg9 (by first | exact (fun _ hp => absurd hp List.not_mem_nil) | assumption) (by assumption) (by assumption) (by first | exact (fun _ hp => absurd hp List.not_mem_nil) | k_all) ?_)
  k_with "z compareOp In str ref" => (k_here; k_dflt (refine' in_base ?k1 ?k2 ?k3 ?k4 ?_; (case k1 => k_asm); (case k2 => with_reducible assumption); (case k3 => with_reducible assumption); (case k4 => with_reducible assumption)))
  k_with "z getMethod ref" => (k_here; (with_reducible show wpAny _ _ (getMethod (Value.ref _) (PySem.Str.ofString "get") _) _ _ _); k_dflt (refine' getm_base ?k1 ?k2 ?k4 ?_; (case k1 => k_asm); (case k2 => with_reducible assumption); (case k4 => with_reducible assumption)))
  k_with "z call builtin:dict.get" => (k_here; k_dflt (refine' get2_base ?k1 ?k2 ?k3 ?k4 ?k5 ?_; (case k1 => k_asm); (case k2 => with_reducible assumption); (case k3 => with_reducible assumption); (case k4 => with_reducible assumption); (case k5 => first | (exact getD_none (by with_reducible assumption)) | (exact getD_some (by with_reducible assumption)))))
  trivial
local macro_rules | `(tactic| k_room) => `(tactic| ((try simp only [depth_under_make, depth_under_kw, depth_in1, depth_deeper]); (try dsimp only [ktrTop]); omega))
local macro_rules | `(tactic| k_inst) => `(tactic| (refine' instAt_base ?F ?h1 ?h2; (case F => k_asm); (case h1 => with_reducible assumption); (case h2 => with_reducible assumption)))
-- a test that the path has decided
theorem iset_has (w : World) (mean mg mb) (ia : Addr) (rows : List FR) (fv : Str → List Value) (x : Str) (t : Tok) : FSpec 2 w mean mg mb 75 [] [.ref ia, .str x t] (fun h => IsetAt w h ia rows fv) (fun v own => own = [] ∧ ∃ _ : Tok, v = .bool (hasF rows x)) := by
  unfold FSpec TopP
  k_fill
  intro dp un gd cn cs a ccd cl outer A₀ base h₀ L m s Q E B F X N T hk hP hdp hu hret
  refine wpAny_call ?_
  k_dflt (walk_at "my_enter")
  rename (∀ (b : Addr) (o : Obj), _ → ¬ _ → _) => hg9
  obtain ⟨dx, fl, dn, dc, x1, x2, x3, i1, i2, i3, on, kvs, ha, hb, hc, hlo, hdd, hf, hr⟩ := hP.keep (toG hg9)
  (repeat' (first | (k_unfold; (try dsimp only)) | (k_end; wrow_close) | ((try dsimp only); (first | (with_reducible show wpAny _ _ (exec _ _) _ _ _); (try k_fold); (try (with_reducible rename News _ _ _ _ => zN; dsimp only at zN)) | skip); walk1) | walk1 | (leave1; walk_say "STEP leave1"; try dsimp only) | fail "no step"))
  walk_at "my_end0"
  exact boolI (has_of (hf x) (hr x)).symm
end

section
open PySem PySem.W PySem.Calls PySem.Spec PyProof.Rows
example : True := by
  w_top off
  k_with_none
  trivial
local macro_rules | `(tactic| walk_at "my_dummy") => `(tactic| skip)
local macro_rules | `(tactic| walk_at "compareOp In str ref") => `(tactic| k_extra "z compareOp In str ref")
local macro_rules | `(tactic| walk_at "getMethod ref") => `(tactic| k_extra "z getMethod ref")
local macro_rules | `(tactic| walk_at "call builtin:dict.get") => `(tactic| k_extra "z call builtin:dict.get")
example : True := by
  k_with_none
  k_with "my_enter" => (refine' enterL ?k1 ?k2 ?k3 ?k4 ?k5 ?kA ?kF ?kK ?k6 ?k7 ?k8 ?k9 ?kB ?_ ?c2 ?c3 ?c4 ?c5; (case kA => exact rfl); (case kF => exact rfl); (case kK => assumption); (case k1 => k_asm); (case k2 => k_asm); (case k3 => k_asm); (case k4 => k_asm); (case k5 => k_asm); (case k6 => k_is); (case k7 => k_is); (case k8 => k_room); (case k9 => exact BindsTo.of_eq rfl); (case c5 => decide); (case kB => exact locs rfl); (case c2 => exact rfl); (case c3 => exact rfl); (case c4 => exact rfl); k_whole; intro g' L' h' hg' FG' F' N' B' X' T'; (try (refine anyTok ?_; intro tkz)); (try dsimp only); (let mz := frMap F'; have Fz : Fr _ _ _ mz := F'); (try k_lift B'); (try k_fold))
  k_with "my_use" => ((case k1 => k_asm); (case k2 => k_asm); (case k3 => k_asm); (case k4 => first | exact News.nil | k_asm); (case k5 => k_asm); (case kK => first | exact rfl | assumption); (case kp => first | trivial | assumption | exact IsetAt.keep (Fr.keep (by k_asm)) (by with_reducible assumption) | exact OpsAt.keep (Fr.keep (by k_asm)) (by with_reducible assumption)); (case kd => first | k_room | ktr_room); (case ku => ktr_units); (case k9 => k_asm))
  k_with "my_if" => ((repeat (with_reducible rename Fr _ _ _ _ => z9; clear z9)); (repeat (with_reducible rename News _ _ _ _ => z9; clear z9)); (repeat (with_reducible rename Top _ _ _ _ _ _ => z9; clear z9)); (repeat (with_reducible rename Below _ _ _ _ => z9; clear z9)); (repeat (with_reducible rename Heap.StaysIn _ _ => z9; clear z9)); (repeat (with_reducible first | (refine pos_eq (by assumption) ?_) | (refine neg_eqB (by assumption) ?_) | (refine neg_eq (by assumption) ?_))); try rfl)
  k_with "my_end1" => (rename (∀ (b : Addr) (o : Obj), _ → ¬ _ → _) => hg9; refine end1 (by assumption) hg9 (by first | exact (fun _ hp => absurd hp List.not_mem_nil) | assumption) (by assumption) (by assumption) (by first | exact (fun _ hp => absurd hp List.not_mem_nil) | k_all) (by k_mem) (by first | exact (fun _ hp => absurd hp List.not_mem_nil) | k_all) ?_)
  k_with "my_end0" => (rename (∀ (b : Addr) (o : Obj), _ → ¬ _ → _) => hg9; refine end0 (by assumption) hg9 (by first | exact (fun _ hp => absurd hp List.not_mem_nil) | assumption) (by assumption) (by assumption) (by first | exact (fun _ hp => absurd hp List.not_mem_nil) | k_all) ?_)
  k_with "z compareOp In str ref" => (k_here; k_dflt (refine' in_base ?k1 ?k2 ?k3 ?k4 ?_; (case k1 => k_asm); (case k2 => with_reducible assumption); (case k3 => with_reducible assumption); (case k4 => with_reducible assumption)))
  k_with "z getMethod ref" => (k_here; (with_reducible show wpAny _ _ (getMethod (Value.ref _) (PySem.Str.ofString "get") _) _ _ _); k_dflt (refine' getm_base ?k1 ?k2 ?k4 ?_; (case k1 => k_asm); (case k2 => with_reducible assumption); (case k4 => with_reducible assumption)))
  k_with "z call builtin:dict.get" => (k_here; k_dflt (refine' get2_base ?k1 ?k2 ?k3 ?k4 ?k5 ?_; (case k1 => k_asm); (case k2 => with_reducible assumption); (case k3 => with_reducible assumption); (case k4 => with_reducible assumption); (case k5 => first | (exact getD_none (by with_reducible assumption)) | (exact getD_some (by with_reducible assumption)))))
  trivial
local macro_rules | `(tactic| k_room) => `(tactic| ((try simp only [depth_under_make, depth_under_kw, depth_in1, depth_deeper]); (try dsimp only [ktrTop]); omega))
local macro_rules | `(tactic| k_inst) => `(tactic| (refine' instAt_base ?F ?h1 ?h2; (case F => k_asm); (case h1 => with_reducible assumption); (case h2 => with_reducible assumption)))
-- a test that the path has decided
theorem iset_find (w : World) (mean mg mb) (ia : Addr) (rows : List FR) (fv : Str → List Value) (x : Str) (t : Tok) : FSpec 2 w mean mg mb 68 [] [.ref ia, .str x t] (fun h => IsetAt w h ia rows fv) (fun v own => ∃ q n, v = .ref q ∧ own = [(q, W.listOf (fv x).toArray n)]) := by
  unfold FSpec TopP
  k_fill
  intro dp un gd cn cs a ccd cl outer A₀ base h₀ L m s Q E B F X N T hk hP hdp hu hret
  refine wpAny_call ?_
  k_dflt (walk_at "my_enter")
  rename (∀ (b : Addr) (o : Obj), _ → ¬ _ → _) => hg9
  obtain ⟨dx, fl, dn, dc, x1, x2, x3, i1, i2, i3, on, kvs, ha, hb, hc, hlo, hdd, hf, hr⟩ := hP.keep (toG hg9)
  rcases hf x with ⟨f1, f2⟩ | ⟨ln, n, f1, f2, f3, f4⟩
  · (repeat' (first | (k_unfold; (try dsimp only)) | (k_end; wrow_close) | ((try dsimp only); (first | (with_reducible show wpAny _ _ (exec _ _) _ _ _); (try k_fold); (try (with_reducible rename News _ _ _ _ => zN; dsimp only at zN)) | skip); walk1) | walk1 | (leave1; walk_say "STEP leave1"; try dsimp only) | fail "no step"))
    walk_at "my_end1"
    exact ⟨_, _, rfl, by rw [f2]⟩
  · have b0 := list_baseN f2
    (repeat' (first | (k_unfold; (try dsimp only)) | (k_end; wrow_close) | ((try dsimp only); (first | (with_reducible show wpAny _ _ (exec _ _) _ _ _); (try k_fold); (try (with_reducible rename News _ _ _ _ => zN; dsimp only at zN)) | skip); walk1) | walk1 | (leave1; walk_say "STEP leave1"; try dsimp only) | fail "no step"))
    walk_at "my_end1"
    exact ⟨_, _, rfl, rfl⟩
end

section
open PySem PySem.W PySem.Calls PySem.Spec PyProof.Rows
example : True := by
  w_top off
  k_with_none
  trivial
example : True := by
  k_with_none
  k_with "my_enter" => (refine' enterL ?k1 ?k2 ?k3 ?k4 ?k5 ?kA ?kF ?kK ?k6 ?k7 ?k8 ?k9 ?kB ?_ ?c2 ?c3 ?c4 ?c5; (case kA => exact rfl); (case kF => exact rfl); (case kK => assumption); (case k1 => k_asm); (case k2 => k_asm); (case k3 => k_asm); (case k4 => k_asm); (case k5 => k_asm); (case k6 => k_is); (case k7 => k_is); (case k8 => k_room); (case k9 => exact BindsTo.of_eq rfl); (case c5 => decide); (case kB => exact locs rfl); (case c2 => exact rfl); (case c3 => exact rfl); (case c4 => exact rfl); k_whole; intro g' L' h' hg' FG' F' N' B' X' T'; (try dsimp only); (try k_lift B'); (try k_fold))
  k_with "my_use" => ((case k1 => k_asm); (case k2 => k_asm); (case k3 => k_asm); (case k4 => first | exact News.nil | k_asm); (case k5 => k_asm); (case kK => first | exact rfl | assumption); (case kp => first | trivial | assumption | exact IsetAt.keep (Fr.keep (by k_asm)) (by with_reducible assumption) | exact OpsAt.keep (Fr.keep (by k_asm)) (by with_reducible assumption)); (case kd => first | k_room | ktr_room); (case ku => ktr_units); (case k9 => k_asm))
  k_with "my_if" => ((repeat (with_reducible rename Fr _ _ _ _ => z9; clear z9)); (repeat (with_reducible rename News _ _ _ _ => z9; clear z9)); (repeat (with_reducible rename Top _ _ _ _ _ _ => z9; clear z9)); (repeat (with_reducible rename Below _ _ _ _ => z9; clear z9)); (repeat (with_reducible rename Heap.StaysIn _ _ => z9; clear z9)); (repeat (with_reducible first | (refine pos_eq (by assumption) ?_) | (refine neg_eqB (by assumption) ?_) | (refine neg_eq (by assumption) ?_))); try rfl)
  k_with "my_end1" => (rename (∀ (b : Addr) (o : Obj), _ → ¬ _ → _) => hg9; refine end1 (by assumption) hg9 (by first | exact (fun _ hp => absurd hp List.not_mem_nil) | assumption) (by assumption) (by assumption) (by first | exact (fun _ hp => absurd hp List.not_mem_nil) | k_all) (by k_mem) (by first | exact (fun _ hp => absurd hp List.not_mem_nil) | k_all) ?_)
  k_with "my_end0" => (rename (∀ (b : Addr) (o : Obj), _ → ¬ _ → _) => hg9; refine end0 (by assumption) hg9 (by first | exact (fun _ hp => absurd hp List.not_mem_nil) | assumption) (by assumption) (by assumption) (by first | exact (fun _ hp => absurd hp List.not_mem_nil) | k_all) ?_)
  trivial
local macro_rules | `(tactic| k_room) => `(tactic| ((try simp only [depth_under_make, depth_under_kw, depth_in1, depth_deeper]); (try dsimp only [ktrTop]); omega))
local macro_rules | `(tactic| k_inst) => `(tactic| (refine' instAt_base ?F ?h1 ?h2; (case F => k_asm); (case h1 => with_reducible assumption); (case h2 => with_reducible assumption)))
-- a test that the path has decided
theorem has_xmm (w : World) (mean mg mb) (l : Addr) (n : Nat) (b : Bool) : FSpec 2 w mean mg mb 129 [] [.ref l] (fun h => OpsAt h l n b) (fun v own => own = [] ∧ ∃ _ : Tok, v = .bool b) := by
  unfold FSpec TopP
  k_fill
  intro dp un gd cn cs a ccd cl outer A₀ base h₀ L m s Q E B F X N T hk hP hdp hu hret
  refine wpAny_call ?_
  k_dflt (walk_at "my_enter")
  rename (∀ (b : Addr) (o : Obj), _ → ¬ _ → _) => hg9
  rcases hP.keep (toG hg9) with ⟨a1, a2, a3⟩ | ⟨a1, a2, r, a3, b2⟩ | ⟨a1, a2, r, q, a3, b2, b3⟩ | ⟨a1, a2, r, q, a3, b2, b3⟩
  all_goals (subst a2; have b0 := list_base a3; (try obtain ⟨da, ra, dra, x1, x2, y1, y2, y3, y4, t1, t2, t3, u1, u2, u3, u4, u5, u6, u7, u8, nm, nb, sz, c1, c2, c3, c4⟩ := b2); (try obtain ⟨da', ra', dra', x1', x2', y1', y2', y3', y4', t1', t2', t3', u1', u2', u3', u4', u5', u6', u7', u8', nm', nb', sz', c1', c2', c3', c4'⟩ := b3); (repeat' (first | (k_unfold; (try dsimp only)) | (k_end; wrow_close) | ((try dsimp only); (first | (with_reducible show wpAny _ _ (exec _ _) _ _ _); (try k_fold); (try (with_reducible rename News _ _ _ _ => zN; dsimp only at zN)) | skip); walk1) | walk1 | (leave1; walk_say "STEP leave1"; try dsimp only) | fail "no step")); (walk_at "my_end0"); exact ⟨rfl, 0, rfl⟩)
end

section
open PySem PySem.W PySem.Calls PySem.Spec PyProof.Rows
example : True := by
  w_top off
  k_with_none
  trivial
local macro_rules | `(tactic| walk_at "call ref") => `(tactic| k_extra "z call ref")
example : True := by
  k_with_none
  k_with "my_enter" => (refine' enterL ?k1 ?k2 ?k3 ?k4 ?k5 ?kA ?kF ?kK ?k6 ?k7 ?k8 ?k9 ?kB ?_ ?c2 ?c3 ?c4 ?c5; (case kA => exact rfl); (case kF => exact rfl); (case kK => assumption); (case k1 => k_asm); (case k2 => k_asm); (case k3 => k_asm); (case k4 => k_asm); (case k5 => k_asm); (case k6 => k_is); (case k7 => k_is); (case k8 => ktr_room); (case k9 => exact BindsTo.of_eq rfl); (case c5 => decide); (case kB => exact locs rfl); (case c2 => exact rfl); (case c3 => exact rfl); (case c4 => exact rfl); k_whole; intro g' L' h' hg' FG' F' N' B' X' T'; (try dsimp only); (try k_lift B'); (try k_fold))
  k_with "z call ref" => (k_here; refine wpAny_call ?_; k_dflt cell_enter)
  k_with "my_use" => ((case k1 => k_asm); (case k2 => k_asm); (case k3 => k_asm); (case k4 => first | exact News.nil | k_asm); (case k5 => k_asm); (case kK => first | exact rfl | assumption); (case kp => first | trivial | assumption); (case kd => first | ktr_room | (simp only [depth_deeper] at *; omega)); (case ku => ktr_units); (case k9 => k_asm))
  k_with "my_if" => ((repeat (with_reducible rename Fr _ _ _ _ => z9; clear z9)); (repeat (with_reducible rename News _ _ _ _ => z9; clear z9)); (repeat (with_reducible rename Top _ _ _ _ _ _ => z9; clear z9)); (repeat (with_reducible rename Below _ _ _ _ => z9; clear z9)); (repeat (with_reducible rename Heap.StaysIn _ _ => z9; clear z9)); (repeat (with_reducible first | (refine pos_eq (by assumption) ?_) | (refine neg_eqB (by assumption) ?_) | (refine neg_eq (by assumption) ?_))); try rfl)
  k_with "my_end1" => (rename (∀ (b : Addr) (o : Obj), _ → ¬ _ → _) => hg9; refine end1 (by assumption) hg9 (by first | exact (fun _ hp => absurd hp List.not_mem_nil) | assumption) (by assumption) (by assumption) (by first | exact (fun _ hp => absurd hp List.not_mem_nil) | k_all) (by k_mem) (by first | exact (fun _ hp => absurd hp List.not_mem_nil) | k_all) ?_)
  k_with "my_end0" => (rename (∀ (b : Addr) (o : Obj), _ → ¬ _ → _) => hg9; refine end0 (by assumption) hg9 (by first | exact (fun _ hp => absurd hp List.not_mem_nil) | assumption) (by assumption) (by assumption) (by first | exact (fun _ hp => absurd hp List.not_mem_nil) | k_all) ?_)
  k_with "z call ref" => (k_here; (with_reducible show wpAny _ _ (call (Value.ref 124) [Value.str _ _]) _ _ _); k_dflt (refine' useS (suffix_size _ _ _ _ _ _) ?k1 ?k2 ?k3 ?k4 ?k5 ?kK ?kp ?kd ?ku ?k9 ?_); (walk_at "my_use"); k_whole; intro t9 h9 tk9 st9 F9 N9; (try dsimp only); (try k_fold))
  trivial
-- a test that the path has decided
def wideF (x : Str) : Str × Int × Int :=
  if (x == Str.ofString "movslq") = true then (Str.ofString "movsxd", 64, 32) else
  if ([Str.ofString "movz", Str.ofString "movs"].any fun y => y == Txt.slice x none (some 4)) = true then
    if ([5, 6].any fun y => y == (x.length : Int)) = true then
      if ([8, 16].any fun y => y == sizeF (Txt.slice x (some 4) (some 5))) = true then
        if (x.length : Int) = 5 then
          if (Txt.slice x (some 3) (some 4) == Str.ofString "z") = true then (Str.ofString "movzx", 0, sizeF (Txt.slice x (some 4) (some 5))) else (Str.ofString "", 0, 0)
        else if sizeF (Txt.slice x (some 5) none) ≤ sizeF (Txt.slice x (some 4) (some 5)) then (Str.ofString "", 0, 0)
        else (Str.ofString "mov" ++ Txt.slice x (some 3) (some 4) ++ Str.ofString "x", sizeF (Txt.slice x (some 5) none), sizeF (Txt.slice x (some 4) (some 5)))
      else (Str.ofString "", 0, 0)
    else (Str.ofString "", 0, 0)
  else (Str.ofString "", 0, 0)
theorem widened_word (w : World) (mean mg mb) (x : Str) (t : Tok) (hx : x.length ≤ 100) : FSpec 4 w mean mg mb 143 [] [.str x t] (fun _ => True) (T3 (wideF x)) := by
  unfold FSpec TopP
  k_fill
  intro dp un gd cn cs a ccd cl outer A₀ base h₀ L m s Q E B F X N T hk hP hdp hu hret
  refine wpAny_call ?_
  k_dflt (walk_at "my_enter")
  (repeat' (first | (k_unfold; (try dsimp only)) | (k_end; wrow_close) | ((try dsimp only); (first | (with_reducible show wpAny _ _ (exec _ _) _ _ _); (try k_fold); (try (with_reducible rename News _ _ _ _ => zN; dsimp only at zN)) | skip); walk1) | walk1 | (leave1; walk_say "STEP leave1"; try dsimp only) | fail "no step"))
  all_goals (walk_at "my_end1"; refine T3.mk ?_; unfold wideF; (walk_at "my_if"))
end

section
open PySem PySem.W PySem.Calls PySem.Spec PyProof.Rows
example : True := by
  w_top off
  k_with_none
  trivial
local macro_rules | `(tactic| walk_at "call ref") => `(tactic| k_extra "z call ref")
local macro_rules | `(tactic| walk_at "compareOp In str ref") => `(tactic| k_extra "z compareOp In str ref")
local macro_rules | `(tactic| walk_at "subscriptTail") => `(tactic| k_extra "z subscriptTail")
example : True := by
  k_with_none
  k_with "my_enter" => (refine' enterL ?k1 ?k2 ?k3 ?k4 ?k5 ?kA ?kF ?kK ?k6 ?k7 ?k8 ?k9 ?kB ?_ ?c2 ?c3 ?c4 ?c5; (case kA => exact rfl); (case kF => exact rfl); (case kK => assumption); (case k1 => k_asm); (case k2 => k_asm); (case k3 => k_asm); (case k4 => k_asm); (case k5 => k_asm); (case k6 => k_is); (case k7 => k_is); (case k8 => ktr_room); (case k9 => exact BindsTo.of_eq rfl); (case c5 => decide); (case kB => exact locs rfl); (case c2 => exact rfl); (case c3 => exact rfl); (case c4 => exact rfl); k_whole; intro g' L' h' hg' FG' F' N' B' X' T'; (try dsimp only); (try k_lift B'); (try k_fold))
  k_with "z call ref" => (k_here; refine wpAny_call ?_; k_dflt cell_enter)
  k_with "my_use" => ((case k1 => k_asm); (case k2 => k_asm); (case k3 => k_asm); (case k4 => first | exact News.nil | k_asm); (case k5 => k_asm); (case kK => first | exact rfl | assumption); (case kp => first | trivial | assumption); (case kd => first | ktr_room | (simp only [depth_deeper] at *; omega)); (case ku => ktr_units); (case k9 => k_asm))
  k_with "my_if" => ((repeat (with_reducible rename Fr _ _ _ _ => z9; clear z9)); (repeat (with_reducible rename News _ _ _ _ => z9; clear z9)); (repeat (with_reducible rename Top _ _ _ _ _ _ => z9; clear z9)); (repeat (with_reducible rename Below _ _ _ _ => z9; clear z9)); (repeat (with_reducible rename Heap.StaysIn _ _ => z9; clear z9)); (repeat (with_reducible first | (refine pos_eq (by assumption) ?_) | (refine neg_eqB (by assumption) ?_) | (refine neg_eq (by assumption) ?_))); try rfl)
  k_with "my_end1" => (rename (∀ (b : Addr) (o : Obj), _ → ¬ _ → _) => hg9; refine end1 (by assumption) hg9 (by first | exact (fun _ hp => absurd hp List.not_mem_nil) | assumption) (by assumption) (by assumption) (by first | exact (fun _ hp => absurd hp List.not_mem_nil) | k_all) (by k_mem) (by first | exact (fun _ hp => absurd hp List.not_mem_nil) | k_all) ?_)
  k_with "my_end0" => (rename (∀ (b : Addr) (o : Obj), _ → ¬ _ → _) => hg9; refine end0 (by assumption) hg9 (by first | exact (fun _ hp => absurd hp List.not_mem_nil) | assumption) (by assumption) (by assumption) (by first | exact (fun _ hp => absurd hp List.not_mem_nil) | k_all) ?_)
  k_with "z call ref" => (k_here; (with_reducible show wpAny _ _ (call (Value.ref 28) [Value.str (Str.ofString "sal:shl loopz:loope loopnz:loopne repe:rep repz:rep repnz:repne") _]) _ _ _); k_dflt (refine' useD (pairs1 _ _ _ _ _) ?k1 ?k2 ?k3 ?k4 ?k5 ?kK ?kp ?kd ?ku ?k9 ?_); (walk_at "my_use"); k_whole; intro d9 o9 h9 tk9 td9 st9 F9 N9; (try dsimp only); (try k_fold))
  k_with "z call ref" => (k_here; (with_reducible show wpAny _ _ (call (Value.ref 28) [Value.str (Str.ofString "c:b nae:b nb:ae nc:ae z:e nz:ne na:be nbe:a pe:p po:np nge:l nl:ge ng:le nle:g") _]) _ _ _); k_dflt (refine' useD (pairs2 _ _ _ _ _) ?k1 ?k2 ?k3 ?k4 ?k5 ?kK ?kp ?kd ?ku ?k9 ?_); (walk_at "my_use"); k_whole; intro d9 o9 h9 tk9 td9 st9 F9 N9; (try dsimp only); (try k_fold))
  k_with "z compareOp In str ref" => (k_here; (with_reducible rename TabS _ _ _ _ => tdX); k_dflt (refine' in_tabS ?k1 ?k2 ?k3 ?_; (case k3 => assumption); (case k1 => k_asm); (case k2 => k_mem)))
  k_with "z subscriptTail" => (k_here; (with_reducible rename TabS _ _ _ _ => tdX); (with_reducible show wpAny _ _ (subscriptTail _ _ (Value.ref _) (Value.str _ _)) _ _ _); k_dflt (refine' item_tabS ?k1 ?k2 ?k3 ?k4 ?k5 ?_; (case k3 => assumption); (case k1 => k_asm); (case k2 => k_mem); (case k4 => assumption); (case k5 => kernel_rfl)); intro t9 l9; (try dsimp only))
  trivial
-- a test that the path has decided
def stemF (st : Str) (n : Nat) (x k : Str) : Str :=
  if (Txt.slice x none (some (n : Int)) == st) = true then
    if (lk (Txt.slice x (some (n : Int)) none) pairs2_d).isSome = true then st ++ (lk (Txt.slice x (some (n : Int)) none) pairs2_d).getD Str.empty else k
  else k
def canonF (x : Str) : Str := if (lk x pairs1_d).isSome = true then (lk x pairs1_d).getD Str.empty else stemF (Str.ofString "j") 1 x (stemF (Str.ofString "set") 3 x (stemF (Str.ofString "cmov") 4 x x))
theorem canonical (w : World) (mean mg mb) (x : Str) (t : Tok) (hx : x.length ≤ 100) : FSpec 4 w mean mg mb 35 [] [.str x t] (fun _ => True) (fun v own => own = [] ∧ ∃ t', v = .str (canonF x) t') := by
  unfold FSpec TopP
  k_fill
  intro dp un gd cn cs a ccd cl outer A₀ base h₀ L m s Q E B F X N T hk hP hdp hu hret
  refine wpAny_call ?_
  k_dflt (walk_at "my_enter")
  (repeat' (first | (k_unfold; (try dsimp only)) | (k_end; wrow_close) | ((try dsimp only); (first | (with_reducible show wpAny _ _ (exec _ _) _ _ _); (try k_fold); (try (with_reducible rename News _ _ _ _ => zN; dsimp only at zN)) | skip); walk1) | walk1 | (leave1; walk_say "STEP leave1"; try dsimp only) | fail "no step"))
  all_goals (walk_at "my_end0"; refine stI ?_; unfold canonF stemF; (walk_at "my_if"))
end

section
open PySem PySem.W PySem.Calls PySem.Spec PyProof.Rows
example : True := by
  w_top off
  k_with_none
  trivial
local macro_rules | `(tactic| walk_at "call ref") => `(tactic| k_extra "z call ref")
local macro_rules | `(tactic| walk_at "eval ListComp") => `(tactic| k_extra "z eval ListComp")
local macro_rules | `(tactic| walk_at "call builtin:str.split") => `(tactic| k_extra "z call builtin:str.split")
local macro_rules | `(tactic| walk_at "compareOp In str ref") => `(tactic| k_extra "z compareOp In str ref")
example : True := by
  k_with_none
  k_with "my_enter" => (refine' enterL ?k1 ?k2 ?k3 ?k4 ?k5 ?kA ?kF ?kK ?k6 ?k7 ?k8 ?k9 ?kB ?_ ?c2 ?c3 ?c4 ?c5; (case kA => exact rfl); (case kF => exact rfl); (case kK => assumption); (case k1 => k_asm); (case k2 => k_asm); (case k3 => k_asm); (case k4 => k_asm); (case k5 => k_asm); (case k6 => k_is); (case k7 => k_is); (case k8 => k_room); (case k9 => exact BindsTo.of_eq rfl); (case c5 => decide); (case kB => exact locs rfl); (case c2 => exact rfl); (case c3 => exact rfl); (case c4 => exact rfl); k_whole; intro g' L' h' hg' FG' F' N' B' X' T'; (try (refine anyTok ?_; intro tkz)); (try dsimp only); (let mz := frMap F'; have Fz : Fr _ _ _ mz := F'); (try k_lift B'); (try k_fold))
  k_with "my_use" => ((case k1 => k_asm); (case k2 => k_asm); (case k3 => k_asm); (case k4 => first | exact News.nil | k_asm); (case k5 => k_asm); (case kK => first | exact rfl | assumption); (case kp => first | trivial | assumption | exact IsetAt.keep (Fr.keep (by k_asm)) (by with_reducible assumption) | exact OpsAt.keep (Fr.keep (by k_asm)) (by with_reducible assumption)); (case kd => first | k_room | ktr_room); (case ku => ktr_units); (case k9 => k_asm))
  k_with "my_clr" => ((repeat (with_reducible rename Fr _ _ _ _ => z9; clear z9)); (repeat (with_reducible rename News _ _ _ _ => z9; clear z9)); (repeat (with_reducible rename Top _ _ _ _ _ _ => z9; clear z9)); (repeat (with_reducible rename Below _ _ _ _ => z9; clear z9)); (repeat (with_reducible rename Heap.StaysIn _ _ => z9; clear z9)); (repeat (with_reducible rename Frag.In _ _ => z9; clear z9)))
  k_with "my_next" => (refine' FPost.next ?_ ?F ?N ?hs; (case F => k_asm); (case N => k_asm); (case hs => lcg_sub))
  k_with "my_if" => ((repeat (with_reducible rename Fr _ _ _ _ => z9; clear z9)); (repeat (with_reducible rename News _ _ _ _ => z9; clear z9)); (repeat (with_reducible rename Top _ _ _ _ _ _ => z9; clear z9)); (repeat (with_reducible rename Below _ _ _ _ => z9; clear z9)); (repeat (with_reducible rename Heap.StaysIn _ _ => z9; clear z9)); (repeat (with_reducible first | (refine pos_eq (by assumption) ?_) | (refine neg_eqB (by assumption) ?_) | (refine neg_eq (by assumption) ?_))); try rfl)
  k_with "my_end1" => (rename (∀ (b : Addr) (o : Obj), _ → ¬ _ → _) => hg9; refine end1 (by assumption) hg9 (by first | exact (fun _ hp => absurd hp List.not_mem_nil) | assumption) (by assumption) (by assumption) (by first | exact (fun _ hp => absurd hp List.not_mem_nil) | k_all) (by k_mem) (by first | exact (fun _ hp => absurd hp List.not_mem_nil) | k_all) ?_)
  k_with "my_end0" => (rename (∀ (b : Addr) (o : Obj), _ → ¬ _ → _) => hg9; refine end0 (by assumption) hg9 (by first | exact (fun _ hp => absurd hp List.not_mem_nil) | assumption) (by assumption) (by assumption) (by first | exact (fun _ hp => absurd hp List.not_mem_nil) | k_all) ?_)
  k_with "z call ref" => (k_here; (with_reducible show wpAny _ _ (call (Value.ref 75) [Value.ref _, Value.str _ _]) _ _ _); k_dflt (refine' useB (iset_has _ _ _ _ _ _ _ _ _) ?k1 ?k2 ?k3 ?k4 ?k5 ?kK ?kp ?kd ?ku ?k9 ?_); (walk_at "my_use"); k_whole; intro h9 tk9 st9 F9 N9; (try dsimp only); (try k_fold))
  k_with "z call ref" => (k_here; (with_reducible show wpAny _ _ (call (Value.ref 68) [Value.ref _, Value.str _ _]) _ _ _); k_dflt (refine' useL (iset_find _ _ _ _ _ _ _ _ _) ?k1 ?k2 ?k3 ?k4 ?k5 ?kK ?kp ?kd ?ku ?k9 ?_); (walk_at "my_use"); k_whole; intro q9 n9 h9 tk9 st9 F9 N9; (try dsimp only); (try k_fold))
  k_with "z eval ListComp" => (k_here; lcg_look; k_dflt (refine ListComp_UB (F₀ := by k_asm) (by rfl) (by decide) (by rfl) (by decide) (by rfl) ?_); (iterate 10 (try first | walk1 | (dsimp only; walk1))); k_dflt (refine SrcTup.base (by rfl) (by k_asm) (by k_asm) (by with_reducible assumption) (by first | size_fits | exact Nat.le_of_ble_eq_true rfl) ?_); intro g'; lcg_lit)
  k_with "z call builtin:str.split" => (k_here; (with_reducible show wpAny _ _ (call (Value.builtin "str.split") _) _ _ _); (refine split_lit (ss := widenedL) (by k_asm) (by k_asm) (by decide) (by decide +kernel) ?_ (by kspl_size)); (intro D' vs' h' k' a' F' N'))
  k_with "z compareOp In str ref" => (k_here; k_dflt (refine' in_strsL ?k1 ?k2 ?k3 ?_; (case k1 => k_asm); (case k2 => k_mem); (case k3 => assumption)))
  trivial
local macro_rules | `(tactic| k_room) => `(tactic| ((try simp only [depth_under_make, depth_under_kw, depth_in1, depth_deeper]); (try dsimp only [ktrTop]); omega))
local macro_rules | `(tactic| k_inst) => `(tactic| (refine' instAt_base ?F ?h1 ?h2; (case F => k_asm); (case h1 => with_reducible assumption); (case h2 => with_reducible assumption)))
-- a test that the path has decided
abbrev widenedL : List Str := [Str.mk #[109, 111, 118, 122, 120], Str.mk #[109, 111, 118, 115, 120], Str.mk #[109, 111, 118, 115, 120, 100]]
def retF (rows : List FR) (x : Str) (sz : Int) : Bool := if sz = 64 then (if ([Str.ofString "ret", Str.ofString "leave"].any fun y => y == x) = true then hasF rows x else false) else false
def takesF (rows : List FR) (x : Str) (sz : Int) (n : Nat) : Bool :=
  if (x == Str.ofString "ret") = true then retF rows x sz else if (n : Int) = 0 then retF rows x sz else
  if (widenedL.any fun y => y == x) = true then false else (rows.filter fun r => r.name == x).any (tstF sz)
theorem strs0 {ks : List Value} (h : StrsAre ks []) : ks = [] := by cases h; rfl
theorem strs1 {ks : List Value} {a : Str} (h : StrsAre ks [a]) : ∃ t, ks = [.str a t] := by cases h with | cons _ t h => cases h; exact ⟨t, rfl⟩
theorem strs2 {ks : List Value} {a b : Str} (h : StrsAre ks [a, b]) : ∃ t u, ks = [.str a t, .str b u] := by cases h with | cons _ t h => cases h with | cons _ u h => cases h; exact ⟨t, u, rfl⟩
theorem takes_suffix (w : World) (mean mg mb) (ia : Addr) (rows : List FR) (fv : Str → List Value) (x : Str) (t : Tok) (sz : Int) (u : Tok) (n : Nat) (u' : Tok) (hx : x.length ≤ 100) (hn : n ≤ 2) (hks : ∀ r ∈ rows, r.kinds.length ≤ 2 ∧ ∀ k ∈ r.kinds, k.length ≤ 100) : FSpec 4 w mean mg mb 148 [] [.ref ia, .str x t, .int sz u, .int (n : Int) u'] (fun h => IsetAt w h ia rows fv) (fun v own => own = [] ∧ ∃ _ : Tok, v = .bool (takesF rows x sz n)) := by
  unfold FSpec TopP
  k_fill
  intro dp un gd cn cs a ccd cl outer A₀ base h₀ L m s Q E B F X N T hk hP hdp hu hret
  refine wpAny_call ?_
  k_dflt (walk_at "my_enter")
  rename (∀ (b : Addr) (o : Obj), _ → ¬ _ → _) => hg9
  have hI := hP.keep (toG hg9)
  obtain ⟨dx, fl, dn, dc, x1, x2, x3, i1, i2, i3, on, kvs, ha, hb, hrest⟩ := id hI
  clear hrest
  (repeat' (first | (k_unfold; (try dsimp only)) | (k_end; wrow_close) | ((try dsimp only); (first | (with_reducible show wpAny _ _ (exec _ _) _ _ _); (try k_fold); (try (with_reducible rename News _ _ _ _ => zN; dsimp only at zN)) | skip); walk1) | walk1 | (leave1; walk_say "STEP leave1"; try dsimp only) | fail "no step"))
  all_goals (try (walk_at "my_end0"; refine boolI ?_; unfold takesF retF; (walk_at "my_if"); done))
  all_goals (try (walk_at "my_end0"; refine boolI ?_; unfold takesF retF; (walk_at "my_if"); simp [*]; done))
  (with_unfolding_all refine forms_loop (tst := tstF sz) rfl (by k_asm) (newsOnly (by k_asm) (by k_mem)) (hI.forms x) ?turn ?done)
  case turn =>
    intro f r I it h tk hfa hmem hc F9 N9
    obtain ⟨hk1, hk2⟩ := hks r (List.mem_filter.mp hmem).1
    obtain ⟨fd, kt, pl, op, num, q9, u8, ks, nn, fa, fb, fc, fs⟩ := hfa
    obtain ⟨rn, rk, rs⟩ := r
    dsimp only at fs hk1 hk2 fb fc
    rcases rk with _ | ⟨k1, _ | ⟨k2, _ | ⟨k3, rk⟩⟩⟩
    · obtain rfl := strs0 fs
      have bt := tup_base fc
      have bt2 := tupB fc
      (repeat' (first | (k_unfold; (try dsimp only)) | (k_end; wrow_close) | ((try dsimp only); (first | (with_reducible show wpAny _ _ (exec _ _) _ _ _); (try k_fold); (try (with_reducible rename News _ _ _ _ => zN; dsimp only at zN)) | skip); walk1) | walk1 | (leave1; walk_say "STEP leave1"; try dsimp only) | fail "no step"))
      any_goals (first | ((walk_at "my_next"); (walk_at "my_clr"); first | exact tst0 | exact tstN (by assumption) | exact tstX1 (by assumption) | exact tstX2 (by assumption)) | fail)
    · obtain ⟨tz1, rfl⟩ := strs1 fs
      have l1 : k1.length ≤ 100 := hk2 k1 (.head _)
      have bt := tup_base fc
      have bt2 := tupB fc
      (repeat' (first | (k_unfold; (try dsimp only)) | (k_end; wrow_close) | ((try dsimp only); (first | (with_reducible show wpAny _ _ (exec _ _) _ _ _); (try k_fold); (try (with_reducible rename News _ _ _ _ => zN; dsimp only at zN)) | skip); walk1) | walk1 | (leave1; walk_say "STEP leave1"; try dsimp only) | fail "no step"))
      any_goals (first | ((walk_at "my_next"); (walk_at "my_clr"); first | exact tst0 | exact tstN (by assumption) | exact tstX1 (by assumption) | exact tstX2 (by assumption)) | fail)
      all_goals (try (exfalso; rename (¬ (0 : Int) < _) => hz; exact hz (by simp)))
      (try dsimp only)
      (try (unfold FPost; dsimp only))
      (repeat' (first | (k_unfold; (try dsimp only)) | (k_end; wrow_close) | ((try dsimp only); (first | (with_reducible show wpAny _ _ (exec _ _) _ _ _); (try k_fold); (try (with_reducible rename News _ _ _ _ => zN; dsimp only at zN)) | skip); walk1) | walk1 | (leave1; walk_say "STEP leave1"; try dsimp only) | fail "no step"))
      walk_at "my_end0"
      refine boolI ?_
      unfold takesF
      walk_at "my_if"
      exact List.any_eq_true.mpr ⟨_, hmem, by (walk_at "my_clr"); first | exact tstY1 (by assumption) (by assumption) | exact tstY2 (by assumption) (by assumption)⟩
    · obtain ⟨tz1, tz2, rfl⟩ := strs2 fs
      have l1 : k1.length ≤ 100 := hk2 k1 (.head _)
      have l2 : k2.length ≤ 100 := hk2 k2 (.tail _ (.head _))
      have bt := tup_base fc
      have bt2 := tupB fc
      (repeat' (first | (k_unfold; (try dsimp only)) | (k_end; wrow_close) | ((try dsimp only); (first | (with_reducible show wpAny _ _ (exec _ _) _ _ _); (try k_fold); (try (with_reducible rename News _ _ _ _ => zN; dsimp only at zN)) | skip); walk1) | walk1 | (leave1; walk_say "STEP leave1"; try dsimp only) | fail "no step"))
      any_goals (first | ((walk_at "my_next"); (walk_at "my_clr"); first | exact tst0 | exact tstN (by assumption) | exact tstX1 (by assumption) | exact tstX2 (by assumption)) | fail)
      all_goals (try (exfalso; rename (¬ (0 : Int) < _) => hz; exact hz (by simp)))
      (try dsimp only)
      (try (unfold FPost; dsimp only))
      (repeat' (first | (k_unfold; (try dsimp only)) | (k_end; wrow_close) | ((try dsimp only); (first | (with_reducible show wpAny _ _ (exec _ _) _ _ _); (try k_fold); (try (with_reducible rename News _ _ _ _ => zN; dsimp only at zN)) | skip); walk1) | walk1 | (leave1; walk_say "STEP leave1"; try dsimp only) | fail "no step"))
      walk_at "my_end0"
      refine boolI ?_
      unfold takesF
      walk_at "my_if"
      exact List.any_eq_true.mpr ⟨_, hmem, by (walk_at "my_clr"); first | exact tstY1 (by assumption) (by assumption) | exact tstY2 (by assumption) (by assumption)⟩
    · exact absurd hk1 (by simp)
  case done =>
    intro u h tk hany F9 N9
    (repeat' (first | (k_unfold; (try dsimp only)) | (k_end; wrow_close) | ((try dsimp only); (first | (with_reducible show wpAny _ _ (exec _ _) _ _ _); (try k_fold); (try (with_reducible rename News _ _ _ _ => zN; dsimp only at zN)) | skip); walk1) | walk1 | (leave1; walk_say "STEP leave1"; try dsimp only) | fail "no step"))
    walk_at "my_end0"
    refine boolI ?_
    unfold takesF
    walk_at "my_if"
    exact hany
end

section
open PySem PySem.W PySem.Calls PySem.Spec PyProof.Rows
example : True := by
  w_top off
  k_with_none
  trivial
example : True := by
  k_with_none
  k_with "my_enter" => (refine' enterL ?k1 ?k2 ?k3 ?k4 ?k5 ?kA ?kF ?kK ?k6 ?k7 ?k8 ?k9 ?kB ?_ ?c2 ?c3 ?c4 ?c5; (case kA => exact rfl); (case kF => exact rfl); (case kK => assumption); (case k1 => k_asm); (case k2 => k_asm); (case k3 => k_asm); (case k4 => k_asm); (case k5 => k_asm); (case k6 => k_is); (case k7 => k_is); (case k8 => k_room); (case k9 => exact BindsTo.of_eq rfl); (case c5 => decide); (case kB => exact locs rfl); (case c2 => exact rfl); (case c3 => exact rfl); (case c4 => exact rfl); k_whole; intro g' L' h' hg' FG' F' N' B' X' T'; (try (refine anyTok ?_; intro tkz)); (try dsimp only); (let mz := frMap F'; have Fz : Fr _ _ _ mz := F'); (try k_lift B'); (try k_fold))
  k_with "my_use" => ((case k1 => k_asm); (case k2 => k_asm); (case k3 => k_asm); (case k4 => first | exact News.nil | k_asm); (case k5 => k_asm); (case kK => first | exact rfl | assumption); (case kp => first | trivial | assumption | exact IsetAt.keep (Fr.keep (by k_asm)) (by with_reducible assumption) | exact OpsAt.keep (Fr.keep (by k_asm)) (by with_reducible assumption)); (case kd => first | k_room | ktr_room); (case ku => ktr_units); (case k9 => k_asm))
  k_with "my_clr" => ((repeat (with_reducible rename Fr _ _ _ _ => z9; clear z9)); (repeat (with_reducible rename News _ _ _ _ => z9; clear z9)); (repeat (with_reducible rename Top _ _ _ _ _ _ => z9; clear z9)); (repeat (with_reducible rename Below _ _ _ _ => z9; clear z9)); (repeat (with_reducible rename Heap.StaysIn _ _ => z9; clear z9)); (repeat (with_reducible rename Frag.In _ _ => z9; clear z9)))
  k_with "my_next" => (refine' FPost.next ?_ ?F ?N ?hs; (case F => k_asm); (case N => k_asm); (case hs => lcg_sub))
  k_with "my_if" => ((repeat (with_reducible rename Fr _ _ _ _ => z9; clear z9)); (repeat (with_reducible rename News _ _ _ _ => z9; clear z9)); (repeat (with_reducible rename Top _ _ _ _ _ _ => z9; clear z9)); (repeat (with_reducible rename Below _ _ _ _ => z9; clear z9)); (repeat (with_reducible rename Heap.StaysIn _ _ => z9; clear z9)); (repeat (with_reducible first | (refine pos_eq (by assumption) ?_) | (refine neg_eqB (by assumption) ?_) | (refine neg_eq (by assumption) ?_))); try rfl)
  k_with "my_end1" => (rename (∀ (b : Addr) (o : Obj), _ → ¬ _ → _) => hg9; refine end1 (by assumption) hg9 (by first | exact (fun _ hp => absurd hp List.not_mem_nil) | assumption) (by assumption) (by assumption) (by first | exact (fun _ hp => absurd hp List.not_mem_nil) | k_all) (by k_mem) (by first | exact (fun _ hp => absurd hp List.not_mem_nil) | k_all) ?_)
  k_with "my_end0" => (rename (∀ (b : Addr) (o : Obj), _ → ¬ _ → _) => hg9; refine end0 (by assumption) hg9 (by first | exact (fun _ hp => absurd hp List.not_mem_nil) | assumption) (by assumption) (by assumption) (by first | exact (fun _ hp => absurd hp List.not_mem_nil) | k_all) ?_)
  trivial
local macro_rules | `(tactic| k_room) => `(tactic| ((try simp only [depth_under_make, depth_under_kw, depth_in1, depth_deeper]); (try dsimp only [ktrTop]); omega))
local macro_rules | `(tactic| k_inst) => `(tactic| (refine' instAt_base ?F ?h1 ?h2; (case F => k_asm); (case h1 => with_reducible assumption); (case h2 => with_reducible assumption)))
-- a test that the path has decided
theorem lk_len {x : Str} {D : List (Str × Str)} (h : lenLe D 20 = true) : ((lk x D).getD Str.empty).length ≤ 20 := by
  cases e : lk x D with
  | none => exact Nat.zero_le _
  | some y => exact of_decide_eq_true (List.all_eq_true.mp h _ (lk_mem e))
theorem stem_len {st x k : Str} {n : Nat} (hs : st.length ≤ 4) (hk : k.length ≤ 90) : (stemF st n x k).length ≤ 90 := by
  have h2 : ((lk (Txt.slice x (some (n : Int)) none) pairs2_d).getD Str.empty).length ≤ 20 := lk_len (by kernel_rfl)
  unfold stemF
  split
  · split
    · rw [Str.length_append]; omega
    · exact hk
  · exact hk
theorem canon_len {x : Str} (hx : x.length ≤ 90) : (canonF x).length ≤ 100 := by
  unfold canonF
  split
  · have h1 : ((lk x pairs1_d).getD Str.empty).length ≤ 20 := lk_len (by kernel_rfl)
    omega
  · exact Nat.le_trans (stem_len (by decide +kernel) (stem_len (by decide +kernel) (stem_len (by decide +kernel) hx))) (by omega)
def c1F (x : Str) (n : Nat) : Bool := (n == 0) && (nameF x != Str.ofString "")
def c2F (x : Str) (n : Nat) (b : Bool) : Bool := ((x == Str.ofString "movabs") || ((x == Str.ofString "movabsq") || ((x == Str.ofString "movq") && !b))) && !(n == 0)
def c3F (x : Str) (n : Nat) : Bool := decide (((n : Nat) : Int) = 2) && ((wideF x).1 != Str.ofString "")
def toldF (rows : List FR) (x : Str) (n : Nat) (b : Bool) : Str × Int × Int :=
  if c1F x n = true then (nameF x, 0, 0) else if c2F x n b = true then (Str.ofString "mov", 64, 0) else if c3F x n = true then wideF x else
  if hasF rows (canonF x) = true then (canonF x, 0, 0) else
  if 0 < sizeF (Txt.slice x (some (-1)) none) then
    if takesF rows (canonF (Txt.slice x none (some (-1)))) (sizeF (Txt.slice x (some (-1)) none)) n = true then (canonF (Txt.slice x none (some (-1))), sizeF (Txt.slice x (some (-1)) none), 0) else (Str.ofString "", 0, 0)
  else (Str.ofString "", 0, 0)
end

section
open PySem PySem.W PySem.Calls PySem.Spec PyProof.Rows
example : True := by
  w_top off
  k_with_none
  trivial
local macro_rules | `(tactic| walk_at "call ref") => `(tactic| k_extra "z call ref")
local macro_rules | `(tactic| walk_at "compareOp Eq ref ref") => `(tactic| k_extra "z compareOp Eq ref ref")
local macro_rules | `(tactic| walk_at "compareOp NotEq ref ref") => `(tactic| k_extra "z compareOp NotEq ref ref")
example : True := by
  k_with_none
  k_with "my_enter" => (refine' enterL ?k1 ?k2 ?k3 ?k4 ?k5 ?kA ?kF ?kK ?k6 ?k7 ?k8 ?k9 ?kB ?_ ?c2 ?c3 ?c4 ?c5; (case kA => exact rfl); (case kF => exact rfl); (case kK => assumption); (case k1 => k_asm); (case k2 => k_asm); (case k3 => k_asm); (case k4 => k_asm); (case k5 => k_asm); (case k6 => k_is); (case k7 => k_is); (case k8 => k_room); (case k9 => exact BindsTo.of_eq rfl); (case c5 => decide); (case kB => exact locs rfl); (case c2 => exact rfl); (case c3 => exact rfl); (case c4 => exact rfl); k_whole; intro g' L' h' hg' FG' F' N' B' X' T'; (try dsimp only); (try k_lift B'); (try k_fold))
  k_with "my_use" => ((case k1 => k_asm); (case k2 => k_asm); (case k3 => k_asm); (case k4 => first | exact News.nil | k_asm); (case k5 => k_asm); (case kK => first | exact rfl | assumption); (case kp => first | trivial | assumption | exact IsetAt.keep (Fr.keep (by k_asm)) (by with_reducible assumption) | exact OpsAt.keep (Fr.keep (by k_asm)) (by with_reducible assumption)); (case kd => first | k_room | ktr_room); (case ku => ktr_units); (case k9 => k_asm))
  k_with "my_clr" => ((repeat (with_reducible rename Fr _ _ _ _ => z9; clear z9)); (repeat (with_reducible rename News _ _ _ _ => z9; clear z9)); (repeat (with_reducible rename Top _ _ _ _ _ _ => z9; clear z9)); (repeat (with_reducible rename Below _ _ _ _ => z9; clear z9)); (repeat (with_reducible rename Heap.StaysIn _ _ => z9; clear z9)); (repeat (with_reducible rename Frag.In _ _ => z9; clear z9)))
  k_with "my_next" => (refine' FPost.next ?_ ?F ?N ?hs; (case F => k_asm); (case N => k_asm); (case hs => lcg_sub))
  k_with "my_if" => ((repeat (with_reducible rename Fr _ _ _ _ => z9; clear z9)); (repeat (with_reducible rename News _ _ _ _ => z9; clear z9)); (repeat (with_reducible rename Top _ _ _ _ _ _ => z9; clear z9)); (repeat (with_reducible rename Below _ _ _ _ => z9; clear z9)); (repeat (with_reducible rename Heap.StaysIn _ _ => z9; clear z9)); (repeat (with_reducible first | (refine pos_eq (by assumption) ?_) | (refine neg_eqB (by assumption) ?_) | (refine neg_eq (by assumption) ?_))); try rfl)
  k_with "my_end1" => (rename (∀ (b : Addr) (o : Obj), _ → ¬ _ → _) => hg9; refine end1 (by assumption) hg9 (by first | exact (fun _ hp => absurd hp List.not_mem_nil) | assumption) (by assumption) (by assumption) (by first | exact (fun _ hp => absurd hp List.not_mem_nil) | k_all) (by k_mem) (by first | exact (fun _ hp => absurd hp List.not_mem_nil) | k_all) ?_)
  k_with "my_end0" => (rename (∀ (b : Addr) (o : Obj), _ → ¬ _ → _) => hg9; refine end0 (by assumption) hg9 (by first | exact (fun _ hp => absurd hp List.not_mem_nil) | assumption) (by assumption) (by assumption) (by first | exact (fun _ hp => absurd hp List.not_mem_nil) | k_all) ?_)
  k_with "z call ref" => (k_here; (with_reducible show wpAny _ _ (call (Value.ref 124) [Value.str _ _]) _ _ _); k_dflt (refine' useS (suffix_size _ _ _ _ _ _) ?k1 ?k2 ?k3 ?k4 ?k5 ?kK ?kp ?kd ?ku ?k9 ?_); (walk_at "my_use"); k_whole; intro t9 h9 tk9 st9 F9 N9; (try dsimp only); (try k_fold))
  k_with "z call ref" => (k_here; (with_reducible show wpAny _ _ (call (Value.ref 143) [Value.str _ _]) _ _ _); k_dflt (refine' useT (widened_word _ _ _ _ _ _ ?hx) ?k1 ?k2 ?k3 ?k4 ?k5 ?kK ?kp ?kd ?ku ?k9 ?_); (case hx => first | assumption | omega); (walk_at "my_use"); k_whole; intro n9 a9 b9 q9 t9 u9 z9 h9 tk9 e9 st9 F9 N9; (try dsimp only); (try k_fold))
  k_with "z call ref" => (k_here; (with_reducible show wpAny _ _ (call (Value.ref 136) [Value.str _ _]) _ _ _); k_dflt (refine' useS (name_alone _ _ _ _ _ _ ?hx) ?k1 ?k2 ?k3 ?k4 ?k5 ?kK ?kp ?kd ?ku ?k9 ?_); (case hx => first | assumption | omega); (walk_at "my_use"); k_whole; intro t9 h9 tk9 st9 F9 N9; (try dsimp only); (try k_fold))
  k_with "z call ref" => (k_here; (with_reducible show wpAny _ _ (call (Value.ref 35) [Value.str _ _]) _ _ _); k_dflt (refine' useS (canonical _ _ _ _ _ _ ?hx) ?k1 ?k2 ?k3 ?k4 ?k5 ?kK ?kp ?kd ?ku ?k9 ?_); (case hx => first | assumption | omega); (walk_at "my_use"); k_whole; intro t9 h9 tk9 st9 F9 N9; (try dsimp only); (try k_fold))
  k_with "z call ref" => (k_here; (with_reducible show wpAny _ _ (call (Value.ref 129) [Value.ref _]) _ _ _); k_dflt (refine' useB (has_xmm _ _ _ _ _ _ _) ?k1 ?k2 ?k3 ?k4 ?k5 ?kK ?kp ?kd ?ku ?k9 ?_); (walk_at "my_use"); k_whole; intro h9 tk9 st9 F9 N9; (try dsimp only); (try k_fold))
  k_with "z call ref" => (k_here; (with_reducible show wpAny _ _ (call (Value.ref 75) [Value.ref _, Value.str _ _]) _ _ _); k_dflt (refine' useB (iset_has _ _ _ _ _ _ _ _ _) ?k1 ?k2 ?k3 ?k4 ?k5 ?kK ?kp ?kd ?ku ?k9 ?_); (walk_at "my_use"); k_whole; intro h9 tk9 st9 F9 N9; (try dsimp only); (try k_fold))
  k_with "z call ref" => (k_here; (with_reducible show wpAny _ _ (call (Value.ref 148) [Value.ref _, Value.str _ _, Value.int _ _, Value.int _ _]) _ _ _); k_dflt (refine' useB (takes_suffix _ _ _ _ _ _ _ _ _ _ _ _ _ ?hx ?hn ?hks) ?k1 ?k2 ?k3 ?k4 ?k5 ?kK ?kp ?kd ?ku ?k9 ?_); (case hx => first | assumption | omega); (case hn => first | assumption | omega); (case hks => first | assumption | omega); (walk_at "my_use"); k_whole; intro h9 tk9 st9 F9 N9; (try dsimp only); (try k_fold))
  k_with "z compareOp Eq ref ref" => (k_here; k_dflt (refine' eq_nilB ?k1 ?k2 ?k3 ?k4 ?k5 ?_; (case k1 => k_asm); (case k2 => with_reducible assumption); (case k3 => k_asm); (case k4 => k_mem); (case k5 => ktr_units)))
  k_with "z compareOp NotEq ref ref" => (k_here; k_dflt (refine' ne_nilB ?k1 ?k2 ?k3 ?k4 ?k5 ?_; (case k1 => k_asm); (case k2 => with_reducible assumption); (case k3 => k_asm); (case k4 => k_mem); (case k5 => ktr_units)))
  k_with "my_bool" => ((walk_at "my_clr"); (try unfold c1F); (try unfold c2F); (try unfold c3F); simp only [*, Bool.and_false, Bool.and_true, Bool.true_and, Bool.false_and, Bool.or_true, Bool.true_or, Bool.false_or, Bool.or_false, Bool.not_true, Bool.not_false, decide_true, decide_false, Bool.and_self])
  trivial
local macro_rules | `(tactic| k_room) => `(tactic| ((try simp only [depth_under_make, depth_under_kw, depth_in1, depth_deeper]); (try dsimp only [ktrTop]); omega))
local macro_rules | `(tactic| k_inst) => `(tactic| (refine' instAt_base ?F ?h1 ?h2; (case F => k_asm); (case h1 => with_reducible assumption); (case h2 => with_reducible assumption)))
-- a test that the path has decided
theorem told_word (w : World) (mean mg mb) (ia l : Addr) (rows : List FR) (fv : Str → List Value) (x : Str) (t : Tok) (n : Nat) (b : Bool) (hx : x.length ≤ 90) (hks : ∀ r ∈ rows, r.kinds.length ≤ 2 ∧ ∀ k ∈ r.kinds, k.length ≤ 100) :
    FSpec 6 w mean mg mb 155 [] [.ref ia, .str x t, .ref l] (fun h => IsetAt w h ia rows fv ∧ OpsAt h l n b) (T3 (toldF rows x n b)) := by
  unfold FSpec TopP
  k_fill
  intro dp un gd cn cs a ccd cl outer A₀ base h₀ L m s Q E B F X N T hk hP hdp hu hret
  refine wpAny_call ?_
  k_dflt (walk_at "my_enter")
  rename (∀ (b : Addr) (o : Obj), _ → ¬ _ → _) => hg9
  have hI := hP.1.keep (toG hg9)
  have hO := hP.2.keep (toG hg9)
  obtain ⟨its, hl, rfl, hn2⟩ := hO.list
  obtain ⟨dx, fl, dn, dc, x1, x2, x3, i1, i2, i3, on, kvs, ha, hb, hrest⟩ := id hI
  clear hrest
  refine cut1 (by k_asm) (c1F x its.toArray.size = false) ?h1 ?t1
  case h1 =>
    (repeat' (first | (k_unfold; (try dsimp only)) | (k_end; wrow_close) | ((try dsimp only); walk1) | walk1 | (leave1; walk_say "STEP leave1"; try dsimp only) | fail "no step"))
    all_goals first
      | (refine cutNext ?_ (by k_asm); (walk_at "my_bool"); done)
      | (have hc : c1F x its.toArray.size = true := by (walk_at "my_bool")
         unfold CutPost
         dsimp only
         (repeat' (first | (k_unfold; (try dsimp only)) | (k_end; wrow_close) | ((try dsimp only); walk1) | walk1 | (leave1; walk_say "STEP leave1"; try dsimp only) | fail "no step"))
         walk_at "my_end1"
         refine T3.mk ?_
         unfold toldF
         walk_at "my_if")
  case t1 =>
    intro ok1 h1 tk1 F1 N1
    refine cut1 (by k_asm) (c2F x its.toArray.size b = false) ?h2 ?t2
    case h2 =>
      (repeat' (first | (k_unfold; (try dsimp only)) | (k_end; wrow_close) | ((try dsimp only); walk1) | walk1 | (leave1; walk_say "STEP leave1"; try dsimp only) | fail "no step"))
      all_goals first
        | (refine cutNext ?_ (by k_asm); (walk_at "my_bool"); done)
        | (have hc : c2F x its.toArray.size b = true := by (walk_at "my_bool")
           unfold CutPost
           dsimp only
           (repeat' (first | (k_unfold; (try dsimp only)) | (k_end; wrow_close) | ((try dsimp only); walk1) | walk1 | (leave1; walk_say "STEP leave1"; try dsimp only) | fail "no step"))
           walk_at "my_end1"
           refine T3.mk ?_
           unfold toldF
           walk_at "my_if")
    case t2 =>
      intro ok2 h2 tk2 F2 N2
      refine cut2 (by k_asm) (Str.ofString "found") (c3F x its.toArray.size = false) ?h3 ?t3
      case h3 =>
        (repeat' (first | (k_unfold; (try dsimp only)) | (k_end; wrow_close) | ((try dsimp only); walk1) | walk1 | (leave1; walk_say "STEP leave1"; try dsimp only) | fail "no step"))
        all_goals first
          | (refine cutNext2 ?_ (by k_asm); (walk_at "my_bool"); done)
          | (refine cutNext2' ?_ (by k_asm); (walk_at "my_bool"); done)
          | (have hc : c3F x its.toArray.size = true := by (walk_at "my_bool")
             (try dsimp only)
             (try (unfold CutPost; dsimp only))
             (repeat' (first | (k_unfold; (try dsimp only)) | (k_end; wrow_close) | ((try dsimp only); walk1) | walk1 | (leave1; walk_say "STEP leave1"; try dsimp only) | fail "no step"))
             walk_at "my_end1"
             refine T3.mk ?_
             unfold toldF
             (walk_at "my_if")
             assumption)
          | fail "left"
      case t3 =>
        intro ok3 h3 tk3 u3 F3 N3
        have hcl := canon_len (Nat.le_trans (Txt.slice_le x none (some (-1))) hx)
        (repeat' (first | (k_unfold; (try dsimp only)) | (k_end; wrow_close) | ((try dsimp only); walk1) | walk1 | (leave1; walk_say "STEP leave1"; try dsimp only) | fail "no step"))
        all_goals first
          | (walk_at "my_end1"
             refine T3.mk ?_
             unfold toldF
             (walk_at "my_if"); done)
          | fail "left"
end

section
open PySem PySem.W PySem.Calls PySem.Spec PyProof.Rows
example : True := by
  w_top off
  k_with_none
  trivial
example : True := by
  k_with_none
  k_with "my_enter" => (refine' enterL ?k1 ?k2 ?k3 ?k4 ?k5 ?kA ?kF ?kK ?k6 ?k7 ?k8 ?k9 ?kB ?_ ?c2 ?c3 ?c4 ?c5; (case kA => exact rfl); (case kF => exact rfl); (case kK => assumption); (case k1 => k_asm); (case k2 => k_asm); (case k3 => k_asm); (case k4 => k_asm); (case k5 => k_asm); (case k6 => k_is); (case k7 => k_is); (case k8 => k_room); (case k9 => exact BindsTo.of_eq rfl); (case c5 => decide); (case kB => exact locs rfl); (case c2 => exact rfl); (case c3 => exact rfl); (case c4 => exact rfl); k_whole; intro g' L' h' hg' FG' F' N' B' X' T'; (try dsimp only); (try k_lift B'); (try k_fold))
  k_with "my_use" => ((case k1 => k_asm); (case k2 => k_asm); (case k3 => k_asm); (case k4 => first | exact News.nil | k_asm); (case k5 => k_asm); (case kK => first | exact rfl | assumption); (case kp => first | trivial | assumption | exact IsetAt.keep (Fr.keep (by k_asm)) (by with_reducible assumption) | exact OpsAt.keep (Fr.keep (by k_asm)) (by with_reducible assumption)); (case kd => first | k_room | ktr_room); (case ku => ktr_units); (case k9 => k_asm))
  k_with "my_clr" => ((repeat (with_reducible rename Fr _ _ _ _ => z9; clear z9)); (repeat (with_reducible rename News _ _ _ _ => z9; clear z9)); (repeat (with_reducible rename Top _ _ _ _ _ _ => z9; clear z9)); (repeat (with_reducible rename Below _ _ _ _ => z9; clear z9)); (repeat (with_reducible rename Heap.StaysIn _ _ => z9; clear z9)); (repeat (with_reducible rename Frag.In _ _ => z9; clear z9)))
  k_with "my_next" => (refine' FPost.next ?_ ?F ?N ?hs; (case F => k_asm); (case N => k_asm); (case hs => lcg_sub))
  k_with "my_endH" => (rename (∀ (b : Addr) (o : Obj), _ → ¬ _ → _) => hg9; refine endH (by assumption) hg9 (by assumption) ?_)
  k_with "my_t3" => (refine ⟨_, rfl, IsT3.of_eq ?_ (IsT3.of_news (by assumption) (by k_mem))⟩)
  k_with "my_if" => ((repeat (with_reducible rename Fr _ _ _ _ => z9; clear z9)); (repeat (with_reducible rename News _ _ _ _ => z9; clear z9)); (repeat (with_reducible rename Top _ _ _ _ _ _ => z9; clear z9)); (repeat (with_reducible rename Below _ _ _ _ => z9; clear z9)); (repeat (with_reducible rename Heap.StaysIn _ _ => z9; clear z9)); (repeat (with_reducible first | (refine pos_eq (by assumption) ?_) | (refine neg_eqB (by assumption) ?_) | (refine neg_eq (by assumption) ?_))); try rfl)
  k_with "my_end1" => (rename (∀ (b : Addr) (o : Obj), _ → ¬ _ → _) => hg9; refine end1 (by assumption) hg9 (by first | exact (fun _ hp => absurd hp List.not_mem_nil) | assumption) (by assumption) (by assumption) (by first | exact (fun _ hp => absurd hp List.not_mem_nil) | k_all) (by k_mem) (by first | exact (fun _ hp => absurd hp List.not_mem_nil) | k_all) ?_)
  k_with "my_end0" => (rename (∀ (b : Addr) (o : Obj), _ → ¬ _ → _) => hg9; refine end0 (by assumption) hg9 (by first | exact (fun _ hp => absurd hp List.not_mem_nil) | assumption) (by assumption) (by assumption) (by first | exact (fun _ hp => absurd hp List.not_mem_nil) | k_all) ?_)
  trivial
local macro_rules | `(tactic| k_room) => `(tactic| ((try simp only [depth_under_make, depth_under_kw, depth_in1, depth_deeper]); (try dsimp only [ktrTop]); omega))
local macro_rules | `(tactic| k_inst) => `(tactic| (refine' instAt_base ?F ?h1 ?h2; (case F => k_asm); (case h1 => with_reducible assumption); (case h2 => with_reducible assumption)))
-- a test that the path has decided
def alone_d : List (Str × Str) := [(Str.ofString "cltq", Str.ofString "cdqe"), (Str.ofString "cqto", Str.ofString "cqo"), (Str.ofString "cltd", Str.ofString "cdq"), (Str.ofString "cwtl", Str.ofString "cwde"), (Str.ofString "cwtd", Str.ofString "cwd"), (Str.ofString "cbtw", Str.ofString "cbw"), (Str.ofString "pushf", Str.ofString "pushfq"), (Str.ofString "popf", Str.ofString "popfq"), (Str.ofString "movsl", Str.ofString "movsd"), (Str.ofString "cmpsl", Str.ofString "cmpsd"), (Str.ofString "stosl", Str.ofString "stosd"), (Str.ofString "lodsl", Str.ofString "lodsd"), (Str.ofString "scasl", Str.ofString "scasd")]
theorem law_alone (w : World) (mean mg mb)  : FSpec 2 w mean mg mb 480 [] [] (fun _ => True) (fun v own => ∃ d o, v = .ref d ∧ own = [(d, o)] ∧ TabS w d o alone_d) := by
  unfold FSpec TopP
  k_fill
  intro dp un gd cn cs a ccd cl outer A₀ base h₀ L m s Q E B F X N T hk hP hdp hu hret
  refine wpAny_call ?_
  k_dflt (walk_at "my_enter")
  (iterate 28 ((try dsimp only); walk1))
  -- the dict told by a closed table
  obtain ⟨kz, hdz, hfz⟩ : ∃ kz, Obj.IsDictOf _ _ kz ∧ PyProof.V.FlatPairs PyData.str kz (encS (alone_d.take 7)) := ⟨_, by assumption, flat_to (by assumption) (by kernel_rfl)⟩
  (with_reducible rename PyProof.V.FlatPairs _ (strPairs _) _ => zf; clear zf)
  (with_reducible rename Obj.IsDictOf _ _ (strPairs _) => zf; clear zf)
  refine anyTok ?_
  intro tkz
  (repeat' (first | (k_unfold; (try dsimp only)) | (k_end; wrow_close) | ((try dsimp only); (first | (with_reducible show wpAny _ _ (exec _ _) _ _ _); (try k_fold); (try (with_reducible rename News _ _ _ _ => zN; dsimp only at zN)) | skip); walk1) | walk1 | (leave1; walk_say "STEP leave1"; try dsimp only) | fail "no step"))
  walk_at "my_end1"
  (with_reducible rename PyProof.V.FlatPairs _ _ _ => hf)
  exact ⟨_, _, rfl, rfl, by with_reducible assumption, _, by with_reducible assumption, flat_to hf (by kernel_rfl)⟩
end

section
open PySem PySem.W PySem.Calls PySem.Spec PyProof.Rows
example : True := by
  w_top off
  k_with_none
  trivial
example : True := by
  k_with_none
  k_with "my_enter" => (refine' enterL ?k1 ?k2 ?k3 ?k4 ?k5 ?kA ?kF ?kK ?k6 ?k7 ?k8 ?k9 ?kB ?_ ?c2 ?c3 ?c4 ?c5; (case kA => exact rfl); (case kF => exact rfl); (case kK => assumption); (case k1 => k_asm); (case k2 => k_asm); (case k3 => k_asm); (case k4 => k_asm); (case k5 => k_asm); (case k6 => k_is); (case k7 => k_is); (case k8 => k_room); (case k9 => exact BindsTo.of_eq rfl); (case c5 => decide); (case kB => exact locs rfl); (case c2 => exact rfl); (case c3 => exact rfl); (case c4 => exact rfl); k_whole; intro g' L' h' hg' FG' F' N' B' X' T'; (try (refine anyTok ?_; intro tkz)); (try dsimp only); (let mz := frMap F'; have Fz : Fr _ _ _ mz := F'); (try k_lift B'); (try k_fold))
  k_with "my_use" => ((case k1 => k_asm); (case k2 => k_asm); (case k3 => k_asm); (case k4 => first | exact News.nil | k_asm); (case k5 => k_asm); (case kK => first | exact rfl | assumption); (case kp => first | trivial | assumption | exact IsetAt.keep (Fr.keep (by k_asm)) (by with_reducible assumption) | exact OpsAt.keep (Fr.keep (by k_asm)) (by with_reducible assumption)); (case kd => first | k_room | ktr_room); (case ku => ktr_units); (case k9 => k_asm))
  k_with "my_clr" => ((repeat (with_reducible rename Fr _ _ _ _ => z9; clear z9)); (repeat (with_reducible rename News _ _ _ _ => z9; clear z9)); (repeat (with_reducible rename Top _ _ _ _ _ _ => z9; clear z9)); (repeat (with_reducible rename Below _ _ _ _ => z9; clear z9)); (repeat (with_reducible rename Heap.StaysIn _ _ => z9; clear z9)); (repeat (with_reducible rename Frag.In _ _ => z9; clear z9)))
  k_with "my_next" => (refine' FPost.next ?_ ?F ?N ?hs; (case F => k_asm); (case N => k_asm); (case hs => lcg_sub))
  k_with "my_endH" => (rename (∀ (b : Addr) (o : Obj), _ → ¬ _ → _) => hg9; refine endH (by assumption) hg9 (by assumption) ?_)
  k_with "my_t3" => (refine ⟨_, rfl, IsT3.of_eq ?_ (IsT3.of_news (by assumption) (by k_mem))⟩)
  k_with "my_if" => ((repeat (with_reducible rename Fr _ _ _ _ => z9; clear z9)); (repeat (with_reducible rename News _ _ _ _ => z9; clear z9)); (repeat (with_reducible rename Top _ _ _ _ _ _ => z9; clear z9)); (repeat (with_reducible rename Below _ _ _ _ => z9; clear z9)); (repeat (with_reducible rename Heap.StaysIn _ _ => z9; clear z9)); (repeat (with_reducible first | (refine pos_eq (by assumption) ?_) | (refine neg_eqB (by assumption) ?_) | (refine neg_eq (by assumption) ?_))); try rfl)
  k_with "my_end1" => (rename (∀ (b : Addr) (o : Obj), _ → ¬ _ → _) => hg9; refine end1 (by assumption) hg9 (by first | exact (fun _ hp => absurd hp List.not_mem_nil) | assumption) (by assumption) (by assumption) (by first | exact (fun _ hp => absurd hp List.not_mem_nil) | k_all) (by k_mem) (by first | exact (fun _ hp => absurd hp List.not_mem_nil) | k_all) ?_)
  k_with "my_end0" => (rename (∀ (b : Addr) (o : Obj), _ → ¬ _ → _) => hg9; refine end0 (by assumption) hg9 (by first | exact (fun _ hp => absurd hp List.not_mem_nil) | assumption) (by assumption) (by assumption) (by first | exact (fun _ hp => absurd hp List.not_mem_nil) | k_all) ?_)
  trivial
local macro_rules | `(tactic| k_room) => `(tactic| ((try simp only [depth_under_make, depth_under_kw, depth_in1, depth_deeper]); (try dsimp only [ktrTop]); omega))
local macro_rules | `(tactic| k_inst) => `(tactic| (refine' instAt_base ?F ?h1 ?h2; (case F => k_asm); (case h1 => with_reducible assumption); (case h2 => with_reducible assumption)))
-- a test that the path has decided
def plain_d : List (Str × Str) := [(Str.ofString "sal", Str.ofString "shl"), (Str.ofString "cmovc", Str.ofString "cmovb"), (Str.ofString "cmovnae", Str.ofString "cmovb"), (Str.ofString "setc", Str.ofString "setb"), (Str.ofString "setnae", Str.ofString "setb"), (Str.ofString "loopz", Str.ofString "loope")]
def plainF (x : Str) : Str := (lk x plain_d).getD x
theorem plain_lookup (x : Str) (t1 t2 t3 t4 t5 t6 t7 t8 t9 t10 t11 t12 : Tok) :
    (Spec.lookup (.str x) (strData [(.str (Str.ofString "sal") t1, .str (Str.ofString "shl") t2), (.str (Str.ofString "cmovc") t3, .str (Str.ofString "cmovb") t4), (.str (Str.ofString "cmovnae") t5, .str (Str.ofString "cmovb") t6), (.str (Str.ofString "setc") t7, .str (Str.ofString "setb") t8), (.str (Str.ofString "setnae") t9, .str (Str.ofString "setb") t10), (.str (Str.ofString "loopz") t11, .str (Str.ofString "loope") t12)])).getD (.str x) = .str (plainF x) := by
  show (Spec.lookup (.str x) (plain_d.map fun p => (PyData.str p.1, PyData.str p.2))).getD (.str x) = _
  rw [lookup_lk, plainF]
  cases lk x plain_d <;> rfl
theorem law_plain (w : World) (mean mg mb) (x : Str) (t : Tok) : FSpec 2 w mean mg mb 494 [] [.str x t] (fun _ => True) (fun v own => own = [] ∧ ∃ t', v = .str (plainF x) t') := by
  unfold FSpec TopP
  k_fill
  intro dp un gd cn cs a ccd cl outer A₀ base h₀ L m s Q E B F X N T hk hP hdp hu hret
  refine wpAny_call ?_
  k_dflt (walk_at "my_enter")
  (repeat' (first | (k_unfold; (try dsimp only)) | (k_end; wrow_close) | ((try dsimp only); (first | (with_reducible show wpAny _ _ (exec _ _) _ _ _); (try k_fold); (try (with_reducible rename News _ _ _ _ => zN; dsimp only at zN)) | skip); walk1) | walk1 | (leave1; walk_say "STEP leave1"; try dsimp only) | fail "no step"))
  (with_reducible rename PyProof.V.Flat _ _ => hv)
  rw [plain_lookup] at hv
  obtain ⟨t', rfl⟩ := hv.str_inv
  walk_at "my_end0"
  exact ⟨rfl, _, rfl⟩
end

section
open PySem PySem.W PySem.Calls PySem.Spec PyProof.Rows
example : True := by
  w_top off
  k_with_none
  trivial
local macro_rules | `(tactic| walk_at "subscriptTail") => `(tactic| k_extra "z subscriptTail")
local macro_rules | `(tactic| walk_at "call builtin:dict.get") => `(tactic| k_extra "z call builtin:dict.get")
example : True := by
  k_with_none
  k_with "my_enter" => (refine' enterL ?k1 ?k2 ?k3 ?k4 ?k5 ?kA ?kF ?kK ?k6 ?k7 ?k8 ?k9 ?kB ?_ ?c2 ?c3 ?c4 ?c5; (case kA => exact rfl); (case kF => exact rfl); (case kK => assumption); (case k1 => k_asm); (case k2 => k_asm); (case k3 => k_asm); (case k4 => k_asm); (case k5 => k_asm); (case k6 => k_is); (case k7 => k_is); (case k8 => k_room); (case k9 => exact BindsTo.of_eq rfl); (case c5 => decide); (case kB => exact locs rfl); (case c2 => exact rfl); (case c3 => exact rfl); (case c4 => exact rfl); k_whole; intro g' L' h' hg' FG' F' N' B' X' T'; (try (refine anyTok ?_; intro tkz)); (try dsimp only); (let mz := frMap F'; have Fz : Fr _ _ _ mz := F'); (try k_lift B'); (try k_fold))
  k_with "my_use" => ((case k1 => k_asm); (case k2 => k_asm); (case k3 => k_asm); (case k4 => first | exact News.nil | k_asm); (case k5 => k_asm); (case kK => first | exact rfl | assumption); (case kp => first | trivial | assumption | exact IsetAt.keep (Fr.keep (by k_asm)) (by with_reducible assumption) | exact OpsAt.keep (Fr.keep (by k_asm)) (by with_reducible assumption)); (case kd => first | k_room | ktr_room); (case ku => ktr_units); (case k9 => k_asm))
  k_with "my_clr" => ((repeat (with_reducible rename Fr _ _ _ _ => z9; clear z9)); (repeat (with_reducible rename News _ _ _ _ => z9; clear z9)); (repeat (with_reducible rename Top _ _ _ _ _ _ => z9; clear z9)); (repeat (with_reducible rename Below _ _ _ _ => z9; clear z9)); (repeat (with_reducible rename Heap.StaysIn _ _ => z9; clear z9)); (repeat (with_reducible rename Frag.In _ _ => z9; clear z9)))
  k_with "my_next" => (refine' FPost.next ?_ ?F ?N ?hs; (case F => k_asm); (case N => k_asm); (case hs => lcg_sub))
  k_with "my_endH" => (rename (∀ (b : Addr) (o : Obj), _ → ¬ _ → _) => hg9; refine endH (by assumption) hg9 (by assumption) ?_)
  k_with "my_t3" => (refine ⟨_, rfl, IsT3.of_eq ?_ (IsT3.of_news (by assumption) (by k_mem))⟩)
  k_with "my_if" => ((repeat (with_reducible rename Fr _ _ _ _ => z9; clear z9)); (repeat (with_reducible rename News _ _ _ _ => z9; clear z9)); (repeat (with_reducible rename Top _ _ _ _ _ _ => z9; clear z9)); (repeat (with_reducible rename Below _ _ _ _ => z9; clear z9)); (repeat (with_reducible rename Heap.StaysIn _ _ => z9; clear z9)); (repeat (with_reducible first | (refine pos_eq (by assumption) ?_) | (refine neg_eqB (by assumption) ?_) | (refine neg_eq (by assumption) ?_))); try rfl)
  k_with "my_end1" => (rename (∀ (b : Addr) (o : Obj), _ → ¬ _ → _) => hg9; refine end1 (by assumption) hg9 (by first | exact (fun _ hp => absurd hp List.not_mem_nil) | assumption) (by assumption) (by assumption) (by first | exact (fun _ hp => absurd hp List.not_mem_nil) | k_all) (by k_mem) (by first | exact (fun _ hp => absurd hp List.not_mem_nil) | k_all) ?_)
  k_with "my_end0" => (rename (∀ (b : Addr) (o : Obj), _ → ¬ _ → _) => hg9; refine end0 (by assumption) hg9 (by first | exact (fun _ hp => absurd hp List.not_mem_nil) | assumption) (by assumption) (by assumption) (by first | exact (fun _ hp => absurd hp List.not_mem_nil) | k_all) ?_)
  k_with "z subscriptTail" => (k_here; (with_reducible show wpAny _ _ (subscriptTail _ _ (Value.ref _) (Value.str _ _)) _ _ _); k_dflt (refine' item_bitsP ?k1 ?k2 ?_; (case k1 => k_tabat); (case k2 => with_reducible assumption)); intro t9; (try dsimp only))
  k_with "z call builtin:dict.get" => (k_here; k_dflt (refine' get_bits ?k1 ?_; (case k1 => k_tabat)); intro t9; (try dsimp only))
  k_with "z subscriptTail" => (k_here; (with_reducible show wpAny _ _ (subscriptTail _ _ (Value.ref _) (Value.str _ _)) _ _ _); k_dflt (refine' item_bits ?k1 ?k2 ?_; (case k1 => k_tabat); (case k2 => assumption)); intro t9; (try dsimp only))
  k_with "z subscriptTail" => (k_here; (with_reducible show wpAny _ _ (subscriptTail _ _ (Value.str _ _) (Value.int 4 _)) _ _ _); k_dflt (refine' item_str4 ?k2 ?_; (case k2 => assumption)); (try dsimp only))
  k_with "my_k3" => (refine ⟨_, rfl, IsT3.of_eq ?_ (IsT3.of_K (K := top.hd.heap_39 _) (Frag.In.keeps (by assumption) (Fr.keep (by assumption))) (by k_dflt k_is))⟩)
  trivial
local macro_rules | `(tactic| k_room) => `(tactic| ((try simp only [depth_under_make, depth_under_kw, depth_in1, depth_deeper]); (try dsimp only [ktrTop]); omega))
local macro_rules | `(tactic| k_inst) => `(tactic| (refine' instAt_base ?F ?h1 ?h2; (case F => k_asm); (case h1 => with_reducible assumption); (case h2 => with_reducible assumption)))
-- a test that the path has decided
def lwideF (x : Str) : Str × Int × Int :=
  if (x == Str.ofString "movslq") = true then (Str.ofString "movsxd", 64, 32) else
  if ([Str.ofString "movz", Str.ofString "movs"].any fun y => y == Txt.slice x none (some 4)) = true then
    if ([Str.ofString "b", Str.ofString "w"].any fun y => y == Txt.slice x (some 4) (some 5)) = true then
      if (x == Str.ofString "movz" ++ Txt.slice x (some 4) (some 5)) = true then (Str.ofString "movzx", 0, sizeF (Txt.slice x (some 4) (some 5))) else
      if (x.length : Int) = 6 then
        if sizeF (Txt.slice x (some 4) (some 5)) < sizeF (Txt.item x 5) then (Str.ofString "mov" ++ Txt.item x 3 ++ Str.ofString "x", sizeF (Txt.item x 5), sizeF (Txt.slice x (some 4) (some 5))) else (Str.ofString "", 0, 0)
      else (Str.ofString "", 0, 0)
    else (Str.ofString "", 0, 0)
  else (Str.ofString "", 0, 0)
theorem law_wide (w : World) (mean mg mb) (x : Str) (t : Tok) (hx : x.length ≤ 90) : FSpecH 3 w mean mg mb 487 [.str x t] (fun _ => True) (fun h v => ∃ q, v = .ref q ∧ IsT3 h q (lwideF x)) := by
  unfold FSpecH TopP
  k_fill
  intro dp un gd cn cs a ccd cl outer A₀ base h₀ L m s Q E B F X N T hk hP hdp hu hret
  refine wpAny_call ?_
  k_dflt (walk_at "my_enter")
  (repeat' (first | (k_unfold; (try dsimp only)) | (k_end; wrow_close) | ((try dsimp only); (first | (with_reducible show wpAny _ _ (exec _ _) _ _ _); (try k_fold); (try (with_reducible rename News _ _ _ _ => zN; dsimp only at zN)) | skip); walk1) | walk1 | (leave1; walk_say "STEP leave1"; try dsimp only) | fail "no step"))
  all_goals first
    | (walk_at "my_endH"; (walk_at "my_t3"); unfold lwideF; (walk_at "my_if"); done)
    | (walk_at "my_endH"; (walk_at "my_k3"); unfold lwideF; (walk_at "my_if"); done)
    | fail "left"
end

section
open PySem PySem.W PySem.Calls PySem.Spec PyProof.Rows
example : True := by
  w_top off
  k_with_none
  trivial
example : True := by
  k_with_none
  k_with "my_enter" => (refine' enterL ?k1 ?k2 ?k3 ?k4 ?k5 ?kA ?kF ?kK ?k6 ?k7 ?k8 ?k9 ?kB ?_ ?c2 ?c3 ?c4 ?c5; (case kA => exact rfl); (case kF => exact rfl); (case kK => assumption); (case k1 => k_asm); (case k2 => k_asm); (case k3 => k_asm); (case k4 => k_asm); (case k5 => k_asm); (case k6 => k_is); (case k7 => k_is); (case k8 => k_room); (case k9 => exact BindsTo.of_eq rfl); (case c5 => decide); (case kB => exact locs rfl); (case c2 => exact rfl); (case c3 => exact rfl); (case c4 => exact rfl); k_whole; intro g' L' h' hg' FG' F' N' B' X' T'; (try (refine anyTok ?_; intro tkz)); (try dsimp only); (let mz := frMap F'; have Fz : Fr _ _ _ mz := F'); (try k_lift B'); (try k_fold))
  k_with "my_use" => ((case k1 => k_asm); (case k2 => k_asm); (case k3 => k_asm); (case k4 => first | exact News.nil | k_asm); (case k5 => k_asm); (case kK => first | exact rfl | assumption); (case kp => first | trivial | assumption | exact IsetAt.keep (Fr.keep (by k_asm)) (by with_reducible assumption) | exact OpsAt.keep (Fr.keep (by k_asm)) (by with_reducible assumption)); (case kd => first | k_room | ktr_room); (case ku => ktr_units); (case k9 => k_asm))
  k_with "my_clr" => ((repeat (with_reducible rename Fr _ _ _ _ => z9; clear z9)); (repeat (with_reducible rename News _ _ _ _ => z9; clear z9)); (repeat (with_reducible rename Top _ _ _ _ _ _ => z9; clear z9)); (repeat (with_reducible rename Below _ _ _ _ => z9; clear z9)); (repeat (with_reducible rename Heap.StaysIn _ _ => z9; clear z9)); (repeat (with_reducible rename Frag.In _ _ => z9; clear z9)))
  k_with "my_next" => (refine' FPost.next ?_ ?F ?N ?hs; (case F => k_asm); (case N => k_asm); (case hs => lcg_sub))
  k_with "my_endH" => (rename (∀ (b : Addr) (o : Obj), _ → ¬ _ → _) => hg9; refine endH (by assumption) hg9 (by assumption) ?_)
  k_with "my_t3" => (refine ⟨_, rfl, IsT3.of_eq ?_ (IsT3.of_news (by assumption) (by k_mem))⟩)
  k_with "my_if" => ((repeat (with_reducible rename Fr _ _ _ _ => z9; clear z9)); (repeat (with_reducible rename News _ _ _ _ => z9; clear z9)); (repeat (with_reducible rename Top _ _ _ _ _ _ => z9; clear z9)); (repeat (with_reducible rename Below _ _ _ _ => z9; clear z9)); (repeat (with_reducible rename Heap.StaysIn _ _ => z9; clear z9)); (repeat (with_reducible first | (refine pos_eq (by assumption) ?_) | (refine neg_eqB (by assumption) ?_) | (refine neg_eq (by assumption) ?_))); try rfl)
  k_with "my_end1" => (rename (∀ (b : Addr) (o : Obj), _ → ¬ _ → _) => hg9; refine end1 (by assumption) hg9 (by first | exact (fun _ hp => absurd hp List.not_mem_nil) | assumption) (by assumption) (by assumption) (by first | exact (fun _ hp => absurd hp List.not_mem_nil) | k_all) (by k_mem) (by first | exact (fun _ hp => absurd hp List.not_mem_nil) | k_all) ?_)
  k_with "my_end0" => (rename (∀ (b : Addr) (o : Obj), _ → ¬ _ → _) => hg9; refine end0 (by assumption) hg9 (by first | exact (fun _ hp => absurd hp List.not_mem_nil) | assumption) (by assumption) (by assumption) (by first | exact (fun _ hp => absurd hp List.not_mem_nil) | k_all) ?_)
  trivial
local macro_rules | `(tactic| k_room) => `(tactic| ((try simp only [depth_under_make, depth_under_kw, depth_in1, depth_deeper]); (try dsimp only [ktrTop]); omega))
local macro_rules | `(tactic| k_inst) => `(tactic| (refine' instAt_base ?F ?h1 ?h2; (case F => k_asm); (case h1 => with_reducible assumption); (case h2 => with_reducible assumption)))
-- a test that the path has decided
def nothingT : Str × Int × Int := (Str.ofString "", 0, 0)
def d1F (x : Str) (sort : Nat) : Bool := decide ((sort : Int) = 0) && (lk x alone_d).isSome
def d2F (x : Str) (sort : Nat) : Bool := decide (0 < (sort : Int)) && (([Str.ofString "movabs", Str.ofString "movabsq"].any fun y => y == x) || ((x == Str.ofString "movq") && decide ((sort : Int) < 3)))
def d3F (x : Str) (sort : Nat) : Bool := decide (1 < (sort : Int)) && !decide (lwideF x = (Str.ofString "", 0, 0))
def fitD (sz : Int) (r : FR) : Bool := (r.size == sz) && (decide (0 < r.kinds.length) && !(r.kinds.any fun k => Txt.item k 0 == Str.ofString "x"))
def retD (rows : List FR) (x : Str) (sz : Int) : Str × Int × Int :=
  if sz = 64 then
    if ([Str.ofString "ret", Str.ofString "leave"].any fun y => y == x) = true then (if hasF rows x = true then (x, 64, 0) else (Str.ofString "", 0, 0)) else (Str.ofString "", 0, 0)
  else (Str.ofString "", 0, 0)
def tailD (rows : List FR) (x : Str) (sz : Int) (sort : Nat) : Str × Int × Int :=
  if (x == Str.ofString "ret") = true then retD rows x sz else if (sort : Int) = 0 then retD rows x sz else
  if sz = 0 then (Str.ofString "", 0, 0) else if ([Str.ofString "movzx", Str.ofString "movsx", Str.ofString "movsxd"].any fun y => y == x) = true then (Str.ofString "", 0, 0) else
  if ((rows.filter fun r => r.name == x).any (fitD sz)) = true then (x, sz, 0) else (Str.ofString "", 0, 0)
def rdT {h : Heap} {vs : List Value} {rows : List FR} (_ : RowsAt h vs rows) (y : Str) : Value → Bool := fun v => (rowRead h v).name == y
def fitT {h : Heap} {vs : List Value} {rows : List FR} (_ : RowsAt h vs rows) (sz : Int) : Value → Bool := fun v => fitD sz (rowRead h v)
theorem filter_rows {h : Heap} {vs : List Value} {rows : List FR} (x : RowsAt h vs rows) (p : FR → Bool) : ((vs.filter fun v => p (rowRead h v)).toArray.size == 0) = !(rows.any p) := by
  induction x with
  | nil => rfl
  | cons a b ih =>
    rename_i q r vs rs
    rw [List.filter_cons, List.any_cons, a.read]
    cases hp : p r with
    | true => simp
    | false => simpa using ih
theorem rdT_has {h : Heap} {vs : List Value} {rows : List FR} (x : RowsAt h vs rows) (y : Str) : ((vs.filter (rdT x y)).toArray.size == 0) = !(hasF rows y) := filter_rows x fun r => r.name == y
theorem ifhas {α : Type} {rows : List FR} {y : Str} {b : Bool} {A B : α} (e : b = !(hasF rows y)) : (if hasF rows y = true then A else B) = if b = true then B else A := by
  subst e; cases hasF rows y <;> rfl
theorem filter2_rows {h : Heap} {vs : List Value} {rows : List FR} (x : RowsAt h vs rows) (y : Str) (sz : Int) : (((vs.filter (rdT x y)).filter (fitT x sz)).toArray.size == 0) = !((rows.filter fun r => r.name == y).any (fitD sz)) := by
  rw [List.filter_filter, List.any_filter]
  exact (filter_rows x fun r => fitD sz r && (r.name == y)).trans (by congr 2; funext r; exact Bool.and_comm _ _)
theorem ifany {α : Type} {a b : Bool} {A B : α} (e : b = !a) : (if a = true then A else B) = if b = true then B else A := by
  subst e; cases a <;> rfl
def xT : Value → Bool
  | .str k _ => Txt.item k 0 == Str.ofString "x"
  | _ => false
theorem xT_none {ks : List Value} {ss : List Str} (x : StrsAre ks ss) : ((ks.filter xT).toArray.size == 0) = !(ss.any fun k => Txt.item k 0 == Str.ofString "x") := by
  induction x with
  | nil => rfl
  | cons y t r ih =>
    rename_i ys ss
    rw [List.filter_cons, List.any_cons]
    show ((if (Txt.item y 0 == Str.ofString "x") = true then _ else _ : List Value).toArray.size == 0) = _
    cases hp : Txt.item y 0 == Str.ofString "x" with
    | true => simp
    | false => simpa using ih
theorem fitT_no {h : Heap} {vs : List Value} {rows : List FR} (x : RowsAt h vs rows) {sz : Int} {v : Value} (e : (rowRead h v).size ≠ sz) : false = fitT x sz v := by
  show false = ((_ == _) && _)
  rw [beq_false_of_ne e, Bool.false_and]
theorem fitT_no0 {h : Heap} {vs : List Value} {rows : List FR} (x : RowsAt h vs rows) {sz : Int} {v : Value} {ks : List Value} (rs : StrsAre ks (rowRead h v).kinds) (e : (ks.toArray.size == 0) = true) : false = fitT x sz v := by
  have h0 : (rowRead h v).kinds.length = 0 := by rw [← StrsAre.len rs]; simpa using e
  show false = (_ && (decide _ && _))
  rw [h0]; simp
theorem fitT_yes {h : Heap} {vs : List Value} {rows : List FR} (x : RowsAt h vs rows) {sz : Int} {v : Value} {ks : List Value} {b : Bool} (e1 : (rowRead h v).size = sz) (rs : StrsAre ks (rowRead h v).kinds) (e : (ks.toArray.size == 0) = false) (e2 : ((ks.filter xT).toArray.size == 0) = b) : b = fitT x sz v := by
  have h0 : 0 < (rowRead h v).kinds.length := by rw [← StrsAre.len rs]; rcases ks with _ | _ <;> simp_all
  show b = (_ && (decide _ && _))
  rw [← e2, xT_none rs, beq_iff_eq.mpr e1, decide_eq_true h0, Bool.true_and, Bool.true_and]
def Stop (P : Prop) : Prop := P
theorem stopAt {P : Prop} (h : Stop P) : P := h
theorem StrsAre.memS {ys : List Value} {ss : List Str} (x : StrsAre ys ss) {v : Value} (hv : v ∈ ys) : ∃ (k : Str) (t : Tok), v = .str k t ∧ k ∈ ss := by
  induction x with
  | nil => cases hv
  | cons y t r ih =>
    rcases List.mem_cons.mp hv with rfl | hv
    · exact ⟨_, _, rfl, .head _⟩
    · obtain ⟨k, t', e, m⟩ := ih hv
      exact ⟨k, t', e, .tail _ m⟩
theorem item_str0 {prog : Program} {w : World} {A : Around} {E : Value → Shared → Prop} {s : Shared} {value slice : Expr} {x : Str} {t : Tok} {u : Tok} {Q : Value → Shared → Prop} (hlen : 1 ≤ x.length) (h : Q (.str (Txt.item x 0) s.toks) { s with toks := s.toks + 1 })
    (hs : subscripted slice false (.str x t) (.int 0 u) = operate [.str x t, .int 0 u] (getItem (.str x t) (.int 0 u)) := by with_unfolding_all rfl)
    (ht : ∀ r, letTemporaryGo value (.str x t) r = pure () := by intro _; with_unfolding_all rfl) :
    wpAny (model prog w) A (subscriptTail value slice (.str x t) (.int 0 u)) Q E s := by
  refine item_str (by decide) (by omega) (by omega) (fun _ => ?_) hs ht
  exact h
def dueF (rows : List FR) (x : Str) (sort : Nat) : Str × Int × Int :=
  if d1F x sort = true then ((lk x alone_d).getD Str.empty, 0, 0) else if d2F x sort = true then (Str.ofString "mov", 64, 0) else if d3F x sort = true then lwideF x else
  if hasF rows (plainF x) = true then (plainF x, 0, 0) else tailD rows (plainF (Txt.slice x none (some (-1)))) (sizeF (Txt.slice x (some (-1)) none)) sort
end

section
open PySem PySem.W PySem.Calls PySem.Spec PyProof.Rows
example : True := by
  w_top off
  k_with_none
  trivial
local macro_rules | `(tactic| walk_at "call ref") => `(tactic| k_extra "z call ref")
local macro_rules | `(tactic| walk_at "subscriptTail") => `(tactic| k_extra "z subscriptTail")
local macro_rules | `(tactic| walk_at "call builtin:dict.get") => `(tactic| k_extra "z call builtin:dict.get")
local macro_rules | `(tactic| walk_at "CompSrcT") => `(tactic| k_extra "z CompSrcT")
local macro_rules | `(tactic| walk_at "CompSrc") => `(tactic| k_extra "z CompSrc")
local macro_rules | `(tactic| walk_at "compareOp NotEq ref ref") => `(tactic| k_extra "z compareOp NotEq ref ref")
local macro_rules | `(tactic| walk_at "compareOp In str ref") => `(tactic| k_extra "z compareOp In str ref")
local macro_rules | `(tactic| walk_at "eval ListComp") => `(tactic| k_extra "z eval ListComp")
local macro_rules | `(tactic| walk_at "compareOp Eq ref ref") => `(tactic| k_extra "z compareOp Eq ref ref")
example : True := by
  k_with_none
  k_with "my_enter" => (refine' enterL ?k1 ?k2 ?k3 ?k4 ?k5 ?kA ?kF ?kK ?k6 ?k7 ?k8 ?k9 ?kB ?_ ?c2 ?c3 ?c4 ?c5; (case kA => exact rfl); (case kF => exact rfl); (case kK => assumption); (case k1 => k_asm); (case k2 => k_asm); (case k3 => k_asm); (case k4 => k_asm); (case k5 => k_asm); (case k6 => k_is); (case k7 => k_is); (case k8 => k_room); (case k9 => exact BindsTo.of_eq rfl); (case c5 => decide); (case kB => exact locs rfl); (case c2 => exact rfl); (case c3 => exact rfl); (case c4 => exact rfl); k_whole; intro g' L' h' hg' FG' F' N' B' X' T'; (try (refine anyTok ?_; intro tkz)); (try dsimp only); (let mz := frMap F'; have Fz : Fr _ _ _ mz := F'); (try k_lift B'); (try k_fold))
  k_with "my_use" => ((case k1 => k_asm); (case k2 => k_asm); (case k3 => k_asm); (case k4 => first | exact News.nil | k_asm); (case k5 => k_asm); (case kK => first | exact rfl | assumption); (case kp => first | trivial | assumption | exact IsetAt.keep (Fr.keep (by k_asm)) (by with_reducible assumption) | exact OpsAt.keep (Fr.keep (by k_asm)) (by with_reducible assumption)); (case kd => first | k_room | ktr_room); (case ku => ktr_units); (case k9 => k_asm))
  k_with "my_clr" => ((repeat (with_reducible rename Fr _ _ _ _ => z9; clear z9)); (repeat (with_reducible rename News _ _ _ _ => z9; clear z9)); (repeat (with_reducible rename Top _ _ _ _ _ _ => z9; clear z9)); (repeat (with_reducible rename Below _ _ _ _ => z9; clear z9)); (repeat (with_reducible rename Heap.StaysIn _ _ => z9; clear z9)); (repeat (with_reducible rename Frag.In _ _ => z9; clear z9)))
  k_with "my_next" => (refine' FPost.next ?_ ?F ?N ?hs; (case F => k_asm); (case N => k_asm); (case hs => lcg_sub))
  k_with "my_endH" => (rename (∀ (b : Addr) (o : Obj), _ → ¬ _ → _) => hg9; refine endH (by assumption) hg9 (by assumption) ?_)
  k_with "my_t3" => (refine ⟨_, rfl, IsT3.of_eq ?_ (IsT3.of_news (by assumption) (by k_mem))⟩)
  k_with "my_if" => ((repeat (with_reducible rename Fr _ _ _ _ => z9; clear z9)); (repeat (with_reducible rename News _ _ _ _ => z9; clear z9)); (repeat (with_reducible rename Top _ _ _ _ _ _ => z9; clear z9)); (repeat (with_reducible rename Below _ _ _ _ => z9; clear z9)); (repeat (with_reducible rename Heap.StaysIn _ _ => z9; clear z9)); (repeat (with_reducible first | (refine pos_eq (by assumption) ?_) | (refine neg_eqB (by assumption) ?_) | (refine neg_eq (by assumption) ?_))); try rfl)
  k_with "my_end1" => (rename (∀ (b : Addr) (o : Obj), _ → ¬ _ → _) => hg9; refine end1 (by assumption) hg9 (by first | exact (fun _ hp => absurd hp List.not_mem_nil) | assumption) (by assumption) (by assumption) (by first | exact (fun _ hp => absurd hp List.not_mem_nil) | k_all) (by k_mem) (by first | exact (fun _ hp => absurd hp List.not_mem_nil) | k_all) ?_)
  k_with "my_end0" => (rename (∀ (b : Addr) (o : Obj), _ → ¬ _ → _) => hg9; refine end0 (by assumption) hg9 (by first | exact (fun _ hp => absurd hp List.not_mem_nil) | assumption) (by assumption) (by assumption) (by first | exact (fun _ hp => absurd hp List.not_mem_nil) | k_all) ?_)
  k_with "my_enterC" => (refine' enterLC ?k1 ?k2 ?k3 ?k4 ?k5 ?kA ?kF ?kK ?k6 ?k7 ?k8 ?k9 ?kB ?kD ?_ ?c2 ?c3 ?c4; (case kA => exact rfl); (case kF => exact rfl); (case kK => assumption); (case k1 => k_asm); (case k2 => k_asm); (case k3 => k_asm); (case k4 => k_asm); (case k5 => k_asm); (case k6 => k_is); (case k7 => k_is); (case k8 => k_room); (case k9 => exact BindsTo.of_eq rfl); (case kB => exact rfl); (case kD => decide +kernel); (case c2 => exact rfl); (case c3 => exact rfl); (case c4 => exact rfl); k_whole; intro g' L' h' tk' cells' hg' FG' F' N' Y' B' X' T' l1z; (try k_lt l1z); k_cells Y'; (try simp only [List.cons_append, List.nil_append] at N'); (try (refine anyTok ?_; intro tkz)); (try dsimp only); (let mz := frMap F'; have Fz : Fr _ _ _ mz := F'); (try k_lift B'); (try k_fold))
  k_with "z call ref" => (k_here; (with_reducible show wpAny _ _ (call (Value.ref 480) _) _ _ _); k_dflt (refine' useD (law_alone _ _ _ _) ?k1 ?k2 ?k3 ?k4 ?k5 ?kK ?kp ?kd ?ku ?k9 ?_); (walk_at "my_use"); k_whole; intro d9 o9 h9 tk9 td9 st9 F9 N9; (try dsimp only); (try k_fold))
  k_with "z call ref" => (k_here; (with_reducible show wpAny _ _ (call (Value.ref 494) [Value.str _ _]) _ _ _); k_dflt (refine' useS (law_plain _ _ _ _ _ _) ?k1 ?k2 ?k3 ?k4 ?k5 ?kK ?kp ?kd ?ku ?k9 ?_); (walk_at "my_use"); k_whole; intro t9 h9 tk9 st9 F9 N9; (try dsimp only); (try k_fold))
  k_with "z call ref" => (k_here; (with_reducible show wpAny _ _ (call (Value.ref 487) [Value.str _ _]) _ _ _); k_dflt (refine' useH (law_wide _ _ _ _ _ _ ?hx) ?k1 ?k2 ?k3 ?k4 ?k5 ?kK ?kp ?kd ?ku ?k9 ?_); (case hx => first | assumption | omega); (walk_at "my_use"); k_whole; intro v9 h9 tk9 r9 st9 F9 N9; obtain ⟨q9, e9, r9⟩ := r9; subst e9; (try dsimp only); (try k_fold))
  k_with "z subscriptTail" => (k_here; (with_reducible show wpAny _ _ (subscriptTail _ _ (Value.ref _) (Value.str _ _)) _ _ _); k_dflt (refine' item_bitsP ?k1 ?k2 ?_; (case k1 => k_tabat); (case k2 => with_reducible assumption)); intro t9; (try dsimp only))
  k_with "z call builtin:dict.get" => (k_here; k_dflt (refine' get_bits ?k1 ?_; (case k1 => k_tabat)); intro t9; (try dsimp only))
  k_with "z subscriptTail" => (k_here; (with_reducible show wpAny _ _ (subscriptTail _ _ (Value.ref _) (Value.str _ _)) _ _ _); k_dflt (refine' item_bits ?k1 ?k2 ?_; (case k1 => k_tabat); (case k2 => assumption)); intro t9; (try dsimp only))
  k_with "z subscriptTail" => (k_here; (with_reducible show wpAny _ _ (subscriptTail _ _ (Value.str _ _) (Value.int 4 _)) _ _ _); k_dflt (refine' item_str4 ?k2 ?_; (case k2 => assumption)); (try dsimp only))
  k_with "z CompSrcT" => (k_here; k_dflt (first | (refine LCt.CompSrcT.base (by rfl) (by k_asm) (by k_asm) (by with_reducible assumption) (by assumption) ?_; intro g') | (refine LCt.CompSrcT.ledger (by rfl) (by k_asm) (by k_asm) (by k_mem) (by assumption) ?_; intro g')))
  k_with "z CompSrc" => (k_here; k_dflt (refine LCg.CompSrc.base (by rfl) (by k_asm) (by k_asm) (by with_reducible assumption) (by assumption) ?_; intro g'))
  k_with "z compareOp NotEq ref ref" => (k_here; k_dflt (first | (refine' ne_t3 ?k1 ?k2 ?k3 ?_; (case k1 => first | assumption | exact IsT3.of_K (K := top.hd.heap_39 _) (Frag.In.keeps (by k_asm) (Fr.keep (by k_asm))) (by k_is)); (case k2 => first | assumption | exact IsT3.of_K (K := top.hd.heap_39 _) (Frag.In.keeps (by k_asm) (Fr.keep (by k_asm))) (by k_is)); (case k3 => ktr_units)) | (refine' ne_nilM ?k1 ?k2 ?k3 ?k4 ?_; (case k1 => k_asm); (case k2 => k_mem); (case k3 => k_mem); (case k4 => ktr_units))))
  k_with "z compareOp In str ref" => (k_here; (with_reducible rename TabS _ _ _ _ => tdX); k_dflt (refine' in_tabS ?k1 ?k2 ?k3 ?_; (case k3 => assumption); (case k1 => k_asm); (case k2 => k_mem)))
  k_with "z subscriptTail" => (k_here; (with_reducible rename TabS _ _ _ _ => tdX); (with_reducible show wpAny _ _ (subscriptTail _ _ (Value.ref _) (Value.str _ _)) _ _ _); k_dflt (refine' item_tabS ?k1 ?k2 ?k3 ?k4 ?k5 ?_; (case k3 => assumption); (case k1 => k_asm); (case k2 => k_mem); (case k4 => assumption); (case k5 => kernel_rfl)); intro t9 l9; (try dsimp only))
  k_with "my_bool" => ((walk_at "my_clr"); (try unfold d1F); (try unfold d2F); (try unfold d3F); (try dsimp only [nothingT]); simp only [*, Bool.and_false, Bool.and_true, Bool.true_and, Bool.false_and, Bool.or_true, Bool.true_or, Bool.false_or, Bool.or_false, Bool.not_true, Bool.not_false, decide_true, decide_false, Bool.and_self, eq_self])
  k_with "z eval ListComp" => (k_here; lct_look; with_reducible refine stopAt ?_)
  k_with "z subscriptTail" => (k_here; (with_reducible show wpAny _ _ (subscriptTail _ _ (Value.str _ _) (Value.int 0 _)) _ _ _); k_dflt (refine' item_str0 ?k2 ?_; (case k2 => assumption)); (try dsimp only))
  k_with "z compareOp Eq ref ref" => (k_here; k_dflt (refine' eq_nilM ?k1 ?k2 ?k3 ?k4 ?_; (case k1 => k_asm); (case k2 => k_mem); (case k3 => k_mem); (case k4 => ktr_units)))
  k_with "z compareOp NotEq ref ref" => (k_here; k_dflt (refine' ne_nilT ?k1 ?k2 ?k3 ?_; (case k1 => refine' IsTuple.keepF ?F ?x; (case F => k_asm); (case x => with_reducible assumption)); (case k2 => refine' IsTuple.ofN ?N ?hm; (case N => k_asm); (case hm => k_mem)); (case k3 => ktr_units)))
  k_with "z compareOp In str ref" => (k_here; k_dflt (refine' in_strsL ?k1 ?k2 ?k3 ?_; (case k1 => k_asm); (case k2 => k_mem); (case k3 => assumption)))
  k_with "my_nextL" => (refine' cutNextL ?_ ?F ?N ?hs; (case F => k_asm); (case N => k_asm); (case hs => lcg_sub))
  k_with "my_ret3" => ((try dsimp only); (try (unfold CutPost; dsimp only)); k_steps; (walk_at "my_endH"); first | (walk_at "my_t3") | (walk_at "my_k3"))
  k_with "my_k3" => (refine ⟨_, rfl, IsT3.of_eq ?_ (IsT3.of_K (K := top.hd.heap_39 _) (Frag.In.keeps (by assumption) (Fr.keep (by assumption))) (by k_dflt k_is))⟩)
  trivial
local macro_rules | `(tactic| k_room) => `(tactic| ((try simp only [depth_under_make, depth_under_kw, depth_in1, depth_deeper]); (try dsimp only [ktrTop]); omega))
local macro_rules | `(tactic| k_inst) => `(tactic| (refine' instAt_base ?F ?h1 ?h2; (case F => k_asm); (case h1 => with_reducible assumption); (case h2 => with_reducible assumption)))
-- a test that the path has decided
theorem law_due (w : World) (mean mg mb) (rl : Addr) (vs : List Value) (rows : List FR) (x : Str) (t : Tok) (sort : Nat) (u : Tok) (hx : x.length ≤ 90) (hs : sort ≤ 3) (hn : rows.length ≤ 16) (hks : ∀ r ∈ rows, r.kinds.length ≤ 2 ∧ ∀ k ∈ r.kinds, 1 ≤ k.length ∧ k.length ≤ 100) :
    FSpecH 5 w mean mg mb 499 [.ref rl, .str x t, .int (sort : Int) u] (fun h => h.IsList rl vs.toArray ∧ RowsAt h vs rows) (fun h v => ∃ q, v = .ref q ∧ IsT3 h q (dueF rows x sort)) := by
  unfold FSpecH TopP
  k_fill
  intro dp un gd cn cs a ccd cl outer A₀ base h₀ L m s Q E B F X N T hk hP hdp hu hret
  refine wpAny_call ?_
  k_dflt (walk_at "my_enterC")
  rename (∀ (b : Addr) (o : Obj), _ → ¬ _ → _) => hg9
  have hR := hP.2.keep (toG hg9)
  have hl := stays_list (toG hg9) hP.1
  have hsz : vs.toArray.size ≤ sizeLine := by rw [List.size_toArray, hR.length, sizeLine_eq]; omega
  refine cutL (by k_asm) (by k_asm) (d1F x sort = false) ?h1 ?t1
  case h1 =>
    (repeat' ((fail_if_success (with_reducible show LCt.CompRestT _ _ _ _ _ _ _ _ _ _ _ _ _ _ _ _ _ _ _ _)); first | (k_unfold; (try dsimp only)) | (k_end; wrow_close) | ((try dsimp only); walk1) | walk1 | (leave1; walk_say "STEP leave1"; try dsimp only) | fail "no step"))
    all_goals first
      | ((walk_at "my_nextL"); (walk_at "my_bool"); done)
      | (have hc : d1F x sort = true := by (walk_at "my_bool")
         (walk_at "my_ret3")
         unfold dueF
         (walk_at "my_if"))
      | fail "left"
  case t1 =>
    intro ok1 h1 tk1 F1 N1
    refine cutL (by k_asm) (by k_asm) (d2F x sort = false) ?h2 ?t2
    case h2 =>
      (repeat' ((fail_if_success (with_reducible show LCt.CompRestT _ _ _ _ _ _ _ _ _ _ _ _ _ _ _ _ _ _ _ _)); first | (k_unfold; (try dsimp only)) | (k_end; wrow_close) | ((try dsimp only); walk1) | walk1 | (leave1; walk_say "STEP leave1"; try dsimp only) | fail "no step"))
      all_goals first
        | ((walk_at "my_nextL"); (walk_at "my_bool"); done)
        | (have hc : d2F x sort = true := by (walk_at "my_bool")
           (walk_at "my_ret3")
           unfold dueF
           (walk_at "my_if"))
        | fail "left"
    case t2 =>
      intro ok2 h2 tk2 F2 N2
      refine cutL (by k_asm) (by k_asm) (d3F x sort = false) ?h3 ?t3
      case h3 =>
        (repeat' ((fail_if_success (with_reducible show LCt.CompRestT _ _ _ _ _ _ _ _ _ _ _ _ _ _ _ _ _ _ _ _)); first | (k_unfold; (try dsimp only)) | (k_end; wrow_close) | ((try dsimp only); walk1) | walk1 | (leave1; walk_say "STEP leave1"; try dsimp only) | fail "no step"))
        all_goals first
          | ((walk_at "my_nextL"); (walk_at "my_bool"); done)
          | (have hc : d3F x sort = true := by (walk_at "my_bool")
             (try dsimp only); (try (unfold CutPost; dsimp only)); (repeat' ((fail_if_success (with_reducible show LCt.CompRestT _ _ _ _ _ _ _ _ _ _ _ _ _ _ _ _ _ _ _ _)); first | (k_unfold; (try dsimp only)) | (k_end; wrow_close) | ((try dsimp only); walk1) | walk1 | (leave1; walk_say "STEP leave1"; try dsimp only) | fail "no step")); (walk_at "my_endH")
             refine ⟨_, rfl, IsT3.of_eq ?_ (by assumption)⟩
             unfold dueF
             (walk_at "my_if"))
          | fail "left"
      case t3 =>
        intro ok3 h3 tk3 F3 N3
        refine cutL (by k_asm) (by k_asm) (hasF rows (plainF x) = false) ?h4 ?t4
        case h4 =>
          (repeat' ((fail_if_success (with_reducible show LCt.CompRestT _ _ _ _ _ _ _ _ _ _ _ _ _ _ _ _ _ _ _ _)); first | (k_unfold; (try dsimp only)) | (k_end; wrow_close) | ((try dsimp only); walk1) | walk1 | (leave1; walk_say "STEP leave1"; try dsimp only) | fail "no step"))
          refine comp_ind _ (fun i y => ∃ (r : FR) (t : Tok), rows[i]? = some r ∧ y = .str r.name t) (by first | exact Or.inl (by assumption) | trivial) ?turn ?fin
          case turn =>
            intro i v ys I oI C oC D m₂ h tk E' hi hv hC hx F N off ne
            have hv' : vs[i]? = some v := by simpa using hv
            obtain ⟨q, r, rfl, hr, hRow⟩ := RowsAt.at hR hv'
            obtain ⟨kt, y1, y2, ks, ra, rb, rs⟩ := hRow
            have bt := tup_base ra
            have bt2 := tupB ra
            obtain ⟨n1, n2, n3⟩ := ne
            (repeat' ((fail_if_success (with_reducible show LCt.CompRestT _ _ _ _ _ _ _ _ _ _ _ _ _ _ _ _ _ _ _ _)); first | (k_unfold; (try dsimp only)) | (k_end; wrow_close) | ((try dsimp only); walk1) | walk1 | (leave1; walk_say "STEP leave1"; try dsimp only) | fail "no step"))
            all_goals first
              | (refine TEnd.mk ?_ (by k_asm) (by k_asm) (by lcg_sub); exact ⟨_, _, hr, rfl⟩)
              | fail "left"
          case fin =>
            intro ys hl hy
            have hst := strs_of_at (hl.trans (by simpa using hR.length)) hy
            unfold LCg.FinE
            intro D h tk F N o1
            (try dsimp only)
            (repeat' ((fail_if_success (with_reducible show LCt.CompRestT _ _ _ _ _ _ _ _ _ _ _ _ _ _ _ _ _ _ _ _)); first | (k_unfold; (try dsimp only)) | (k_end; wrow_close) | ((try dsimp only); walk1) | walk1 | (leave1; walk_say "STEP leave1"; try dsimp only) | fail "no step"))
            all_goals first
              | ((walk_at "my_nextL"); (walk_at "my_clr"); first | (rw [← hasF_names]; assumption) | (rename (¬ _ = true) => hz; exact Bool.eq_false_iff.mpr (hasF_names ▸ hz)))
              | (have hc : hasF rows (plainF x) = true := by (walk_at "my_clr"); rw [← hasF_names]; assumption
                 (walk_at "my_ret3")
                 unfold dueF
                 (walk_at "my_if"))
              | fail "left"
        case t4 =>
          intro ok4 h4 tk4 F4 N4
          have e0 : dueF rows x sort = tailD rows (plainF (Txt.slice x none (some (-1)))) (sizeF (Txt.slice x (some (-1)) none)) sort := by
            unfold dueF; rw [if_neg (by rw [ok1]; exact Bool.false_ne_true), if_neg (by rw [ok2]; exact Bool.false_ne_true), if_neg (by rw [ok3]; exact Bool.false_ne_true), if_neg (by rw [ok4]; exact Bool.false_ne_true)]
          clear ok1 ok2 ok3 ok4
          (repeat' ((fail_if_success (with_reducible show LCt.CompRestT _ _ _ _ _ _ _ _ _ _ _ _ _ _ _ _ _ _ _ _)); first | (k_unfold; (try dsimp only)) | (k_end; wrow_close) | ((try dsimp only); walk1) | walk1 | (leave1; walk_say "STEP leave1"; try dsimp only) | fail "no step"))
          refine comp_filter (rdT hR (plainF (Txt.slice x none (some (-1))))) (by first | exact Or.inl (by assumption) | trivial) ?elt ?turn ?fin
          case elt =>
            intro v ys I oI C oC D m₂ h tk E' Q' hC hx F N hq
            exact LCgL.ld_own N (.tail _ (.head _)) hC hx (hq _)
          case turn =>
            intro v ys I oI C oC D m₂ h tk E' hv hC hx F N off ne
            obtain ⟨q, rfl, hRow, hmem⟩ := RowsAt.mem hR hv
            obtain ⟨kt, y1, y2, ks, ra, rb, rs⟩ := hRow
            have bt := tup_base ra
            have bt2 := tupB ra
            obtain ⟨n1, n2, n3⟩ := ne
            (repeat' ((fail_if_success (with_reducible show LCt.CompRestT _ _ _ _ _ _ _ _ _ _ _ _ _ _ _ _ _ _ _ _)); first | (k_unfold; (try dsimp only)) | (k_end; wrow_close) | ((try dsimp only); walk1) | walk1 | (leave1; walk_say "STEP leave1"; try dsimp only) | fail "no step"))
            all_goals first
              | (refine BEnd.mk ?_ (by k_asm) (by k_asm) (by lcg_sub); (walk_at "my_clr"); first | exact rfl | fail "left")
              | fail "left"
          case fin =>
            have hsf : (vs.filter (rdT hR (plainF (Txt.slice x none (some (-1)))))).toArray.size ≤ sizeLine := by
              have := List.length_filter_le (rdT hR (plainF (Txt.slice x none (some (-1))))) vs
              rw [List.size_toArray]; rw [List.size_toArray] at hsz; omega
            unfold LCg.FinA
            intro D h tk F N o1
            (try dsimp only)
            have hh := rdT_has hR (plainF (Txt.slice x none (some (-1))))
            (repeat' ((fail_if_success (with_reducible show LCt.CompRestT _ _ _ _ _ _ _ _ _ _ _ _ _ _ _ _ _ _ _ _)); first | (k_unfold; (try dsimp only)) | (k_end; wrow_close) | ((try dsimp only); walk1) | walk1 | (leave1; walk_say "STEP leave1"; try dsimp only) | fail "no step"))
            any_goals ((try dsimp only); (try (unfold FPost; dsimp only)); (walk_at "my_endH"); (first | (walk_at "my_k3") | (walk_at "my_t3")); rw [e0]; unfold tailD retD; rw [ifhas hh]; (walk_at "my_if"); done)
            all_goals (try (exfalso; walk_at "my_clr"; exact absurd ‹_› ‹_›))
            refine comp_filter (fitT hR (sizeF (Txt.slice x (some (-1)) none))) (by first | exact Or.inr ⟨_, by k_mem, rfl, _, rfl⟩ | trivial) ?elt2 ?turn2 ?fin2
            case elt2 =>
              intro v ys I oI C oC D m₂ h tk E' Q' hC hx F N hq
              exact LCgL.ld_own N (.tail _ (.head _)) hC hx (hq _)
            case turn2 =>
              intro v ys I oI C oC D m₂ h tk E' hv hC hx F N off ne
              obtain ⟨q, rfl, hRow, hmem⟩ := RowsAt.mem hR (List.mem_filter.mp hv).1
              obtain ⟨hk1, hk2⟩ := hks _ hmem
              obtain ⟨kt, y1, y2, ks, ra, rb, rs⟩ := hRow
              have bt := tup_base ra
              have bt2 := tupB ra
              have bk := tup_base rb
              have bk2 := tupB rb
              have hsk : ks.toArray.size ≤ sizeLine := by rw [List.size_toArray, StrsAre.len rs, sizeLine_eq]; omega
              obtain ⟨n1, n2, n3⟩ := ne
              (repeat' ((fail_if_success (with_reducible show LCt.CompRestT _ _ _ _ _ _ _ _ _ _ _ _ _ _ _ _ _ _ _ _)); first | (k_unfold; (try dsimp only)) | (k_end; wrow_close) | ((try dsimp only); walk1) | walk1 | (leave1; walk_say "STEP leave1"; try dsimp only) | fail "no step"))
              any_goals (first | (refine BEnd.mk ?_ (by k_asm) (by k_asm) (by lcg_sub); (walk_at "my_clr"); exact (fitT_no hR (by assumption))) | fail)
              any_goals (first | (refine BEnd.mk ?_ (by k_asm) (by k_asm) (by lcg_sub); (walk_at "my_clr"); exact (fitT_no0 hR rs (by assumption))) | fail)
              unfold Stop
              refine ListComp_UBT (F₀ := by k_asm) (by rfl) (by decide) (by rfl) (by decide) (by rfl) ?_
              (iterate 30 (try first | walk1 | (dsimp only; walk1)))
              refine SrcTupT.base (by rfl) (by k_asm) (by k_asm) (by with_reducible assumption) (by assumption) ?_
              intro g3
              refine comp_filter xT (by trivial) ?elt3 ?turn3 ?fin3
              case elt3 =>
                intro v ys I oI C oC D m₂ h tk E' Q' hC hx F N hq
                exact LCgL.ld_own N (.tail _ (.head _)) hC hx (hq _)
              case turn3 =>
                intro v ys I oI C oC D m₂ h tk E' hv hC hx F N off ne
                obtain ⟨k, y3, rfl, hkm⟩ := StrsAre.memS rs hv
                have hk3 : 1 ≤ k.length := (hk2 k hkm).1
                obtain ⟨n1', n2', n3'⟩ := ne
                (repeat' ((fail_if_success (with_reducible show LCt.CompRestT _ _ _ _ _ _ _ _ _ _ _ _ _ _ _ _ _ _ _ _)); first | (k_unfold; (try dsimp only)) | (k_end; wrow_close) | ((try dsimp only); walk1) | walk1 | (leave1; walk_say "STEP leave1"; try dsimp only) | fail "no step"))
                all_goals first
                  | (refine BEnd.mk ?_ (by k_asm) (by k_asm) (by lcg_sub); (walk_at "my_clr"); exact rfl)
                  | fail "left"
              case fin3 =>
                unfold LCg.FinE
                intro D h tk F N o1
                (try dsimp only)
                (repeat' ((fail_if_success (with_reducible show LCt.CompRestT _ _ _ _ _ _ _ _ _ _ _ _ _ _ _ _ _ _ _ _)); first | (k_unfold; (try dsimp only)) | (k_end; wrow_close) | ((try dsimp only); walk1) | walk1 | (leave1; walk_say "STEP leave1"; try dsimp only) | fail "no step"))
                all_goals first
                  | (refine BEnd.mk ?_ (by k_asm) (by k_asm) (by lcg_sub); (walk_at "my_clr"); exact (fitT_yes hR (by assumption) rs (by assumption) (by assumption)))
                  | (refine BEnd.mk ?_ (by k_asm) (by k_asm) (by lcg_sub); (walk_at "my_clr"); exact (fitT_yes hR (by assumption) rs (by assumption) rfl))
                  | fail "left"
            case fin2 =>
              unfold LCg.FinA
              intro D h tk F N o1
              (try dsimp only)
              have hh2 := filter2_rows hR (plainF (Txt.slice x none (some (-1)))) (sizeF (Txt.slice x (some (-1)) none))
              (repeat' ((fail_if_success (with_reducible show LCt.CompRestT _ _ _ _ _ _ _ _ _ _ _ _ _ _ _ _ _ _ _ _)); first | (k_unfold; (try dsimp only)) | (k_end; wrow_close) | ((try dsimp only); walk1) | walk1 | (leave1; walk_say "STEP leave1"; try dsimp only) | fail "no step"))
              all_goals ((try dsimp only); (try (unfold FPost; dsimp only)); (walk_at "my_endH"); (first | (walk_at "my_k3") | (walk_at "my_t3")); rw [e0]; unfold tailD retD; rw [ifany hh2]; (walk_at "my_if"); done)
end

section
open PySem PySem.W PySem.Calls PySem.Spec PyProof.Rows
example : True := by
  w_top off
  k_with_none
  trivial
example : True := by
  k_with_none
  k_with "my_enter" => (refine' enterL ?k1 ?k2 ?k3 ?k4 ?k5 ?kA ?kF ?kK ?k6 ?k7 ?k8 ?k9 ?kB ?_ ?c2 ?c3 ?c4 ?c5; (case kA => exact rfl); (case kF => exact rfl); (case kK => assumption); (case k1 => k_asm); (case k2 => k_asm); (case k3 => k_asm); (case k4 => k_asm); (case k5 => k_asm); (case k6 => k_is); (case k7 => k_is); (case k8 => k_room); (case k9 => exact BindsTo.of_eq rfl); (case c5 => decide); (case kB => exact locs rfl); (case c2 => exact rfl); (case c3 => exact rfl); (case c4 => exact rfl); k_whole; intro g' L' h' hg' FG' F' N' B' X' T'; (try (refine anyTok ?_; intro tkz)); (try dsimp only); (let mz := frMap F'; have Fz : Fr _ _ _ mz := F'); (try k_lift B'); (try k_fold))
  k_with "my_use" => ((case k1 => k_asm); (case k2 => k_asm); (case k3 => k_asm); (case k4 => first | exact News.nil | k_asm); (case k5 => k_asm); (case kK => first | exact rfl | assumption); (case kp => first | trivial | assumption | exact IsetAt.keep (Fr.keep (by k_asm)) (by with_reducible assumption) | exact OpsAt.keep (Fr.keep (by k_asm)) (by with_reducible assumption)); (case kd => first | k_room | ktr_room); (case ku => ktr_units); (case k9 => k_asm))
  k_with "my_clr" => ((repeat (with_reducible rename Fr _ _ _ _ => z9; clear z9)); (repeat (with_reducible rename News _ _ _ _ => z9; clear z9)); (repeat (with_reducible rename Top _ _ _ _ _ _ => z9; clear z9)); (repeat (with_reducible rename Below _ _ _ _ => z9; clear z9)); (repeat (with_reducible rename Heap.StaysIn _ _ => z9; clear z9)); (repeat (with_reducible rename Frag.In _ _ => z9; clear z9)))
  k_with "my_next" => (refine' FPost.next ?_ ?F ?N ?hs; (case F => k_asm); (case N => k_asm); (case hs => lcg_sub))
  k_with "my_endH" => (rename (∀ (b : Addr) (o : Obj), _ → ¬ _ → _) => hg9; refine endH (by assumption) hg9 (by assumption) ?_)
  k_with "my_t3" => (refine ⟨_, rfl, IsT3.of_eq ?_ (IsT3.of_news (by assumption) (by k_mem))⟩)
  k_with "my_if" => ((repeat (with_reducible rename Fr _ _ _ _ => z9; clear z9)); (repeat (with_reducible rename News _ _ _ _ => z9; clear z9)); (repeat (with_reducible rename Top _ _ _ _ _ _ => z9; clear z9)); (repeat (with_reducible rename Below _ _ _ _ => z9; clear z9)); (repeat (with_reducible rename Heap.StaysIn _ _ => z9; clear z9)); (repeat (with_reducible first | (refine pos_eq (by assumption) ?_) | (refine neg_eqB (by assumption) ?_) | (refine neg_eq (by assumption) ?_))); try rfl)
  k_with "my_end1" => (rename (∀ (b : Addr) (o : Obj), _ → ¬ _ → _) => hg9; refine end1 (by assumption) hg9 (by first | exact (fun _ hp => absurd hp List.not_mem_nil) | assumption) (by assumption) (by assumption) (by first | exact (fun _ hp => absurd hp List.not_mem_nil) | k_all) (by k_mem) (by first | exact (fun _ hp => absurd hp List.not_mem_nil) | k_all) ?_)
  k_with "my_end0" => (rename (∀ (b : Addr) (o : Obj), _ → ¬ _ → _) => hg9; refine end0 (by assumption) hg9 (by first | exact (fun _ hp => absurd hp List.not_mem_nil) | assumption) (by assumption) (by assumption) (by first | exact (fun _ hp => absurd hp List.not_mem_nil) | k_all) ?_)
  trivial
local macro_rules | `(tactic| k_room) => `(tactic| ((try simp only [depth_under_make, depth_under_kw, depth_in1, depth_deeper]); (try dsimp only [ktrTop]); omega))
local macro_rules | `(tactic| k_inst) => `(tactic| (refine' instAt_base ?F ?h1 ?h2; (case F => k_asm); (case h1 => with_reducible assumption); (case h2 => with_reducible assumption)))
-- a test that the path has decided
def rows16 : List FR := [⟨Str.ofString "add", [Str.ofString "rm32", Str.ofString "r32"], 32⟩, ⟨Str.ofString "add", [Str.ofString "rm64", Str.ofString "r64"], 64⟩, ⟨Str.ofString "mov", [Str.ofString "rm8", Str.ofString "r8"], 8⟩, ⟨Str.ofString "mov", [Str.ofString "rm16", Str.ofString "r16"], 16⟩, ⟨Str.ofString "ret", [], 64⟩, ⟨Str.ofString "leave", [], 64⟩, ⟨Str.ofString "nop", [], 0⟩, ⟨Str.ofString "cmovb", [Str.ofString "r32", Str.ofString "rm32"], 32⟩, ⟨Str.ofString "setb", [Str.ofString "rm8"], 8⟩, ⟨Str.ofString "shl", [Str.ofString "rm32", Str.ofString "uimm8"], 32⟩, ⟨Str.ofString "movss", [Str.ofString "x", Str.ofString "xm32"], 32⟩, ⟨Str.ofString "movzx", [Str.ofString "r32", Str.ofString "rm8"], 32⟩, ⟨Str.ofString "movq", [Str.ofString "x", Str.ofString "xm64"], 0⟩, ⟨Str.ofString "imul", [Str.ofString "r16", Str.ofString "rm16"], 16⟩, ⟨Str.ofString "cdq", [], 32⟩, ⟨Str.ofString "loope", [Str.ofString "rel8"], 64⟩]
def written40 : List (Str × Nat × (Str × Int × Int)) := [(Str.ofString "movslq", 2, (Str.ofString "movsxd", 64, 32)), (Str.ofString "movzb", 2, (Str.ofString "movzx", 0, 8)), (Str.ofString "movzw", 2, (Str.ofString "movzx", 0, 16)), (Str.ofString "movsbl", 2, (Str.ofString "movsx", 32, 8)), (Str.ofString "movswq", 2, (Str.ofString "movsx", 64, 16)), (Str.ofString "movzwl", 3, (Str.ofString "movzx", 32, 16)), (Str.ofString "movsw", 2, (Str.ofString "", 0, 0)), (Str.ofString "movzl", 2, (Str.ofString "", 0, 0)), (Str.ofString "movdb", 2, (Str.ofString "", 0, 0)), (Str.ofString "movzwb", 2, (Str.ofString "", 0, 0)), (Str.ofString "movsbx", 2, (Str.ofString "", 0, 0)), (Str.ofString "movsbl", 1, (Str.ofString "", 0, 0)), (Str.ofString "movsl", 0, (Str.ofString "movsd", 0, 0)), (Str.ofString "cltq", 0, (Str.ofString "cdqe", 0, 0)), (Str.ofString "cltd", 0, (Str.ofString "cdq", 0, 0)), (Str.ofString "popf", 0, (Str.ofString "popfq", 0, 0)), (Str.ofString "cltq", 1, (Str.ofString "", 0, 0)), (Str.ofString "movabs", 2, (Str.ofString "mov", 64, 0)), (Str.ofString "movq", 2, (Str.ofString "mov", 64, 0)), (Str.ofString "movq", 3, (Str.ofString "movq", 0, 0)), (Str.ofString "addl", 2, (Str.ofString "add", 32, 0)), (Str.ofString "addq", 2, (Str.ofString "add", 64, 0)), (Str.ofString "addw", 2, (Str.ofString "", 0, 0)), (Str.ofString "add", 0, (Str.ofString "add", 0, 0)), (Str.ofString "addx", 2, (Str.ofString "", 0, 0)), (Str.ofString "retq", 0, (Str.ofString "ret", 64, 0)), (Str.ofString "retl", 0, (Str.ofString "", 0, 0)), (Str.ofString "retq", 1, (Str.ofString "ret", 64, 0)), (Str.ofString "leaveq", 0, (Str.ofString "leave", 64, 0)), (Str.ofString "nopq", 0, (Str.ofString "", 0, 0)), (Str.ofString "cmovcl", 2, (Str.ofString "cmovb", 32, 0)), (Str.ofString "setc", 1, (Str.ofString "setb", 0, 0)), (Str.ofString "sall", 2, (Str.ofString "shl", 32, 0)), (Str.ofString "salw", 2, (Str.ofString "", 0, 0)), (Str.ofString "movssl", 3, (Str.ofString "", 0, 0)), (Str.ofString "movzxl", 2, (Str.ofString "", 0, 0)), (Str.ofString "loopz", 1, (Str.ofString "loope", 0, 0)), (Str.ofString "imulw", 2, (Str.ofString "imul", 16, 0)), (Str.ofString "movb", 2, (Str.ofString "mov", 8, 0)), (Str.ofString "cdql", 0, (Str.ofString "", 0, 0))]
theorem RowAt.of_news {h₀ h : Heap} {L q kt : Addr} {news : Led} {n : Str} {sz : Int} {t1 t2 : Tok} {ks : List Value} {kinds : List Str} (N : News h₀ L h news) (hm : (q, ({ cls := .type "tuple", data := .seq #[.str n t1, .ref kt, .int sz t2] } : Obj)) ∈ news)
    (hk : (kt, ({ cls := .type "tuple", data := .seq ks.toArray } : Obj)) ∈ news) (hs : StrsAre ks kinds) : RowAt h q ⟨n, kinds, sz⟩ := ⟨kt, t1, t2, ks, (N _ hm).1, (N _ hk).1, hs⟩
theorem News.at' {h₀ h : Heap} {L q : Addr} {o : Obj} {news : Led} (N : News h₀ L h news) (hm : (q, o) ∈ news) : h.get? q = some o := (N _ hm).1
/-- an entry of the written list -/
def WrAt (h : Heap) (q : Addr) (e : Str × Nat × (Str × Int × Int)) : Prop := ∃ (d : Addr) (t1 t2 : Tok), h.get? q = some ({ cls := .type "tuple", data := .seq [.str e.1 t1, .int (e.2.1 : Int) t2, .ref d].toArray } : Obj) ∧ IsT3 h d e.2.2
theorem WrAt.keep {h h' : Heap} {q : Addr} {e : Str × Nat × (Str × Int × Int)} (k : ∀ b o, h.get? b = some o → h'.get? b = some o) (x : WrAt h q e) : WrAt h' q e := by
  obtain ⟨d, t1, t2, a, b⟩ := x
  exact ⟨d, t1, t2, k _ _ a, b.keep k⟩
theorem WrAt.of_news {h₀ h : Heap} {L q d : Addr} {news : Led} {n : Str} {sz : Nat} {t1 t2 : Tok} {r : Str × Int × Int} (N : News h₀ L h news) (hm : (q, ({ cls := .type "tuple", data := .seq #[.str n t1, .int (sz : Int) t2, .ref d] } : Obj)) ∈ news)
    (hk : IsT3 h d r) : WrAt h q (n, sz, r) := ⟨d, t1, t2, (N _ hm).1, hk⟩
inductive WrsAt (h : Heap) : List Value → List (Str × Nat × (Str × Int × Int)) → Prop
  | nil : WrsAt h [] []
  | cons {q : Addr} {r : Str × Nat × (Str × Int × Int)} {vs : List Value} {rs : List (Str × Nat × (Str × Int × Int))} : WrAt h q r → WrsAt h vs rs → WrsAt h (.ref q :: vs) (r :: rs)
theorem WrsAt.keep {h h' : Heap} {vs : List Value} {rs : List (Str × Nat × (Str × Int × Int))} (k : ∀ b o, h.get? b = some o → h'.get? b = some o) (x : WrsAt h vs rs) : WrsAt h' vs rs := by
  induction x with
  | nil => exact .nil
  | cons a _ ih => exact .cons (a.keep k) ih
theorem WrsAt.at {h : Heap} {vs : List Value} {rs : List (Str × Nat × (Str × Int × Int))} (x : WrsAt h vs rs) : ∀ {i : Nat} {v : Value}, vs[i]? = some v → ∃ q r, v = .ref q ∧ rs[i]? = some r ∧ WrAt h q r := by
  induction x with
  | nil => intro i v e; simp at e
  | cons a _ ih =>
    intro i v e
    cases i with
    | zero => simp at e; exact ⟨_, _, e.symm, rfl, a⟩
    | succ i => simp at e; obtain ⟨q, r, h1, h2, h3⟩ := ih e; exact ⟨q, r, h1, by simpa using h2, h3⟩
end

section
open PySem PySem.W PySem.Calls PySem.Spec PyProof.Rows
example : True := by
  w_top off
  k_with_none
  trivial
/-- all that a ledger tells stands in a heap -/
def Held (led : Led) (h : Heap) : Prop := ∀ p ∈ led, h.get? p.1 = some p.2
theorem Held.app {a b : Led} {h : Heap} (x : Held (a ++ b) h) : Held a h ∧ Held b h := ⟨fun p hp => x p (List.mem_append.mpr (.inl hp)), fun p hp => x p (List.mem_append.mpr (.inr hp))⟩
theorem Held.hd {p : Addr × Obj} {b : Led} {h : Heap} (x : Held (p :: b) h) : h.get? p.1 = some p.2 := x p (.head _)
theorem Held.tl {p : Addr × Obj} {b : Led} {h : Heap} (x : Held (p :: b) h) : Held b h := fun q hq => x q (.tail _ hq)
/-- new objects -/
def Fresh (own : Led) (h h' : Heap) : Prop := ∀ p ∈ own, h'.get? p.1 = some p.2 ∧ h.get? p.1 = none
theorem Fresh.nil {h h' : Heap} : Fresh [] h h' := fun _ hp => absurd hp List.not_mem_nil
theorem none_back {h h' : Heap} {a : Addr} (st : h.StaysIn h') (e : h'.get? a = none) : h.get? a = none := by
  cases q : h.get? a with
  | none => rfl
  | some o => rw [st _ _ q] at e; cases e
theorem Fresh.app {a b : Led} {h h' h2 : Heap} (x : Fresh a h h') (y : Fresh b h' h2) (st : h.StaysIn h') (st2 : h'.StaysIn h2) : Fresh (a ++ b) h h2 := fun p hp => by
  rcases List.mem_append.mp hp with q | q
  · exact ⟨st2 _ _ (x p q).1, (x p q).2⟩
  · exact ⟨(y p q).1, none_back st (y p q).2⟩
theorem fresh_push {h : Heap} {o : Obj} : h.get? h.objs.size = none := Heap.get?_none_of_le (Nat.le_refl _)
/-- the text of an entry of the written list, wherever it stands -/
inductive IsW : Expr → Str × Nat × (Str × Int × Int) → Prop
  | mk {x y : Str} {n : Nat} {a b : Int} {k1 k2 k3 k4 k5 c1 c2 : _} {p1 p2 p3 p4 p5 q1 q2 : Pos} :
    IsW (.Tuple [.Constant (.str x) k1 p1, .Constant (.int (n : Int)) k2 p2, .Tuple [.Constant (.str y) k3 p3, .Constant (.int a) k4 p4, .Constant (.int b) k5 p5] c2 q2] c1 q1) (x, n, (y, a, b))
inductive AreW : List Expr → List (Str × Nat × (Str × Int × Int)) → Prop
  | nil : AreW [] []
  | cons {e : Expr} {w : Str × Nat × (Str × Int × Int)} {es : List Expr} {ws : List (Str × Nat × (Str × Int × Int))} : IsW e w → AreW es ws → AreW (e :: es) (w :: ws)
theorem small3 {α : Type} {a b c : α} : [a, b, c].length ≤ sizeLine := by rw [sizeLine_eq]; show 3 ≤ _; omega
section
variable {M : Model} {A : Around} {E : Value → Shared → Prop} {env : Env}
theorem eval_W {s : Shared} {e : Expr} {w : Str × Nat × (Str × Int × Int)} {Q : Value → Shared → Prop} (hw : IsW e w)
    (h : ∀ q own h' tk', s.heap.StaysIn h' → Fresh own s.heap h' → (∀ g, Held own g → WrAt g q w) → Q (.ref q) { s with heap := h', toks := tk' }) : wpAny M A (eval e env) Q E s := by
  cases hw
  refine Tuple_ (spliced_more (wpAny_Constant_str (spliced_more (wpAny_Constant_int (spliced_more (Tuple_ (spliced_more (wpAny_Constant_str (spliced_more (wpAny_Constant_int (spliced_more (wpAny_Constant_int (spliced_none (wpAny_newTuple (spliced_none (wpAny_newTuple ?_ small3)) small3))))))))))))))
  rename_i x y n a b k1 k2 k3 k4 k5 c1 c2 p1 p2 p3 p4 p5 q1 q2
  refine h _ [(s.heap.objs.size, { cls := .type "tuple", data := .seq [Value.str y (s.toks + 1 + 1), .int a (s.toks + 1 + 1 + 1), .int b (s.toks + 1 + 1 + 1 + 1)].toArray }), ((s.heap.push { cls := .type "tuple", data := .seq [Value.str y (s.toks + 1 + 1), .int a (s.toks + 1 + 1 + 1), .int b (s.toks + 1 + 1 + 1 + 1)].toArray }).objs.size, { cls := .type "tuple", data := .seq [Value.str x s.toks, .int (n : Int) (s.toks + 1), .ref s.heap.objs.size].toArray })] _ _ (fun b o e => Heap.get?_push_of_some _ (Heap.get?_push_of_some _ e)) (fun p hp => ?_) (fun g hg => ?_)
  · rcases List.mem_cons.mp hp with rfl | hp
    · exact ⟨Heap.get?_push_of_some _ (Heap.get?_push_size _ rfl), Heap.get?_none_of_le (Nat.le_refl _)⟩
    · rw [List.mem_singleton.mp hp]
      exact ⟨Heap.get?_push_size _ rfl, Heap.get?_none_of_le (by rw [Heap.size_push]; exact Nat.le_succ _)⟩
  · exact ⟨_, _, _, hg.tl.hd, _, _, _, hg.hd⟩
theorem spliced_W {pos : Pos} {es : List Expr} {ws : List (Str × Nat × (Str × Int × Int))} (hw : AreW es ws) : ∀ {s : Shared} {Q : List Value → Shared → Prop},
    (∀ vs own h' tk', s.heap.StaysIn h' → Fresh own s.heap h' → (∀ g, Held own g → WrsAt g vs ws) → vs.length = ws.length → Q vs { s with heap := h', toks := tk' }) → wpAny M A (spliced (backTo pos (starEach es env))) Q E s := by
  induction hw with
  | nil => intro s Q h; exact spliced_none (h [] [] s.heap s.toks (fun _ _ e => e) Fresh.nil (fun _ _ => .nil) rfl)
  | cons hw _ ih =>
    intro s Q h
    refine spliced_more (eval_W hw fun q own h' tk' st hf ha => ih fun vs own2 h2 tk2 st2 hf2 hb hl => ?_) ?_
    · exact h (.ref q :: vs) (own ++ own2) h2 tk2 (fun b o e => st2 _ _ (st _ _ e)) (hf.app hf2 st st2) (fun g hg => .cons (ha g hg.app.1) (hb g hg.app.2)) (by rw [List.length_cons, List.length_cons, hl])
    · cases hw; rfl
theorem list_W {s : Shared} {pos : Pos} {es : List Expr} {ws : List (Str × Nat × (Str × Int × Int))} {Q : Value → Shared → Prop} (hw : AreW es ws) (hz : ws.length ≤ 1000)
    (h : ∀ q vs own h' tk', s.heap.StaysIn h' → Fresh own s.heap h' → (q, W.listOf vs.toArray 0) ∈ own → (∀ g, Held own g → WrsAt g vs ws) → Q (.ref q) { s with heap := h', toks := tk' }) : wpAny M A (eval (.List es pos) env) Q E s := by
  refine List_ (spliced_W hw fun vs own h' tk' st hf ha hl => wpAny_newList ?_ (by rw [sizeLine_eq]; omega))
  refine h _ vs (own ++ [(h'.objs.size, W.listOf vs.toArray 0)]) _ _ (fun b o e => Heap.get?_push_of_some _ (st _ _ e)) (fun p hp => ?_) (List.mem_append.mpr (.inr (.head _))) (fun g hg => ha g hg.app.1)
  rcases List.mem_append.mp hp with q | q
  · exact ⟨Heap.get?_push_of_some _ (hf p q).1, (hf p q).2⟩
  · rw [List.mem_singleton.mp q]
    exact ⟨Heap.get?_push_size _ rfl, none_back st (Heap.get?_none_of_le (Nat.le_refl _))⟩
end
/-- the text of a row -/
inductive AreS : List Expr → List Str → Prop
  | nil : AreS [] []
  | cons {x : Str} {k : _} {p : Pos} {es : List Expr} {ss : List Str} : AreS es ss → AreS (.Constant (.str x) k p :: es) (x :: ss)
inductive IsR : Expr → FR → Prop
  | mk {x : Str} {n : Int} {k1 k2 c1 c2 : _} {p1 p2 q1 q2 : Pos} {es : List Expr} {ss : List Str} : AreS es ss → ss.length ≤ 2 →
    IsR (.Tuple [.Constant (.str x) k1 p1, .Tuple es c2 q2, .Constant (.int n) k2 p2] c1 q1) ⟨x, ss, n⟩
inductive AreR : List Expr → List FR → Prop
  | nil : AreR [] []
  | cons {e : Expr} {w : FR} {es : List Expr} {ws : List FR} : IsR e w → AreR es ws → AreR (e :: es) (w :: ws)
section
variable {M : Model} {A : Around} {E : Value → Shared → Prop} {env : Env}
theorem spliced_S {pos : Pos} {es : List Expr} {ss : List Str} (hw : AreS es ss) : ∀ {s : Shared} {Q : List Value → Shared → Prop},
    (∀ vs tk', StrsAre vs ss → vs.length = ss.length → Q vs { s with toks := tk' }) → wpAny M A (spliced (backTo pos (starEach es env))) Q E s := by
  induction hw with
  | nil => intro s Q h; exact spliced_none (h [] s.toks .nil rfl)
  | cons _ ih =>
    intro s Q h
    exact spliced_more (wpAny_Constant_str (ih fun vs tk2 hb hl => h (.str _ _ :: vs) tk2 (.cons _ _ hb) (by rw [List.length_cons, List.length_cons, hl])))
theorem eval_R {s : Shared} {e : Expr} {w : FR} {Q : Value → Shared → Prop} (hw : IsR e w)
    (h : ∀ q own h' tk', s.heap.StaysIn h' → Fresh own s.heap h' → (∀ g, Held own g → RowAt g q w) → Q (.ref q) { s with heap := h', toks := tk' }) : wpAny M A (eval e env) Q E s := by
  cases hw with
  | mk hs hl =>
    rename_i x n k1 k2 c1 c2 p1 p2 q1 q2 es ss
    refine Tuple_ (spliced_more (wpAny_Constant_str (spliced_more (Tuple_ (spliced_S hs fun vs tk' ha hn => wpAny_newTuple (spliced_more (wpAny_Constant_int (spliced_none (wpAny_newTuple ?_ small3)))) (by rw [sizeLine_eq]; omega))))))
    refine h _ [(s.heap.objs.size, { cls := .type "tuple", data := .seq vs.toArray }), ((s.heap.push { cls := .type "tuple", data := .seq vs.toArray }).objs.size, { cls := .type "tuple", data := .seq [Value.str x s.toks, .ref s.heap.objs.size, .int n tk'].toArray })] _ _ (fun b o e => Heap.get?_push_of_some _ (Heap.get?_push_of_some _ e)) (fun p hp => ?_) (fun g hg => ?_)
    · rcases List.mem_cons.mp hp with rfl | hp
      · exact ⟨Heap.get?_push_of_some _ (Heap.get?_push_size _ rfl), Heap.get?_none_of_le (Nat.le_refl _)⟩
      · rw [List.mem_singleton.mp hp]
        exact ⟨Heap.get?_push_size _ rfl, Heap.get?_none_of_le (by rw [Heap.size_push]; exact Nat.le_succ _)⟩
    · exact ⟨_, _, _, vs, hg.tl.hd, hg.hd, ha⟩
theorem spliced_R {pos : Pos} {es : List Expr} {ws : List FR} (hw : AreR es ws) : ∀ {s : Shared} {Q : List Value → Shared → Prop},
    (∀ vs own h' tk', s.heap.StaysIn h' → Fresh own s.heap h' → (∀ g, Held own g → RowsAt g vs ws) → vs.length = ws.length → Q vs { s with heap := h', toks := tk' }) → wpAny M A (spliced (backTo pos (starEach es env))) Q E s := by
  induction hw with
  | nil => intro s Q h; exact spliced_none (h [] [] s.heap s.toks (fun _ _ e => e) Fresh.nil (fun _ _ => .nil) rfl)
  | cons hw _ ih =>
    intro s Q h
    refine spliced_more (eval_R hw fun q own h' tk' st hf ha => ih fun vs own2 h2 tk2 st2 hf2 hb hl => ?_) ?_
    · exact h (.ref q :: vs) (own ++ own2) h2 tk2 (fun b o e => st2 _ _ (st _ _ e)) (hf.app hf2 st st2) (fun g hg => .cons (ha g hg.app.1) (hb g hg.app.2)) (by rw [List.length_cons, List.length_cons, hl])
    · cases hw; rfl
theorem list_R {s : Shared} {pos : Pos} {es : List Expr} {ws : List FR} {Q : Value → Shared → Prop} (hw : AreR es ws) (hz : ws.length ≤ 1000)
    (h : ∀ q vs own h' tk', s.heap.StaysIn h' → Fresh own s.heap h' → (q, W.listOf vs.toArray 0) ∈ own → (∀ g, Held own g → RowsAt g vs ws) → Q (.ref q) { s with heap := h', toks := tk' }) : wpAny M A (eval (.List es pos) env) Q E s := by
  refine List_ (spliced_R hw fun vs own h' tk' st hf ha hl => wpAny_newList ?_ (by rw [sizeLine_eq]; omega))
  refine h _ vs (own ++ [(h'.objs.size, W.listOf vs.toArray 0)]) _ _ (fun b o e => Heap.get?_push_of_some _ (st _ _ e)) (fun p hp => ?_) (List.mem_append.mpr (.inr (.head _))) (fun g hg => ha g hg.app.1)
  rcases List.mem_append.mp hp with q | q
  · exact ⟨Heap.get?_push_of_some _ (hf p q).1, (hf p q).2⟩
  · rw [List.mem_singleton.mp q]
    exact ⟨Heap.get?_push_size _ rfl, none_back st (Heap.get?_none_of_le (Nat.le_refl _))⟩
end
def Stop3 (P : Prop) : Prop := P
theorem stopAt3 {P : Prop} (h : Stop3 P) : P := h
end

section
open PySem PySem.W PySem.Calls PySem.Spec PyProof.Rows
example : True := by
  w_top off
  k_with_none
  trivial
example : True := by
  k_with_none
  k_with "my_enter" => (refine' enterL ?k1 ?k2 ?k3 ?k4 ?k5 ?kA ?kF ?kK ?k6 ?k7 ?k8 ?k9 ?kB ?_ ?c2 ?c3 ?c4 ?c5; (case kA => exact rfl); (case kF => exact rfl); (case kK => assumption); (case k1 => k_asm); (case k2 => k_asm); (case k3 => k_asm); (case k4 => k_asm); (case k5 => k_asm); (case k6 => k_is); (case k7 => k_is); (case k8 => k_room); (case k9 => exact BindsTo.of_eq rfl); (case c5 => decide); (case kB => exact locs rfl); (case c2 => exact rfl); (case c3 => exact rfl); (case c4 => exact rfl); k_whole; intro g' L' h' hg' FG' F' N' B' X' T'; (try (refine anyTok ?_; intro tkz)); (try dsimp only); (let mz := frMap F'; have Fz : Fr _ _ _ mz := F'); (try k_lift B'); (try k_fold))
  k_with "my_use" => ((case k1 => k_asm); (case k2 => k_asm); (case k3 => k_asm); (case k4 => first | exact News.nil | k_asm); (case k5 => k_asm); (case kK => first | exact rfl | assumption); (case kp => first | trivial | assumption | exact IsetAt.keep (Fr.keep (by k_asm)) (by with_reducible assumption) | exact OpsAt.keep (Fr.keep (by k_asm)) (by with_reducible assumption)); (case kd => first | k_room | ktr_room); (case ku => ktr_units); (case k9 => k_asm))
  k_with "my_clr" => ((repeat (with_reducible rename Fr _ _ _ _ => z9; clear z9)); (repeat (with_reducible rename News _ _ _ _ => z9; clear z9)); (repeat (with_reducible rename Top _ _ _ _ _ _ => z9; clear z9)); (repeat (with_reducible rename Below _ _ _ _ => z9; clear z9)); (repeat (with_reducible rename Heap.StaysIn _ _ => z9; clear z9)); (repeat (with_reducible rename Frag.In _ _ => z9; clear z9)))
  k_with "my_next" => (refine' FPost.next ?_ ?F ?N ?hs; (case F => k_asm); (case N => k_asm); (case hs => lcg_sub))
  k_with "my_endH" => (rename (∀ (b : Addr) (o : Obj), _ → ¬ _ → _) => hg9; refine endH (by assumption) hg9 (by assumption) ?_)
  k_with "my_t3" => (refine ⟨_, rfl, IsT3.of_eq ?_ (IsT3.of_news (by assumption) (by k_mem))⟩)
  k_with "my_if" => ((repeat (with_reducible rename Fr _ _ _ _ => z9; clear z9)); (repeat (with_reducible rename News _ _ _ _ => z9; clear z9)); (repeat (with_reducible rename Top _ _ _ _ _ _ => z9; clear z9)); (repeat (with_reducible rename Below _ _ _ _ => z9; clear z9)); (repeat (with_reducible rename Heap.StaysIn _ _ => z9; clear z9)); (repeat (with_reducible first | (refine pos_eq (by assumption) ?_) | (refine neg_eqB (by assumption) ?_) | (refine neg_eq (by assumption) ?_))); try rfl)
  k_with "my_end1" => (rename (∀ (b : Addr) (o : Obj), _ → ¬ _ → _) => hg9; refine end1 (by assumption) hg9 (by first | exact (fun _ hp => absurd hp List.not_mem_nil) | assumption) (by assumption) (by assumption) (by first | exact (fun _ hp => absurd hp List.not_mem_nil) | k_all) (by k_mem) (by first | exact (fun _ hp => absurd hp List.not_mem_nil) | k_all) ?_)
  k_with "my_end0" => (rename (∀ (b : Addr) (o : Obj), _ → ¬ _ → _) => hg9; refine end0 (by assumption) hg9 (by first | exact (fun _ hp => absurd hp List.not_mem_nil) | assumption) (by assumption) (by assumption) (by first | exact (fun _ hp => absurd hp List.not_mem_nil) | k_all) ?_)
  trivial
local macro_rules | `(tactic| k_room) => `(tactic| ((try simp only [depth_under_make, depth_under_kw, depth_in1, depth_deeper]); (try dsimp only [ktrTop]); omega))
local macro_rules | `(tactic| k_inst) => `(tactic| (refine' instAt_base ?F ?h1 ?h2; (case F => k_asm); (case h1 => with_reducible assumption); (case h2 => with_reducible assumption)))
-- a test that the path has decided
theorem endO {s : Shared} {g h₁ h' : Heap} {L' : Addr} {m' : Str → Option Value} {own : Led} {v : Value} {tk' : Nat} {Q : Value → Shared → Prop} {R : Value → Led → Prop} (hret : ∀ (v : Value) (own : Led) (h' : Heap) (tk' : Nat), s.heap.StaysIn h' → (∀ p ∈ own, h'.get? p.1 = some p.2 ∧ s.heap.get? p.1 = none) → R v own → Q v { s with heap := h', toks := tk' })
    (hg : ∀ b o, s.heap.get? b = some o → b ∉ ([] : Led).map (·.1) → g.get? b = some o) (F : Fr g L' h₁ m') (st : h₁.StaysIn h') (hf : Fresh own h₁ h') (hR : R v own) :
    Q v { s with heap := h', toks := tk' } :=
  hret _ _ _ _ (fun b o e => st _ _ (F.keep _ _ (hg _ _ e List.not_mem_nil))) (fun p hp => ⟨(hf p hp).1, none_back (fun b o e => F.keep _ _ (hg _ _ e List.not_mem_nil)) (hf p hp).2⟩) hR
theorem nilOf {g h : Heap} {L : Addr} {m : Str → Option Value} (_ : Fr g L h m) : News g L h [] := News.nil
/-- a list of rows, told by its ledger -/
def RowsR (rows : List FR) (v : Value) (own : Led) : Prop := ∃ q vs, v = .ref q ∧ (q, W.listOf vs.toArray 0) ∈ own ∧ ∀ g, Held own g → RowsAt g vs rows
def WrsR (ws : List (Str × Nat × (Str × Int × Int))) (v : Value) (own : Led) : Prop := ∃ q vs, v = .ref q ∧ (q, W.listOf vs.toArray 0) ∈ own ∧ ∀ g, Held own g → WrsAt g vs ws
end

section
open PySem PySem.W PySem.Calls PySem.Spec PyProof.Rows
example : True := by
  w_top off
  k_with_none
  trivial
local macro_rules | `(tactic| walk_at "eval List") => `(tactic| k_extra "z eval List")
example : True := by
  k_with_none
  k_with "my_enter" => (refine' enterL ?k1 ?k2 ?k3 ?k4 ?k5 ?kA ?kF ?kK ?k6 ?k7 ?k8 ?k9 ?kB ?_ ?c2 ?c3 ?c4 ?c5; (case kA => exact rfl); (case kF => exact rfl); (case kK => assumption); (case k1 => k_asm); (case k2 => k_asm); (case k3 => k_asm); (case k4 => k_asm); (case k5 => k_asm); (case k6 => k_is); (case k7 => k_is); (case k8 => k_room); (case k9 => exact BindsTo.of_eq rfl); (case c5 => decide); (case kB => exact locs rfl); (case c2 => exact rfl); (case c3 => exact rfl); (case c4 => exact rfl); k_whole; intro g' L' h' hg' FG' F' N' B' X' T'; (try dsimp only); (try k_lift B'); (try k_fold))
  k_with "my_use" => ((case k1 => k_asm); (case k2 => k_asm); (case k3 => k_asm); (case k4 => first | exact News.nil | k_asm); (case k5 => k_asm); (case kK => first | exact rfl | assumption); (case kp => first | trivial | assumption | exact IsetAt.keep (Fr.keep (by k_asm)) (by with_reducible assumption) | exact OpsAt.keep (Fr.keep (by k_asm)) (by with_reducible assumption)); (case kd => first | k_room | ktr_room); (case ku => ktr_units); (case k9 => k_asm))
  k_with "my_clr" => ((repeat (with_reducible rename Fr _ _ _ _ => z9; clear z9)); (repeat (with_reducible rename News _ _ _ _ => z9; clear z9)); (repeat (with_reducible rename Top _ _ _ _ _ _ => z9; clear z9)); (repeat (with_reducible rename Below _ _ _ _ => z9; clear z9)); (repeat (with_reducible rename Heap.StaysIn _ _ => z9; clear z9)); (repeat (with_reducible rename Frag.In _ _ => z9; clear z9)))
  k_with "my_next" => (refine' FPost.next ?_ ?F ?N ?hs; (case F => k_asm); (case N => k_asm); (case hs => lcg_sub))
  k_with "my_endH" => (rename (∀ (b : Addr) (o : Obj), _ → ¬ _ → _) => hg9; refine endH (by assumption) hg9 (by assumption) ?_)
  k_with "my_t3" => (refine ⟨_, rfl, IsT3.of_eq ?_ (IsT3.of_news (by assumption) (by k_mem))⟩)
  k_with "my_if" => ((repeat (with_reducible rename Fr _ _ _ _ => z9; clear z9)); (repeat (with_reducible rename News _ _ _ _ => z9; clear z9)); (repeat (with_reducible rename Top _ _ _ _ _ _ => z9; clear z9)); (repeat (with_reducible rename Below _ _ _ _ => z9; clear z9)); (repeat (with_reducible rename Heap.StaysIn _ _ => z9; clear z9)); (repeat (with_reducible first | (refine pos_eq (by assumption) ?_) | (refine neg_eqB (by assumption) ?_) | (refine neg_eq (by assumption) ?_))); try rfl)
  k_with "my_end1" => (rename (∀ (b : Addr) (o : Obj), _ → ¬ _ → _) => hg9; refine end1 (by assumption) hg9 (by first | exact (fun _ hp => absurd hp List.not_mem_nil) | assumption) (by assumption) (by assumption) (by first | exact (fun _ hp => absurd hp List.not_mem_nil) | k_all) (by k_mem) (by first | exact (fun _ hp => absurd hp List.not_mem_nil) | k_all) ?_)
  k_with "my_end0" => (rename (∀ (b : Addr) (o : Obj), _ → ¬ _ → _) => hg9; refine end0 (by assumption) hg9 (by first | exact (fun _ hp => absurd hp List.not_mem_nil) | assumption) (by assumption) (by assumption) (by first | exact (fun _ hp => absurd hp List.not_mem_nil) | k_all) ?_)
  k_with "z eval List" => (k_here; with_reducible refine stopAt3 ?_)
  trivial
local macro_rules | `(tactic| k_room) => `(tactic| ((try simp only [depth_under_make, depth_under_kw, depth_in1, depth_deeper]); (try dsimp only [ktrTop]); omega))
local macro_rules | `(tactic| k_inst) => `(tactic| (refine' instAt_base ?F ?h1 ?h2; (case F => k_asm); (case h1 => with_reducible assumption); (case h2 => with_reducible assumption)))
-- a test that the path has decided
theorem law_rows (w : World) (mean mg mb) : FSpec 2 w mean mg mb 473 [] [] (fun _ => True) (RowsR rows16) := by
  unfold FSpec TopP
  k_fill
  intro dp un gd cn cs a ccd cl outer A₀ base h₀ L m s Q E B F X N T hk hP hdp hu hret
  refine wpAny_call ?_
  k_dflt (walk_at "my_enter")
  rename (∀ (b : Addr) (o : Obj), _ → ¬ _ → _) => hg9
  rename Fr _ _ _ _ => F9
  (repeat' (first | (k_unfold; (try dsimp only)) | (k_end; wrow_close) | ((try dsimp only); (first | (with_reducible show wpAny _ _ (exec _ _) _ _ _); (try k_fold); (try (with_reducible rename News _ _ _ _ => zN; dsimp only at zN)) | skip); walk1) | walk1 | (leave1; walk_say "STEP leave1"; try dsimp only) | fail "no step"))
  unfold Stop3
  refine list_R (ws := rows16) ?aa ?bb ?cc
  case bb => decide
  case aa =>
    unfold rows16
    iterate 16 (refine AreR.cons ?_ ?_; (refine IsR.mk ?_ (by decide); (first | exact .nil | exact .cons .nil | exact .cons (.cons .nil))))
    exact .nil
  intro q9 vs9 own9 h9 tk9 st9 hf9 hm9 ha9
  have F8 := fr_stays F9 st9
  have N8 := nilOf F8
  dsimp only
  (repeat' (first | (k_unfold; (try dsimp only)) | (k_end; wrow_close) | ((try dsimp only); (first | (with_reducible show wpAny _ _ (exec _ _) _ _ _); (try k_fold); (try (with_reducible rename News _ _ _ _ => zN; dsimp only at zN)) | skip); walk1) | walk1 | (leave1; walk_say "STEP leave1"; try dsimp only) | fail "no step"))
  exact endO (R := RowsR rows16) (by assumption) hg9 F9 st9 hf9 ⟨q9, vs9, rfl, hm9, ha9⟩
end

section
open PySem PySem.W PySem.Calls PySem.Spec PyProof.Rows
example : True := by
  w_top off
  k_with_none
  trivial
local macro_rules | `(tactic| walk_at "my_dummy") => `(tactic| skip)
local macro_rules | `(tactic| walk_at "eval List") => `(tactic| k_extra "z eval List")
example : True := by
  k_with_none
  k_with "my_enter" => (refine' enterL ?k1 ?k2 ?k3 ?k4 ?k5 ?kA ?kF ?kK ?k6 ?k7 ?k8 ?k9 ?kB ?_ ?c2 ?c3 ?c4 ?c5; (case kA => exact rfl); (case kF => exact rfl); (case kK => assumption); (case k1 => k_asm); (case k2 => k_asm); (case k3 => k_asm); (case k4 => k_asm); (case k5 => k_asm); (case k6 => k_is); (case k7 => k_is); (case k8 => k_room); (case k9 => exact BindsTo.of_eq rfl); (case c5 => decide); (case kB => exact locs rfl); (case c2 => exact rfl); (case c3 => exact rfl); (case c4 => exact rfl); k_whole; intro g' L' h' hg' FG' F' N' B' X' T'; (try dsimp only); (try k_lift B'); (try k_fold))
  k_with "my_use" => ((case k1 => k_asm); (case k2 => k_asm); (case k3 => k_asm); (case k4 => first | exact News.nil | k_asm); (case k5 => k_asm); (case kK => first | exact rfl | assumption); (case kp => first | trivial | assumption | exact IsetAt.keep (Fr.keep (by k_asm)) (by with_reducible assumption) | exact OpsAt.keep (Fr.keep (by k_asm)) (by with_reducible assumption)); (case kd => first | k_room | ktr_room); (case ku => ktr_units); (case k9 => k_asm))
  k_with "my_clr" => ((repeat (with_reducible rename Fr _ _ _ _ => z9; clear z9)); (repeat (with_reducible rename News _ _ _ _ => z9; clear z9)); (repeat (with_reducible rename Top _ _ _ _ _ _ => z9; clear z9)); (repeat (with_reducible rename Below _ _ _ _ => z9; clear z9)); (repeat (with_reducible rename Heap.StaysIn _ _ => z9; clear z9)); (repeat (with_reducible rename Frag.In _ _ => z9; clear z9)))
  k_with "my_next" => (refine' FPost.next ?_ ?F ?N ?hs; (case F => k_asm); (case N => k_asm); (case hs => lcg_sub))
  k_with "my_endH" => (rename (∀ (b : Addr) (o : Obj), _ → ¬ _ → _) => hg9; refine endH (by assumption) hg9 (by assumption) ?_)
  k_with "my_t3" => (refine ⟨_, rfl, IsT3.of_eq ?_ (IsT3.of_news (by assumption) (by k_mem))⟩)
  k_with "my_if" => ((repeat (with_reducible rename Fr _ _ _ _ => z9; clear z9)); (repeat (with_reducible rename News _ _ _ _ => z9; clear z9)); (repeat (with_reducible rename Top _ _ _ _ _ _ => z9; clear z9)); (repeat (with_reducible rename Below _ _ _ _ => z9; clear z9)); (repeat (with_reducible rename Heap.StaysIn _ _ => z9; clear z9)); (repeat (with_reducible first | (refine pos_eq (by assumption) ?_) | (refine neg_eqB (by assumption) ?_) | (refine neg_eq (by assumption) ?_))); try rfl)
  k_with "my_end1" => (rename (∀ (b : Addr) (o : Obj), _ → ¬ _ → _) => hg9; refine end1 (by assumption) hg9 (by first | exact (fun _ hp => absurd hp List.not_mem_nil) | assumption) (by assumption) (by assumption) (by first | exact (fun _ hp => absurd hp List.not_mem_nil) | k_all) (by k_mem) (by first | exact (fun _ hp => absurd hp List.not_mem_nil) | k_all) ?_)
  k_with "my_end0" => (rename (∀ (b : Addr) (o : Obj), _ → ¬ _ → _) => hg9; refine end0 (by assumption) hg9 (by first | exact (fun _ hp => absurd hp List.not_mem_nil) | assumption) (by assumption) (by assumption) (by first | exact (fun _ hp => absurd hp List.not_mem_nil) | k_all) ?_)
  k_with "z eval List" => (k_here; with_reducible refine stopAt3 ?_)
  trivial
local macro_rules | `(tactic| k_room) => `(tactic| ((try simp only [depth_under_make, depth_under_kw, depth_in1, depth_deeper]); (try dsimp only [ktrTop]); omega))
local macro_rules | `(tactic| k_inst) => `(tactic| (refine' instAt_base ?F ?h1 ?h2; (case F => k_asm); (case h1 => with_reducible assumption); (case h2 => with_reducible assumption)))
-- a test that the path has decided
theorem law_written (w : World) (mean mg mb) : FSpec 2 w mean mg mb 513 [] [] (fun _ => True) (WrsR written40) := by
  unfold FSpec TopP
  k_fill
  intro dp un gd cn cs a ccd cl outer A₀ base h₀ L m s Q E B F X N T hk hP hdp hu hret
  refine wpAny_call ?_
  k_dflt (walk_at "my_enter")
  rename (∀ (b : Addr) (o : Obj), _ → ¬ _ → _) => hg9
  rename Fr _ _ _ _ => F9
  (repeat' (first | (k_unfold; (try dsimp only)) | (k_end; wrow_close) | ((try dsimp only); (first | (with_reducible show wpAny _ _ (exec _ _) _ _ _); (try k_fold); (try (with_reducible rename News _ _ _ _ => zN; dsimp only at zN)) | skip); walk1) | walk1 | (leave1; walk_say "STEP leave1"; try dsimp only) | fail "no step"))
  unfold Stop3
  refine list_W (ws := written40) ?aa ?bb ?cc
  case bb => decide
  case aa =>
    unfold written40
    iterate 40 (refine AreW.cons IsW.mk ?_)
    exact .nil
  intro q9 vs9 own9 h9 tk9 st9 hf9 hm9 ha9
  have F8 := fr_stays F9 st9
  have N8 := nilOf F8
  dsimp only
  (repeat' (first | (k_unfold; (try dsimp only)) | (k_end; wrow_close) | ((try dsimp only); (first | (with_reducible show wpAny _ _ (exec _ _) _ _ _); (try k_fold); (try (with_reducible rename News _ _ _ _ => zN; dsimp only at zN)) | skip); walk1) | walk1 | (leave1; walk_say "STEP leave1"; try dsimp only) | fail "no step"))
  exact endO (R := WrsR written40) (by assumption) hg9 F9 st9 hf9 ⟨q9, vs9, rfl, hm9, ha9⟩
end

section
open PySem PySem.W PySem.Calls PySem.Spec PyProof.Rows
example : True := by
  w_top off
  k_with_none
  trivial
example : True := by
  k_with_none
  k_with "my_enter" => (refine' enterL ?k1 ?k2 ?k3 ?k4 ?k5 ?kA ?kF ?kK ?k6 ?k7 ?k8 ?k9 ?kB ?_ ?c2 ?c3 ?c4 ?c5; (case kA => exact rfl); (case kF => exact rfl); (case kK => assumption); (case k1 => k_asm); (case k2 => k_asm); (case k3 => k_asm); (case k4 => k_asm); (case k5 => k_asm); (case k6 => k_is); (case k7 => k_is); (case k8 => k_room); (case k9 => exact BindsTo.of_eq rfl); (case c5 => decide); (case kB => exact locs rfl); (case c2 => exact rfl); (case c3 => exact rfl); (case c4 => exact rfl); k_whole; intro g' L' h' hg' FG' F' N' B' X' T'; (try (refine anyTok ?_; intro tkz)); (try dsimp only); (let mz := frMap F'; have Fz : Fr _ _ _ mz := F'); (try k_lift B'); (try k_fold))
  k_with "my_use" => ((case k1 => k_asm); (case k2 => k_asm); (case k3 => k_asm); (case k4 => first | exact News.nil | k_asm); (case k5 => k_asm); (case kK => first | exact rfl | assumption); (case kp => first | trivial | assumption | exact IsetAt.keep (Fr.keep (by k_asm)) (by with_reducible assumption) | exact OpsAt.keep (Fr.keep (by k_asm)) (by with_reducible assumption)); (case kd => first | k_room | ktr_room); (case ku => ktr_units); (case k9 => k_asm))
  k_with "my_clr" => ((repeat (with_reducible rename Fr _ _ _ _ => z9; clear z9)); (repeat (with_reducible rename News _ _ _ _ => z9; clear z9)); (repeat (with_reducible rename Top _ _ _ _ _ _ => z9; clear z9)); (repeat (with_reducible rename Below _ _ _ _ => z9; clear z9)); (repeat (with_reducible rename Heap.StaysIn _ _ => z9; clear z9)); (repeat (with_reducible rename Frag.In _ _ => z9; clear z9)))
  k_with "my_next" => (refine' FPost.next ?_ ?F ?N ?hs; (case F => k_asm); (case N => k_asm); (case hs => lcg_sub))
  k_with "my_endH" => (rename (∀ (b : Addr) (o : Obj), _ → ¬ _ → _) => hg9; refine endH (by assumption) hg9 (by assumption) ?_)
  k_with "my_t3" => (refine ⟨_, rfl, IsT3.of_eq ?_ (IsT3.of_news (by assumption) (by k_mem))⟩)
  k_with "my_if" => ((repeat (with_reducible rename Fr _ _ _ _ => z9; clear z9)); (repeat (with_reducible rename News _ _ _ _ => z9; clear z9)); (repeat (with_reducible rename Top _ _ _ _ _ _ => z9; clear z9)); (repeat (with_reducible rename Below _ _ _ _ => z9; clear z9)); (repeat (with_reducible rename Heap.StaysIn _ _ => z9; clear z9)); (repeat (with_reducible first | (refine pos_eq (by assumption) ?_) | (refine neg_eqB (by assumption) ?_) | (refine neg_eq (by assumption) ?_))); try rfl)
  k_with "my_end1" => (rename (∀ (b : Addr) (o : Obj), _ → ¬ _ → _) => hg9; refine end1 (by assumption) hg9 (by first | exact (fun _ hp => absurd hp List.not_mem_nil) | assumption) (by assumption) (by assumption) (by first | exact (fun _ hp => absurd hp List.not_mem_nil) | k_all) (by k_mem) (by first | exact (fun _ hp => absurd hp List.not_mem_nil) | k_all) ?_)
  k_with "my_end0" => (rename (∀ (b : Addr) (o : Obj), _ → ¬ _ → _) => hg9; refine end0 (by assumption) hg9 (by first | exact (fun _ hp => absurd hp List.not_mem_nil) | assumption) (by assumption) (by assumption) (by first | exact (fun _ hp => absurd hp List.not_mem_nil) | k_all) ?_)
  trivial
local macro_rules | `(tactic| k_room) => `(tactic| ((try simp only [depth_under_make, depth_under_kw, depth_in1, depth_deeper]); (try dsimp only [ktrTop]); omega))
local macro_rules | `(tactic| k_inst) => `(tactic| (refine' instAt_base ?F ?h1 ?h2; (case F => k_asm); (case h1 => with_reducible assumption); (case h2 => with_reducible assumption)))
-- a test that the path has decided
def SlotR (v : Value) (own : Led) : Prop := own = [] ∧ ∃ (y : Str) (t : Tok), v = .str y t ∧ y ≠ Str.ofString "plus"
theorem SlotR.mk {y : Str} {t : Tok} (h : y ≠ Str.ofString "plus") : SlotR (.str y t) [] := ⟨rfl, y, t, rfl, h⟩
theorem slot_of (w : World) (mean mg mb) (x : Str) (t : Tok) (hx : 1 ≤ x.length ∧ x.length ≤ 100) (ho : (Txt.slice x none (some 1) == Str.ofString "o") = false) : FSpec 3 w mean mg mb 190 [] [.str x t] (fun _ => True) SlotR := by
  unfold FSpec TopP
  k_fill
  intro dp un gd cn cs a ccd cl outer A₀ base h₀ L m s Q E B F X N T hk hP hdp hu hret
  refine wpAny_call ?_
  k_dflt (walk_at "my_enter")
  (repeat' (first | (k_unfold; (try dsimp only)) | (k_end; wrow_close) | ((try dsimp only); (first | (with_reducible show wpAny _ _ (exec _ _) _ _ _); (try k_fold); (try (with_reducible rename News _ _ _ _ => zN; dsimp only at zN)) | skip); walk1) | walk1 | (leave1; walk_say "STEP leave1"; try dsimp only) | fail "no step"))
  all_goals first
    | ((walk_at "my_end0"); exact SlotR.mk (by decide))
    | fail "left"
end

section
open PySem PySem.W PySem.Calls PySem.Spec PyProof.Rows
example : True := by
  w_top off
  k_with_none
  trivial
section
variable {prog : Program} {w : World} {A : Around} {K : Frag} {C : Addr} {s : Shared} {h₀ : Heap} {L : Addr} {m : Str → Option Value} {news : Led} {E Q : Value → Shared → Prop}
/-- a class is called: what stood stays -/
theorem call_clsK {pos : List Value} {kw : List (Str × Value)} {fI : Addr} (F : Fr h₀ L s.heap m) (X₀ : K.In h₀) (N : News h₀ L s.heap news) (hm : makesIn K C = true) (hi : findIn K (.ref C) "__init__" = some (some (.ref fI))) (hf : isFn K (.ref fI) = true)
    (h : ∀ x dx h', s.heap.StaysIn h' → s.heap.get? x = none → s.heap.get? dx = none → Fr h₀ L h' m → News h₀ L h' ((x, instObj C dx) :: (dx, dictOf [] 0) :: news) → dx < x →
      codeAny (model prog w) (A.under (.builtin "type.__call__" ⟨.ref C :: pos, kw⟩)) (.call (.ref fI) ⟨.ref x :: pos, kw⟩) (InitBack x fun r s' => match r with | .ok (.ret v) => Q v s' | .ok _ => False | .error e => E e s') { s with heap := h' }) :
    wpAny (model prog w) A (call (.ref C) pos kw) Q E s := by
  refine wpAny_call ?_
  have X := X₀.keeps F.keep
  obtain ⟨hh, g, d, t, os⟩ := s
  have N' := (N.push F emptyDict).push (F.push _) (instObj C hh.objs.size)
  rw [Heap.size_push] at N'
  refine make_core (makes_of X hm) (looks_findIn X hi) (fun self => bind_fn X self (beq_iff_eq.mp hf)) (.inl rfl) (h _ hh.objs.size _ (fun b o e => Heap.get?_push_of_some _ (Heap.get?_push_of_some _ e)) (Heap.get?_none_of_le (Nat.le_succ _)) (Heap.get?_none_of_le (Nat.le_refl _)) ((F.push _).push _) N' (Nat.lt_succ_self _))
end
end

section
open PySem PySem.W PySem.Calls PySem.Spec PyProof.Rows
example : True := by
  w_top off
  k_with_none
  trivial
example : True := by
  k_with_none
  k_with "my_enter" => (refine' enterL ?k1 ?k2 ?k3 ?k4 ?k5 ?kA ?kF ?kK ?k6 ?k7 ?k8 ?k9 ?kB ?_ ?c2 ?c3 ?c4 ?c5; (case kA => exact rfl); (case kF => exact rfl); (case kK => assumption); (case k1 => k_asm); (case k2 => k_asm); (case k3 => k_asm); (case k4 => k_asm); (case k5 => k_asm); (case k6 => k_is); (case k7 => k_is); (case k8 => k_room); (case k9 => exact BindsTo.of_eq rfl); (case c5 => decide); (case kB => exact locs rfl); (case c2 => exact rfl); (case c3 => exact rfl); (case c4 => exact rfl); k_whole; intro g' L' h' hg' FG' F' N' B' X' T'; (try (refine anyTok ?_; intro tkz)); (try dsimp only); (let mz := frMap F'; have Fz : Fr _ _ _ mz := F'); (try k_lift B'); (try k_fold))
  k_with "my_use" => ((case k1 => k_asm); (case k2 => k_asm); (case k3 => k_asm); (case k4 => first | exact News.nil | k_asm); (case k5 => k_asm); (case kK => first | exact rfl | assumption); (case kp => first | trivial | assumption | exact IsetAt.keep (Fr.keep (by k_asm)) (by with_reducible assumption) | exact OpsAt.keep (Fr.keep (by k_asm)) (by with_reducible assumption)); (case kd => first | k_room | ktr_room); (case ku => ktr_units); (case k9 => k_asm))
  k_with "my_clr" => ((repeat (with_reducible rename Fr _ _ _ _ => z9; clear z9)); (repeat (with_reducible rename News _ _ _ _ => z9; clear z9)); (repeat (with_reducible rename Top _ _ _ _ _ _ => z9; clear z9)); (repeat (with_reducible rename Below _ _ _ _ => z9; clear z9)); (repeat (with_reducible rename Heap.StaysIn _ _ => z9; clear z9)); (repeat (with_reducible rename Frag.In _ _ => z9; clear z9)))
  k_with "my_next" => (refine' FPost.next ?_ ?F ?N ?hs; (case F => k_asm); (case N => k_asm); (case hs => lcg_sub))
  k_with "my_endH" => (rename (∀ (b : Addr) (o : Obj), _ → ¬ _ → _) => hg9; refine endH (by assumption) hg9 (by assumption) ?_)
  k_with "my_t3" => (refine ⟨_, rfl, IsT3.of_eq ?_ (IsT3.of_news (by assumption) (by k_mem))⟩)
  k_with "my_if" => ((repeat (with_reducible rename Fr _ _ _ _ => z9; clear z9)); (repeat (with_reducible rename News _ _ _ _ => z9; clear z9)); (repeat (with_reducible rename Top _ _ _ _ _ _ => z9; clear z9)); (repeat (with_reducible rename Below _ _ _ _ => z9; clear z9)); (repeat (with_reducible rename Heap.StaysIn _ _ => z9; clear z9)); (repeat (with_reducible first | (refine pos_eq (by assumption) ?_) | (refine neg_eqB (by assumption) ?_) | (refine neg_eq (by assumption) ?_))); try rfl)
  k_with "my_end1" => (rename (∀ (b : Addr) (o : Obj), _ → ¬ _ → _) => hg9; refine end1 (by assumption) hg9 (by first | exact (fun _ hp => absurd hp List.not_mem_nil) | assumption) (by assumption) (by assumption) (by first | exact (fun _ hp => absurd hp List.not_mem_nil) | k_all) (by k_mem) (by first | exact (fun _ hp => absurd hp List.not_mem_nil) | k_all) ?_)
  k_with "my_end0" => (rename (∀ (b : Addr) (o : Obj), _ → ¬ _ → _) => hg9; refine end0 (by assumption) hg9 (by first | exact (fun _ hp => absurd hp List.not_mem_nil) | assumption) (by assumption) (by assumption) (by first | exact (fun _ hp => absurd hp List.not_mem_nil) | k_all) ?_)
  trivial
local macro_rules | `(tactic| k_room) => `(tactic| ((try simp only [depth_under_make, depth_under_kw, depth_in1, depth_deeper]); (try dsimp only [ktrTop]); omega))
local macro_rules | `(tactic| k_inst) => `(tactic| (refine' instAt_base ?F ?h1 ?h2; (case F => k_asm); (case h1 => with_reducible assumption); (case h2 => with_reducible assumption)))
local macro_rules | `(tactic| ktr_units) => `(tactic| (have hcL9 := cLine_is; (try simp only [units_in1, units_deeper, units_under_make, Around.mark_units, units_caller]); (try dsimp only [ktrTop]); omega))
-- a test that the path has decided
theorem useSl {mean : ExcName → Option Value} {mg mb : Str → Option Value} {w : World} {f : Addr} {led : Led} {vs : List Value} {P : Heap → Prop} {k : Nat} (S : FSpec k w mean mg mb f led vs P SlotR)
    {dp un : Nat} {gd : Option (List Code)} {cn : Str} {cs : Scope} {a : Addr} {ccd : Value} {cl : List (Str × Addr)} {outer : List Env} {A₀ : Around} {base h₀ : Heap} {L : Addr} {m : Str → Option Value} {s : Shared} {Q E : Value → Shared → Prop} {news : Led}
    (B : Below A₀ base outer h₀) (F : Fr h₀ L s.heap m) (X : (top.hd.heap_39 w.params).In h₀) (N : News h₀ L s.heap led) (T : TopP mean mg mb h₀) (hk : cs.kind = .function) (hp : P s.heap) (hdp : dp + k < recursionLimit) (hu : un + 20 * k < cLine) (N' : News h₀ L s.heap news)
    (ret : ∀ t y, y ≠ Str.ofString "plus" → ∀ h' tk', s.heap.StaysIn h' → Fr h₀ L h' m → News h₀ L h' news → Q (.str y t) { s with heap := h', toks := tk' }) :
    wpAny (model PySem.Challenge.rw_nz0170_01.row.prog w) (ktrTop dp un gd cn cs L a ccd cl outer) (call (.ref f) vs) Q E s :=
  S _ _ _ _ _ _ _ _ _ _ _ _ _ _ _ _ _ B F X N T hk hp hdp hu fun v own h' tk' st ho r => by
    obtain ⟨rfl, y, t, rfl, ne⟩ := r
    exact ret t y ne h' tk' st (fr_stays F st) (news_stays F N' st ho)
theorem listId {α : Type} (l : List α) : l.toArray.toList = l := rfl
theorem not2 {h : Heap} {x d k : Addr} {o p q : Obj} (hx : h.get? x = none) (hd : h.get? d = none) (hk : h.get? k = some o) : k ∉ ([(x, p), (d, q)] : Led).map (·.1) := fun hm => by
  rcases List.mem_cons.mp hm with e | hm
  · rw [e, hx] at hk; cases hk
  · rw [List.mem_singleton.mp hm, hd] at hk; cases hk
theorem endF {s : Shared} {g h1 h' : Heap} {L' x1 d1 D : Addr} {m' : Str → Option Value} {news' : Led} {p1 p2 o1 o2 o3 : Obj} {tk' : Nat} {Q : Value → Shared → Prop} {R : Value → Led → Prop} (hret : ∀ (v : Value) (own : Led) (h' : Heap) (tk' : Nat), s.heap.StaysIn h' → (∀ p ∈ own, h'.get? p.1 = some p.2 ∧ s.heap.get? p.1 = none) → R v own → Q v { s with heap := h', toks := tk' })
    (st1 : s.heap.StaysIn h1) (xn : s.heap.get? x1 = none) (dn : s.heap.get? d1 = none) (hg : ∀ b o, h1.get? b = some o → b ∉ ([(x1, p1), (d1, p2)] : Led).map (·.1) → g.get? b = some o) (F : Fr g L' h' m') (N : News g L' h' news')
    (m1 : (x1, o1) ∈ news') (m2 : (d1, o2) ∈ news') (m3 : (D, o3) ∈ news') (hR : R (.ref x1) [(x1, o1), (d1, o2), (D, o3)]) : Q (.ref x1) { s with heap := h', toks := tk' } := by
  have st : s.heap.StaysIn h' := fun b o e => F.keep _ _ (hg _ _ (st1 _ _ e) (not2 xn dn e))
  refine hret _ _ _ _ st (fun p hp => ?_) hR
  rcases List.mem_cons.mp hp with rfl | hp
  · exact ⟨(N _ m1).1, xn⟩
  · rcases List.mem_cons.mp hp with rfl | hp
    · exact ⟨(N _ m2).1, dn⟩
    · rw [List.mem_singleton.mp hp]
      refine ⟨(N _ m3).1, ?_⟩
      cases e : s.heap.get? D with
      | none => rfl
      | some o =>
        have := hg _ _ (st1 _ _ e) (not2 xn dn e)
        rw [(N _ m3).2.2] at this; cases this
/-- the hashes and marks of a Form's dict -/
def NoPlus (ps : List Value) : Prop := ∀ p ∈ ps, ∃ (y : Str) (t : Tok), p = .str y t ∧ y ≠ Str.ofString "plus"
theorem noPlus_at {ys : List Value} (h : ∀ (i : Nat) (y : Value), ys[i]? = some y → ∃ (k : Str) (t : Tok), y = .str k t ∧ k ≠ Str.ofString "plus") : NoPlus ys := fun p hp => by
  obtain ⟨i, e⟩ := List.mem_iff_getElem?.mp hp
  exact h i p e
/-- a new Form, told by its objects -/
def FormR (r : FR) (kt : Addr) (op : Int) (v : Value) (own : Led) : Prop := ∃ (f fd pl : Addr) (q9 : FV) (u8 : Tok) (ps : List Value) (n : Nat), v = .ref f ∧
  own = [(f, instObj 248 fd), (fd, formD r kt op (-1) pl q9 u8), (pl, ({ cls := .type "tuple", data := .seq ps.toArray n } : Obj))] ∧ NoPlus ps
theorem FormR.mk {r : FR} {kt f fd pl : Addr} {op : Int} {x0 x1 x2 x3 x4 x5 x6 x7 x8 x9 : Int} {t0 t1 t2 t3 t4 t5 t6 t7 t8 t9 u0 u2 u3 u4 u5 u6 u8 : Tok} {ps : List Value} {n : Nat} (h : NoPlus ps) : FormR r kt op (.ref f) [(f, instObj 248 fd), (fd, W.dictOf [⟨x0, .str (Str.ofString "name") t0, .str r.name u0⟩, ⟨x1, .str (Str.ofString "kinds") t1, .ref kt⟩, ⟨x2, .str (Str.ofString "opcode") t2, .int op u2⟩, ⟨x3, .str (Str.ofString "escape") t3, .int 0 u3⟩, ⟨x4, .str (Str.ofString "digit") t4, .int (-1) u4⟩,
    ⟨x5, .str (Str.ofString "size") t5, .int r.size u5⟩, ⟨x6, .str (Str.ofString "must") t6, .int 0 u6⟩, ⟨x7, .str (Str.ofString "is_wide") t7, .bool false⟩, ⟨x8, .str (Str.ofString "number") t8, .int (-1) u8⟩, ⟨x9, .str (Str.ofString "places") t9, .ref pl⟩] 10), (pl, ({ cls := .type "tuple", data := .seq ps.toArray n } : Obj))] :=
  ⟨f, fd, pl, (fun n => [x0, x1, x2, x3, x4, x5, x6, x7, x8, x9].getD n 0, fun n => [t0, t1, t2, t3, t4, t5, t6, t7, t8, t9, u0, u2, u3, u4, u5, u6].getD n 0), u8, ps, n, rfl, rfl, h⟩
end

section
open PySem PySem.W PySem.Calls PySem.Spec PyProof.Rows
example : True := by
  w_top off
  k_with_none
  trivial
local macro_rules | `(tactic| walk_at "call ref") => `(tactic| k_extra "z call ref")
local macro_rules | `(tactic| walk_at "eval ListComp") => `(tactic| k_extra "z eval ListComp")
local macro_rules | `(tactic| walk_at "call type:tuple") => `(tactic| k_extra "z call type:tuple")
example : True := by
  k_with_none
  k_with "my_enter" => (refine' enterL ?k1 ?k2 ?k3 ?k4 ?k5 ?kA ?kF ?kK ?k6 ?k7 ?k8 ?k9 ?kB ?_ ?c2 ?c3 ?c4 ?c5; (case kA => exact rfl); (case kF => exact rfl); (case kK => assumption); (case k1 => k_asm); (case k2 => k_asm); (case k3 => k_asm); (case k4 => k_asm); (case k5 => k_asm); (case k6 => k_is); (case k7 => k_is); (case k8 => k_room); (case k9 => exact BindsTo.of_eq rfl); (case c5 => decide); (case kB => exact locs rfl); (case c2 => exact rfl); (case c3 => exact rfl); (case c4 => exact rfl); k_whole; intro g' L' h' hg' FG' F' N' B' X' T'; (try (refine anyTok ?_; intro tkz)); (try dsimp only); (let mz := frMap F'; have Fz : Fr _ _ _ mz := F'); (try k_lift B'); (try k_fold))
  k_with "my_use" => ((case k1 => k_asm); (case k2 => k_asm); (case k3 => k_asm); (case k4 => first | exact News.nil | k_asm); (case k5 => k_asm); (case kK => first | exact rfl | assumption); (case kp => first | trivial | assumption | exact IsetAt.keep (Fr.keep (by k_asm)) (by with_reducible assumption) | exact OpsAt.keep (Fr.keep (by k_asm)) (by with_reducible assumption)); (case kd => first | k_room | ktr_room); (case ku => ktr_units); (case k9 => k_asm))
  k_with "my_clr" => ((repeat (with_reducible rename Fr _ _ _ _ => z9; clear z9)); (repeat (with_reducible rename News _ _ _ _ => z9; clear z9)); (repeat (with_reducible rename Top _ _ _ _ _ _ => z9; clear z9)); (repeat (with_reducible rename Below _ _ _ _ => z9; clear z9)); (repeat (with_reducible rename Heap.StaysIn _ _ => z9; clear z9)); (repeat (with_reducible rename Frag.In _ _ => z9; clear z9)))
  k_with "my_next" => (refine' FPost.next ?_ ?F ?N ?hs; (case F => k_asm); (case N => k_asm); (case hs => lcg_sub))
  k_with "my_endH" => (rename (∀ (b : Addr) (o : Obj), _ → ¬ _ → _) => hg9; refine endH (by assumption) hg9 (by assumption) ?_)
  k_with "my_t3" => (refine ⟨_, rfl, IsT3.of_eq ?_ (IsT3.of_news (by assumption) (by k_mem))⟩)
  k_with "my_if" => ((repeat (with_reducible rename Fr _ _ _ _ => z9; clear z9)); (repeat (with_reducible rename News _ _ _ _ => z9; clear z9)); (repeat (with_reducible rename Top _ _ _ _ _ _ => z9; clear z9)); (repeat (with_reducible rename Below _ _ _ _ => z9; clear z9)); (repeat (with_reducible rename Heap.StaysIn _ _ => z9; clear z9)); (repeat (with_reducible first | (refine pos_eq (by assumption) ?_) | (refine neg_eqB (by assumption) ?_) | (refine neg_eq (by assumption) ?_))); try rfl)
  k_with "my_end1" => (rename (∀ (b : Addr) (o : Obj), _ → ¬ _ → _) => hg9; refine end1 (by assumption) hg9 (by first | exact (fun _ hp => absurd hp List.not_mem_nil) | assumption) (by assumption) (by assumption) (by first | exact (fun _ hp => absurd hp List.not_mem_nil) | k_all) (by k_mem) (by first | exact (fun _ hp => absurd hp List.not_mem_nil) | k_all) ?_)
  k_with "my_end0" => (rename (∀ (b : Addr) (o : Obj), _ → ¬ _ → _) => hg9; refine end0 (by assumption) hg9 (by first | exact (fun _ hp => absurd hp List.not_mem_nil) | assumption) (by assumption) (by assumption) (by first | exact (fun _ hp => absurd hp List.not_mem_nil) | k_all) ?_)
  k_with "my_enterI" => (refine' enterL ?k1 ?k2 ?k3 ?k4 ?k5 ?kA ?kF ?kK ?k6 ?k7 ?k8 ?k9 ?kB ?_ ?c2 ?c3 ?c4 ?c5; (case kA => exact rfl); (case kF => exact rfl); (case kK => assumption); (case k1 => k_asm); (case k2 => k_asm); (case k3 => k_asm); (case k4 => k_asm); (case k5 => k_asm); (case k6 => k_is); (case k7 => k_is); (case k8 => k_room); (case k9 => exact binds_K (by k_in) rfl (by k_is) rfl rfl rfl); (case c5 => decide); (case kB => exact locs rfl); (case c2 => exact rfl); (case c3 => exact rfl); (case c4 => exact rfl); k_whole; intro g' L' h' hg' FG' F' N' B' X' T'; (try (refine anyTok ?_; intro tkz)); (try dsimp only); (let mz := frMap F'; have Fz : Fr _ _ _ mz := F'); (try k_lift B'); (try k_fold))
  k_with "z call ref" => (k_here; (with_reducible show wpAny _ _ (call (Value.ref 190) [Value.str _ _]) _ _ _); k_dflt (refine' useSl (slot_of _ _ _ _ _ _ ?hx ?ho) ?k1 ?k2 ?k3 ?k4 ?k5 ?kK ?kp ?kd ?ku ?k9 ?_); (case hx => first | assumption | omega); (case ho => assumption); (walk_at "my_use"); k_whole; intro t9 y9 ne9 h9 tk9 st9 F9 N9; (try dsimp only); (try k_fold))
  k_with "z eval ListComp" => (k_here; with_reducible refine stopAt3 ?_)
  k_with "z call type:tuple" => (k_here; k_dflt (refine' call_tuple_same ?hT ?_; (case hT => refine' IsTuple.keepF ?F ?x; (case F => k_asm); (case x => with_reducible assumption))))
  k_with "z call type:tuple" => (k_here; (with_reducible show wpAny _ _ (call (Value.type _) [Value.ref _]) _ _ _); k_dflt (refine' kde_tupleOf ?k1 ?k2 ?k3 ?k4 ?k5 ?_; (case k1 => k_asm); (case k2 => k_asm); (case k3 => exact News.isList (by k_asm) (by k_mem)); (case k4 => assumption); (case k5 => exact listId _); k_whole); intro D' h' F' N' l1z; (try k_lt l1z); (try k_sweep))
  trivial
local macro_rules | `(tactic| k_room) => `(tactic| ((try simp only [depth_under_make, depth_under_kw, depth_in1, depth_deeper]); (try dsimp only [ktrTop]); omega))
local macro_rules | `(tactic| k_inst) => `(tactic| (refine' instAt_base ?F ?h1 ?h2; (case F => k_asm); (case h1 => with_reducible assumption); (case h2 => with_reducible assumption)))
local macro_rules | `(tactic| ktr_units) => `(tactic| (have hcL9 := cLine_is; (try simp only [units_in1, units_deeper, units_under_make, Around.mark_units, units_caller]); (try dsimp only [ktrTop]); omega))
-- a test that the path has decided
theorem new_form (w : World) (mean mg mb) (nm : Str) (kt : Addr) (op sz : Int) (t1 t2 t3 t4 t5 t6 : Tok) (ks : List Value) (kinds : List Str) (hks : StrsAre ks kinds) (hkl : kinds.length ≤ 2) (hk3 : ∀ x ∈ kinds, (1 ≤ x.length ∧ x.length ≤ 100) ∧ (Txt.slice x none (some 1) == Str.ofString "o") = false) :
    FSpec 5 w mean mg mb 248 [] [.str nm t1, .ref kt, .int op t2, .int 0 t3, .int (-1) t4, .int sz t5, .int 0 t6, .bool false] (fun h => h.get? kt = some ({ cls := .type "tuple", data := .seq ks.toArray } : Obj)) (FormR ⟨nm, kinds, sz⟩ kt op) := by
  unfold FSpec TopP
  k_fill
  intro dp un gd cn cs a ccd cl outer A₀ base h₀ L m s Q E B F X N T hk hP hdp hu hret
  k_dflt (refine call_clsK (K := top.hd.heap_39 w.params) (fI := 203) F X N (by k_is) (by k_is) (by k_is) ?_)
  k_whole
  intro x1 d1 h1 st1 xn1 dn1 F1 N1 l1
  k_lt2 l1
  k_dflt (walk_at "my_enterI")
  rename (∀ (b : Addr) (o : Obj), _ → ¬ _ → _) => hg9
  have hkt := hg9 _ _ (st1 _ _ hP) (not2 xn1 dn1 hP)
  have bt := tup_base hkt
  have bt2 := tupB hkt
  have hsk : ks.toArray.size ≤ sizeLine := by rw [List.size_toArray, StrsAre.len hks, sizeLine_eq]; omega
  (repeat' (first | (k_unfold; (try dsimp only)) | (k_end; wrow_close) | ((try dsimp only); (first | (with_reducible show wpAny _ _ (exec _ _) _ _ _); (try k_fold); (try (with_reducible rename News _ _ _ _ => zN; dsimp only at zN)) | skip); walk1) | walk1 | (leave1; walk_say "STEP leave1"; try dsimp only) | fail "no step"))
  unfold Stop3
  k_dflt (refine ListComp_UB (F₀ := by k_asm) (by rfl) (by decide) (by rfl) (by decide) (by rfl) ?_)
  (iterate 30 (try first | walk1 | (dsimp only; walk1)))
  k_dflt (refine SrcTup.base (by rfl) (by k_asm) (by k_asm) (by with_reducible assumption) (by assumption) ?_)
  intro g3
  refine comp_ind _ (fun _ y => ∃ (k : Str) (t : Tok), y = .str k t ∧ k ≠ Str.ofString "plus") (by trivial) ?turn ?fin
  case turn =>
    intro i v ys I oI C oC D m₂ h tk E' hi hv hC hx F N off ne
    have hv' : v ∈ ks := by
      have : ks[i]? = some v := by simpa using hv
      exact List.mem_of_getElem? this
    obtain ⟨k, y3, rfl, hkm⟩ := StrsAre.memS hks hv'
    have hk4 := (hk3 k hkm).1
    have hk5 := (hk3 k hkm).2
    obtain ⟨n1', n2', n3'⟩ := ne
    (repeat' (first | (k_unfold; (try dsimp only)) | (k_end; wrow_close) | ((try dsimp only); (first | (with_reducible show wpAny _ _ (exec _ _) _ _ _); (try k_fold); (try (with_reducible rename News _ _ _ _ => zN; dsimp only at zN)) | skip); walk1) | walk1 | (leave1; walk_say "STEP leave1"; try dsimp only) | fail "no step"))
    all_goals first
      | (refine TEnd.mk ?_ (by k_asm) (by k_asm) (by lcg_sub); exact ⟨_, _, rfl, by assumption⟩)
      | fail "left"
  case fin =>
    intro ys hl hy
    have hyz : ys.toArray.size ≤ 16384 := by rw [List.size_toArray, hl, List.size_toArray, StrsAre.len hks]; omega
    unfold LCg.FinE
    intro D h tk F N o1
    simp only [LCg.Off1, and_true] at o1
    (try dsimp only)
    (repeat' (first | (k_unfold; (try dsimp only)) | (k_end; wrow_close) | ((try dsimp only); (first | (with_reducible show wpAny _ _ (exec _ _) _ _ _); (try k_fold); (try (with_reducible rename News _ _ _ _ => zN; dsimp only at zN)) | skip); walk1) | walk1 | (leave1; walk_say "STEP leave1"; try dsimp only) | fail "no step"))
    refine endF (R := FormR ⟨nm, kinds, sz⟩ kt op) (by assumption) st1 xn1 dn1 hg9 (by assumption) (by assumption) (by k_mem) (by k_mem) (by k_mem) ?_
    exact FormR.mk (noPlus_at hy)
end

section
open PySem PySem.W PySem.Calls PySem.Spec PyProof.Rows
example : True := by
  w_top off
  k_with_none
  trivial
example : True := by
  k_with_none
  k_with "my_enter" => (refine' enterL ?k1 ?k2 ?k3 ?k4 ?k5 ?kA ?kF ?kK ?k6 ?k7 ?k8 ?k9 ?kB ?_ ?c2 ?c3 ?c4 ?c5; (case kA => exact rfl); (case kF => exact rfl); (case kK => assumption); (case k1 => k_asm); (case k2 => k_asm); (case k3 => k_asm); (case k4 => k_asm); (case k5 => k_asm); (case k6 => k_is); (case k7 => k_is); (case k8 => k_room); (case k9 => exact BindsTo.of_eq rfl); (case c5 => decide); (case kB => exact locs rfl); (case c2 => exact rfl); (case c3 => exact rfl); (case c4 => exact rfl); k_whole; intro g' L' h' hg' FG' F' N' B' X' T'; (try (refine anyTok ?_; intro tkz)); (try dsimp only); (let mz := frMap F'; have Fz : Fr _ _ _ mz := F'); (try k_lift B'); (try k_fold))
  k_with "my_use" => ((case k1 => k_asm); (case k2 => k_asm); (case k3 => k_asm); (case k4 => first | exact News.nil | k_asm); (case k5 => k_asm); (case kK => first | exact rfl | assumption); (case kp => first | trivial | assumption | exact IsetAt.keep (Fr.keep (by k_asm)) (by with_reducible assumption) | exact OpsAt.keep (Fr.keep (by k_asm)) (by with_reducible assumption)); (case kd => first | k_room | ktr_room); (case ku => ktr_units); (case k9 => k_asm))
  k_with "my_clr" => ((repeat (with_reducible rename Fr _ _ _ _ => z9; clear z9)); (repeat (with_reducible rename News _ _ _ _ => z9; clear z9)); (repeat (with_reducible rename Top _ _ _ _ _ _ => z9; clear z9)); (repeat (with_reducible rename Below _ _ _ _ => z9; clear z9)); (repeat (with_reducible rename Heap.StaysIn _ _ => z9; clear z9)); (repeat (with_reducible rename Frag.In _ _ => z9; clear z9)))
  k_with "my_next" => (refine' FPost.next ?_ ?F ?N ?hs; (case F => k_asm); (case N => k_asm); (case hs => lcg_sub))
  k_with "my_endH" => (rename (∀ (b : Addr) (o : Obj), _ → ¬ _ → _) => hg9; refine endH (by assumption) hg9 (by assumption) ?_)
  k_with "my_t3" => (refine ⟨_, rfl, IsT3.of_eq ?_ (IsT3.of_news (by assumption) (by k_mem))⟩)
  k_with "my_if" => ((repeat (with_reducible rename Fr _ _ _ _ => z9; clear z9)); (repeat (with_reducible rename News _ _ _ _ => z9; clear z9)); (repeat (with_reducible rename Top _ _ _ _ _ _ => z9; clear z9)); (repeat (with_reducible rename Below _ _ _ _ => z9; clear z9)); (repeat (with_reducible rename Heap.StaysIn _ _ => z9; clear z9)); (repeat (with_reducible first | (refine pos_eq (by assumption) ?_) | (refine neg_eqB (by assumption) ?_) | (refine neg_eq (by assumption) ?_))); try rfl)
  k_with "my_end1" => (rename (∀ (b : Addr) (o : Obj), _ → ¬ _ → _) => hg9; refine end1 (by assumption) hg9 (by first | exact (fun _ hp => absurd hp List.not_mem_nil) | assumption) (by assumption) (by assumption) (by first | exact (fun _ hp => absurd hp List.not_mem_nil) | k_all) (by k_mem) (by first | exact (fun _ hp => absurd hp List.not_mem_nil) | k_all) ?_)
  k_with "my_end0" => (rename (∀ (b : Addr) (o : Obj), _ → ¬ _ → _) => hg9; refine end0 (by assumption) hg9 (by first | exact (fun _ hp => absurd hp List.not_mem_nil) | assumption) (by assumption) (by assumption) (by first | exact (fun _ hp => absurd hp List.not_mem_nil) | k_all) ?_)
  trivial
local macro_rules | `(tactic| k_room) => `(tactic| ((try simp only [depth_under_make, depth_under_kw, depth_in1, depth_deeper]); (try dsimp only [ktrTop]); omega))
local macro_rules | `(tactic| k_inst) => `(tactic| (refine' instAt_base ?F ?h1 ?h2; (case F => k_asm); (case h1 => with_reducible assumption); (case h2 => with_reducible assumption)))
local macro_rules | `(tactic| ktr_units) => `(tactic| (have hcL9 := cLine_is; (try simp only [units_in1, units_deeper, units_under_make, Around.mark_units, units_caller]); (try dsimp only [ktrTop]); omega))
-- a test that the path has decided
/-- a Form that stands in a heap -/
inductive FormI (h : Heap) (f : Addr) (r : FR) (kt : Addr) (op num : Int) : Prop
  | mk (fd pl : Addr) (q9 : FV) (u8 : Tok) (ps : List Value) (n : Nat) : h.get? f = some (instObj 248 fd) →
    h.get? fd = some (formD r kt op num pl q9 u8) →
    h.get? pl = some ({ cls := .type "tuple", data := .seq ps.toArray n } : Obj) →
    NoPlus ps → FormI h f r kt op num
theorem FormI.keep {h h' : Heap} {f : Addr} {r : FR} {kt : Addr} {op num : Int} (k : ∀ b o, h.get? b = some o → h'.get? b = some o) (x : FormI h f r kt op num) : FormI h' f r kt op num := by
  obtain ⟨fd, pl, q9, u8, ps, n, a, b, c, d⟩ := x
  exact ⟨fd, pl, q9, u8, ps, n, k _ _ a, k _ _ b, k _ _ c, d⟩
section
variable {prog : Program} {w : World} {A : Around} {E : Value → Shared → Prop} {s : Shared} {h₀ : Heap} {L p : Addr} {m : Str → Option Value}
theorem in_noPlus {ps : List Value} {n : Nat} {t : Tok} {Q : Value → Shared → Prop} (F : Fr h₀ L s.heap m) (hp : h₀.get? p = some ({ cls := .type "tuple", data := .seq ps.toArray n } : Obj)) (np : NoPlus ps) (h : Q (.bool false) s) :
    wpAny (model prog w) A (compareOp .In (.str (Str.ofString "plus") t) (.ref p)) Q E s := by
  refine SeqAt.in_tupleAt (fun y => match y with | .str k _ => k == Str.ofString "plus" | _ => false) (IsTuple.keepF F (tupB hp)) (fun y hy => ?_) ?_
  · obtain ⟨k, t', rfl, _⟩ := np y (by simpa using hy)
    exact (eqGives_str k (Str.ofString "plus") t' t).at _ _
  · have e : ps.toArray.any (fun y => match y with | .str k _ => k == Str.ofString "plus" | _ => false) = false := by
      rw [List.any_toArray, List.any_eq_false]
      intro y hy
      obtain ⟨k, t', rfl, ne⟩ := np y hy
      simpa using ne
    rw [e]; exact h
end
/-- the codes of a Form without a plus -/
def CodesR (op : Int) (v : Value) (own : Led) : Prop := ∃ (l tp : Addr) (n : Nat) (t1 t2 t3 : Tok), v = .ref l ∧ own = [(l, W.listOf #[.ref tp] n), (tp, ({ cls := .type "tuple", data := .seq #[.int 0 t1, .int 0 t2, .int op t3] } : Obj))]
theorem CodesR.mk {op : Int} {l tp : Addr} {n : Nat} {t1 t2 t3 : Tok} : CodesR op (.ref l) [(l, W.listOf #[.ref tp] n), (tp, ({ cls := .type "tuple", data := .seq #[.int 0 t1, .int 0 t2, .int op t3] } : Obj))] := ⟨_, _, _, _, _, _, rfl, rfl⟩
theorem end2' {s : Shared} {g h' : Heap} {L' q r : Addr} {m' : Str → Option Value} {o o2 : Obj} {news' : Led} {Q : Value → Shared → Prop} {R : Value → Led → Prop} {tk' : Nat} (hret : ∀ (v : Value) (own : Led) (h' : Heap) (tk' : Nat), s.heap.StaysIn h' → (∀ p ∈ own, h'.get? p.1 = some p.2 ∧ s.heap.get? p.1 = none) → R v own → Q v { s with heap := h', toks := tk' })
    (hg : ∀ b o, s.heap.get? b = some o → b ∉ ([] : Led).map (·.1) → g.get? b = some o) (F : Fr g L' h' m') (N : News g L' h' news') (hm : (q, o) ∈ news') (hm2 : (r, o2) ∈ news') (hR : R (.ref q) [(q, o), (r, o2)]) :
    Q (.ref q) { s with heap := h', toks := tk' } :=
  hret _ _ _ _ (stays_end0 hg F) (fresh_of (led := []) hg N (fun p hp => by
    rcases List.mem_cons.mp hp with rfl | hp
    · exact hm
    · rw [List.mem_singleton.mp hp]; exact hm2) (fun p hp r hr => absurd hr List.not_mem_nil)) hR
end

section
open PySem PySem.W PySem.Calls PySem.Spec PyProof.Rows
example : True := by
  w_top off
  k_with_none
  trivial
local macro_rules | `(tactic| walk_at "compareOp In str ref") => `(tactic| k_extra "z compareOp In str ref")
example : True := by
  k_with_none
  k_with "my_enter" => (refine' enterL ?k1 ?k2 ?k3 ?k4 ?k5 ?kA ?kF ?kK ?k6 ?k7 ?k8 ?k9 ?kB ?_ ?c2 ?c3 ?c4 ?c5; (case kA => exact rfl); (case kF => exact rfl); (case kK => assumption); (case k1 => k_asm); (case k2 => k_asm); (case k3 => k_asm); (case k4 => k_asm); (case k5 => k_asm); (case k6 => k_is); (case k7 => k_is); (case k8 => k_room); (case k9 => exact BindsTo.of_eq rfl); (case c5 => decide); (case kB => exact locs rfl); (case c2 => exact rfl); (case c3 => exact rfl); (case c4 => exact rfl); k_whole; intro g' L' h' hg' FG' F' N' B' X' T'; (try (refine anyTok ?_; intro tkz)); (try dsimp only); (let mz := frMap F'; have Fz : Fr _ _ _ mz := F'); (try k_lift B'); (try k_fold))
  k_with "my_use" => ((case k1 => k_asm); (case k2 => k_asm); (case k3 => k_asm); (case k4 => first | exact News.nil | k_asm); (case k5 => k_asm); (case kK => first | exact rfl | assumption); (case kp => first | trivial | assumption | exact IsetAt.keep (Fr.keep (by k_asm)) (by with_reducible assumption) | exact OpsAt.keep (Fr.keep (by k_asm)) (by with_reducible assumption)); (case kd => first | k_room | ktr_room); (case ku => ktr_units); (case k9 => k_asm))
  k_with "my_clr" => ((repeat (with_reducible rename Fr _ _ _ _ => z9; clear z9)); (repeat (with_reducible rename News _ _ _ _ => z9; clear z9)); (repeat (with_reducible rename Top _ _ _ _ _ _ => z9; clear z9)); (repeat (with_reducible rename Below _ _ _ _ => z9; clear z9)); (repeat (with_reducible rename Heap.StaysIn _ _ => z9; clear z9)); (repeat (with_reducible rename Frag.In _ _ => z9; clear z9)))
  k_with "my_next" => (refine' FPost.next ?_ ?F ?N ?hs; (case F => k_asm); (case N => k_asm); (case hs => lcg_sub))
  k_with "my_endH" => (rename (∀ (b : Addr) (o : Obj), _ → ¬ _ → _) => hg9; refine endH (by assumption) hg9 (by assumption) ?_)
  k_with "my_t3" => (refine ⟨_, rfl, IsT3.of_eq ?_ (IsT3.of_news (by assumption) (by k_mem))⟩)
  k_with "my_if" => ((repeat (with_reducible rename Fr _ _ _ _ => z9; clear z9)); (repeat (with_reducible rename News _ _ _ _ => z9; clear z9)); (repeat (with_reducible rename Top _ _ _ _ _ _ => z9; clear z9)); (repeat (with_reducible rename Below _ _ _ _ => z9; clear z9)); (repeat (with_reducible rename Heap.StaysIn _ _ => z9; clear z9)); (repeat (with_reducible first | (refine pos_eq (by assumption) ?_) | (refine neg_eqB (by assumption) ?_) | (refine neg_eq (by assumption) ?_))); try rfl)
  k_with "my_end1" => (rename (∀ (b : Addr) (o : Obj), _ → ¬ _ → _) => hg9; refine end1 (by assumption) hg9 (by first | exact (fun _ hp => absurd hp List.not_mem_nil) | assumption) (by assumption) (by assumption) (by first | exact (fun _ hp => absurd hp List.not_mem_nil) | k_all) (by k_mem) (by first | exact (fun _ hp => absurd hp List.not_mem_nil) | k_all) ?_)
  k_with "my_end0" => (rename (∀ (b : Addr) (o : Obj), _ → ¬ _ → _) => hg9; refine end0 (by assumption) hg9 (by first | exact (fun _ hp => absurd hp List.not_mem_nil) | assumption) (by assumption) (by assumption) (by first | exact (fun _ hp => absurd hp List.not_mem_nil) | k_all) ?_)
  k_with "z compareOp In str ref" => (k_here; k_dflt (refine' in_noPlus ?k1 ?k2 ?k3 ?_; (case k1 => k_asm); (case k2 => with_reducible assumption); (case k3 => with_reducible assumption)))
  trivial
local macro_rules | `(tactic| k_room) => `(tactic| ((try simp only [depth_under_make, depth_under_kw, depth_in1, depth_deeper]); (try dsimp only [ktrTop]); omega))
local macro_rules | `(tactic| k_inst) => `(tactic| (refine' instAt_base ?F ?h1 ?h2; (case F => k_asm); (case h1 => with_reducible assumption); (case h2 => with_reducible assumption)))
local macro_rules | `(tactic| ktr_units) => `(tactic| (have hcL9 := cLine_is; (try simp only [units_in1, units_deeper, units_under_make, Around.mark_units, units_caller]); (try dsimp only [ktrTop]); omega))
-- a test that the path has decided
theorem has_plus (w : World) (mean mg mb) (f : Addr) (r : FR) (kt : Addr) (op num : Int) : FSpec 2 w mean mg mb 231 [] [.ref f] (fun h => FormI h f r kt op num) (fun v own => own = [] ∧ ∃ _ : Tok, v = .bool false) := by
  unfold FSpec TopP
  k_fill
  intro dp un gd cn cs a ccd cl outer A₀ base h₀ L m s Q E B F X N T hk hP hdp hu hret
  refine wpAny_call ?_
  k_dflt (walk_at "my_enter")
  rename (∀ (b : Addr) (o : Obj), _ → ¬ _ → _) => hg9
  have hR := hP.keep (toG hg9)
  have hR2 := hR
  obtain ⟨fd, pl, q9, u8, ps, n, ra, rb, rc, rd⟩ := hR
  have bt := tup_base rc
  have bt2 := tupB rc
  (repeat' (first | (k_unfold; (try dsimp only)) | (k_end; wrow_close) | ((try dsimp only); (first | (with_reducible show wpAny _ _ (exec _ _) _ _ _); (try k_fold); (try (with_reducible rename News _ _ _ _ => zN; dsimp only at zN)) | skip); walk1) | walk1 | (leave1; walk_say "STEP leave1"; try dsimp only) | fail "no step"))
  all_goals first
    | ((walk_at "my_end0"); exact boolI rfl)
    | fail "left"
end

section
open PySem PySem.W PySem.Calls PySem.Spec PyProof.Rows
example : True := by
  w_top off
  k_with_none
  trivial
local macro_rules | `(tactic| walk_at "call ref") => `(tactic| k_extra "z call ref")
local macro_rules | `(tactic| walk_at "compareOp In str ref") => `(tactic| k_extra "z compareOp In str ref")
example : True := by
  k_with_none
  k_with "my_enter" => (refine' enterL ?k1 ?k2 ?k3 ?k4 ?k5 ?kA ?kF ?kK ?k6 ?k7 ?k8 ?k9 ?kB ?_ ?c2 ?c3 ?c4 ?c5; (case kA => exact rfl); (case kF => exact rfl); (case kK => assumption); (case k1 => k_asm); (case k2 => k_asm); (case k3 => k_asm); (case k4 => k_asm); (case k5 => k_asm); (case k6 => k_is); (case k7 => k_is); (case k8 => k_room); (case k9 => exact BindsTo.of_eq rfl); (case c5 => decide); (case kB => exact locs rfl); (case c2 => exact rfl); (case c3 => exact rfl); (case c4 => exact rfl); k_whole; intro g' L' h' hg' FG' F' N' B' X' T'; (try (refine anyTok ?_; intro tkz)); (try dsimp only); (let mz := frMap F'; have Fz : Fr _ _ _ mz := F'); (try k_lift B'); (try k_fold))
  k_with "my_use" => ((case k1 => k_asm); (case k2 => k_asm); (case k3 => k_asm); (case k4 => first | exact News.nil | k_asm); (case k5 => k_asm); (case kK => first | exact rfl | assumption); (case kp => first | trivial | assumption | exact IsetAt.keep (Fr.keep (by k_asm)) (by with_reducible assumption) | exact OpsAt.keep (Fr.keep (by k_asm)) (by with_reducible assumption)); (case kd => first | k_room | ktr_room); (case ku => ktr_units); (case k9 => k_asm))
  k_with "my_clr" => ((repeat (with_reducible rename Fr _ _ _ _ => z9; clear z9)); (repeat (with_reducible rename News _ _ _ _ => z9; clear z9)); (repeat (with_reducible rename Top _ _ _ _ _ _ => z9; clear z9)); (repeat (with_reducible rename Below _ _ _ _ => z9; clear z9)); (repeat (with_reducible rename Heap.StaysIn _ _ => z9; clear z9)); (repeat (with_reducible rename Frag.In _ _ => z9; clear z9)))
  k_with "my_next" => (refine' FPost.next ?_ ?F ?N ?hs; (case F => k_asm); (case N => k_asm); (case hs => lcg_sub))
  k_with "my_endH" => (rename (∀ (b : Addr) (o : Obj), _ → ¬ _ → _) => hg9; refine endH (by assumption) hg9 (by assumption) ?_)
  k_with "my_t3" => (refine ⟨_, rfl, IsT3.of_eq ?_ (IsT3.of_news (by assumption) (by k_mem))⟩)
  k_with "my_if" => ((repeat (with_reducible rename Fr _ _ _ _ => z9; clear z9)); (repeat (with_reducible rename News _ _ _ _ => z9; clear z9)); (repeat (with_reducible rename Top _ _ _ _ _ _ => z9; clear z9)); (repeat (with_reducible rename Below _ _ _ _ => z9; clear z9)); (repeat (with_reducible rename Heap.StaysIn _ _ => z9; clear z9)); (repeat (with_reducible first | (refine pos_eq (by assumption) ?_) | (refine neg_eqB (by assumption) ?_) | (refine neg_eq (by assumption) ?_))); try rfl)
  k_with "my_end1" => (rename (∀ (b : Addr) (o : Obj), _ → ¬ _ → _) => hg9; refine end1 (by assumption) hg9 (by first | exact (fun _ hp => absurd hp List.not_mem_nil) | assumption) (by assumption) (by assumption) (by first | exact (fun _ hp => absurd hp List.not_mem_nil) | k_all) (by k_mem) (by first | exact (fun _ hp => absurd hp List.not_mem_nil) | k_all) ?_)
  k_with "my_end0" => (rename (∀ (b : Addr) (o : Obj), _ → ¬ _ → _) => hg9; refine end0 (by assumption) hg9 (by first | exact (fun _ hp => absurd hp List.not_mem_nil) | assumption) (by assumption) (by assumption) (by first | exact (fun _ hp => absurd hp List.not_mem_nil) | k_all) ?_)
  k_with "my_enterC" => (refine' enterLC ?k1 ?k2 ?k3 ?k4 ?k5 ?kA ?kF ?kK ?k6 ?k7 ?k8 ?k9 ?kB ?kD ?_ ?c2 ?c3 ?c4; (case kA => exact rfl); (case kF => exact rfl); (case kK => assumption); (case k1 => k_asm); (case k2 => k_asm); (case k3 => k_asm); (case k4 => k_asm); (case k5 => k_asm); (case k6 => k_is); (case k7 => k_is); (case k8 => k_room); (case k9 => exact BindsTo.of_eq rfl); (case kB => exact rfl); (case kD => decide +kernel); (case c2 => exact rfl); (case c3 => exact rfl); (case c4 => exact rfl); k_whole; intro g' L' h' tk' cells' hg' FG' F' N' Y' B' X' T' l1z; (try k_lt l1z); k_cells Y'; (try simp only [List.cons_append, List.nil_append] at N'); (try (refine anyTok ?_; intro tkz)); (try dsimp only); (let mz := frMap F'; have Fz : Fr _ _ _ mz := F'); (try k_lift B'); (try k_fold))
  k_with "my_use" => ((case k1 => k_asm); (case k2 => k_asm); (case k3 => k_asm); (case k4 => first | exact News.nil | k_asm); (case k5 => k_asm); (case kK => first | exact rfl | assumption); (case kp => exact FormI.keep (Fr.keep (by k_asm)) (by with_reducible assumption)); (case kd => first | k_room | ktr_room); (case ku => ktr_units); (case k9 => k_asm))
  k_with "z call ref" => (k_here; (with_reducible show wpAny _ _ (call (Value.ref 231) _) _ _ _); k_dflt (refine' useB (has_plus _ _ _ _ _ _ _ _ _) ?k1 ?k2 ?k3 ?k4 ?k5 ?kK ?kp ?kd ?ku ?k9 ?_); (walk_at "my_use"); k_whole; intro h9 tk9 st9 F9 N9; (try dsimp only); (try k_fold))
  k_with "z compareOp In str ref" => (k_here; k_dflt (refine' in_noPlus ?k1 ?k2 ?k3 ?_; (case k1 => k_asm); (case k2 => with_reducible assumption); (case k3 => with_reducible assumption)))
  trivial
local macro_rules | `(tactic| k_room) => `(tactic| ((try simp only [depth_under_make, depth_under_kw, depth_in1, depth_deeper]); (try dsimp only [ktrTop]); omega))
local macro_rules | `(tactic| k_inst) => `(tactic| (refine' instAt_base ?F ?h1 ?h2; (case F => k_asm); (case h1 => with_reducible assumption); (case h2 => with_reducible assumption)))
local macro_rules | `(tactic| ktr_units) => `(tactic| (have hcL9 := cLine_is; (try simp only [units_in1, units_deeper, units_under_make, Around.mark_units, units_caller]); (try dsimp only [ktrTop]); omega))
-- a test that the path has decided
theorem formCodes (w : World) (mean mg mb) (f : Addr) (r : FR) (kt : Addr) (op num : Int) : FSpec 4 w mean mg mb 40 [] [.ref f] (fun h => FormI h f r kt op num) (CodesR op) := by
  unfold FSpec TopP
  k_fill
  intro dp un gd cn cs a ccd cl outer A₀ base h₀ L m s Q E B F X N T hk hP hdp hu hret
  refine wpAny_call ?_
  k_dflt (walk_at "my_enterC")
  rename (∀ (b : Addr) (o : Obj), _ → ¬ _ → _) => hg9
  have hR := hP.keep (toG hg9)
  have hR2 := hR
  obtain ⟨fd, pl, q9, u8, ps, n, ra, rb, rc, rd⟩ := hR
  have bt := tup_base rc
  have bt2 := tupB rc
  (repeat' (first | (k_unfold; (try dsimp only)) | (k_end; wrow_close) | ((try dsimp only); (first | (with_reducible show wpAny _ _ (exec _ _) _ _ _); (try k_fold); (try (with_reducible rename News _ _ _ _ => zN; dsimp only at zN)) | skip); walk1) | walk1 | (leave1; walk_say "STEP leave1"; try dsimp only) | fail "no step"))
  exact end2' (by assumption) hg9 (by assumption) (by assumption) (by k_mem) (by k_mem) CodesR.mk
end

section
open PySem PySem.W PySem.Calls PySem.Spec PyProof.Rows
example : True := by
  w_top off
  k_with_none
  trivial
section
variable {w : World} {A : Around} {E : Value → Shared → Prop} {s : Shared} {h₀ : Heap} {L d : Addr} {m : Str → Option Value} {news : Led} {o : Obj} {kvs : List (Str × Value)} {x : Str} {t : Tok} {g : Obj → Led}
theorem notin_namesN {Q : Value → Shared → Prop} (N : News h₀ L s.heap news) (hm : (d, o) ∈ news) (lo : (d == sysModules) = false) (hd : o.IsDictOf (PySem.strKind PRG w) kvs) (hv : valueAt kvs x = none)
    (h : Q (.bool true) { s with toks := s.toks + 1 }) : wpAny (model PRG w) A (compareOp .NotIn (.str x t) (.ref d)) Q E s :=
  wpAny_notIn_of (strKind_is _ w x t) lo (dict_at N hm hd).mapOf (by rw [hv]; exact h)
theorem notin_namesS {Q : Value → Shared → Prop} {v : Value} (N : News h₀ L s.heap news) (hm : (d, o) ∈ news) (lo : (d == sysModules) = false) (hd : o.IsDictOf (PySem.strKind PRG w) kvs) (hv : valueAt kvs x = some v)
    (h : Q (.bool false) { s with toks := s.toks + 1 }) : wpAny (model PRG w) A (compareOp .NotIn (.str x t) (.ref d)) Q E s :=
  wpAny_notIn_of (strKind_is _ w x t) lo (dict_at N hm hd).mapOf (by rw [hv]; exact h)
theorem item_names {value slice : Expr} {v : Value} {Q : Value → Shared → Prop} (N : News h₀ L s.heap news) (hm : (d, o) ∈ news) (hd : o.IsDictOf (PySem.strKind PRG w) kvs) (hv : valueAt kvs x = some v)
    (h : Q v { s with toks := s.toks + 1 })
    (hs : subscripted slice false (.ref d) (.str x t) = operate [.ref d, .str x t] (getItem (.ref d) (.str x t)) := by with_unfolding_all rfl) : wpAny (model PRG w) A (subscriptTail value slice (.ref d) (.str x t)) Q E s :=
  tail_any (dict_at N hm hd).typeIs slot_dict_getitem.lookup (wpAny_getItem_of (strKind_is _ w x t) (dict_at N hm hd).mapOf hv h) hs
end
/-- the dict of codes -/
abbrev TK (w : World) : HeapKind PRG w (List Int) := tupleKind (PySem.intKind PRG w)
def CodeObj (w : World) (o : Obj) (xs : List (List Int × Addr × Value)) : Prop := o.ExactDict ∧ ∃ es ep, o.data = .dict es ep ∧ es.toList = xs.map (entryOfKey (TK w)) ∧ (xs.map (·.1)).Nodup
def KeysIn (w : World) (news : Led) (xs : List (List Int × Addr × Value)) : Prop := ∀ x ∈ xs, ∃ o items n, (x.2.1, o) ∈ news ∧ o.cls = .type "tuple" ∧ o.data = .seq items n ∧ ItemsAre (PySem.intKind PRG w) x.1 items.toList
theorem KeysIn.mono {w : World} {a b : Led} {xs : List (List Int × Addr × Value)} (x : KeysIn w a xs) (h : ∀ p ∈ a, p ∈ b) : KeysIn w b xs := fun y hy => by
  obtain ⟨o, items, n, a1, a2⟩ := x y hy
  exact ⟨o, items, n, h _ a1, a2⟩
section
variable {w : World} {A : Around} {E : Value → Shared → Prop} {s : Shared} {h₀ : Heap} {L d tp : Addr} {m : Str → Option Value} {news : Led} {o : Obj} {xs : List (List Int × Addr × Value)} {a b c : Int} {t1 t2 t3 : Tok} {g : Obj → Led}
theorem codes_at (N : News h₀ L s.heap news) (hm : (d, o) ∈ news) (C : CodeObj w o xs) (K : KeysIn w news xs) : s.heap.DictOfH (TK w) d xs := by
  obtain ⟨c1, es, ep, c2, c3, c4⟩ := C
  refine ⟨o, es, ep, (N _ hm).1, c1, c2, c3, fun x hx => ?_, c4⟩
  obtain ⟨o', items, n, a1, a2, a3, a4⟩ := K x hx
  exact ⟨o', items, n, (N _ a1).1, a2, a3, a4⟩
theorem key_items : ItemsAre (PySem.intKind PRG w) [a, b, c] [Value.int a t1, .int b t2, .int c t3] := .cons (intKind_is _ _ _ _) (.cons (intKind_is _ _ _ _) (.cons (intKind_is _ _ _ _) .nil))
abbrev tupI (a b c : Int) (t1 t2 t3 : Tok) : Obj := { cls := .type "tuple", data := .seq #[.int a t1, .int b t2, .int c t3] }
theorem key_at (N : News h₀ L s.heap news) (hk : (tp, tupI a b c t1 t2 t3) ∈ news) : (TK w).is s.heap [a, b, c] tp := ⟨_, _, _, (N _ hk).1, rfl, rfl, key_items⟩
theorem notin_codes {Q : Value → Shared → Prop} (hu : A.units + 1 < cLine) (N : News h₀ L s.heap news) (hm : (d, o) ∈ news) (lo : (d == sysModules) = false) (C : CodeObj w o xs) (K : KeysIn w news xs) (hk : (tp, tupI a b c t1 t2 t3) ∈ news) (hv : atKey xs [a, b, c] = none)
    (h : ∀ tk, Q (.bool true) { s with toks := tk }) : wpAny (model PRG w) A (compareOp .NotIn (.ref tp) (.ref d)) Q E s :=
  wpAny_notIn_heap (tupleKind_room_in1 hu) (key_at N hk) lo (codes_at N hm C K) (by rw [hv]; exact h _)
theorem set_codes {Q : Unit → Shared → Prop} {v : Value} (hu : A.units + 1 < cLine) (F : Fr h₀ L s.heap m) (N : News h₀ L s.heap news) (U : UpdF d o news g) (C : CodeObj w o xs) (K : KeysIn w news xs) (hk : (tp, tupI a b c t1 t2 t3) ∈ news) (hv : atKey xs [a, b, c] = none) (hz : xs.length ≤ 1000)
    (h : ∀ h' o' tk, Fr h₀ L h' m → News h₀ L h' (g o') → CodeObj w o' (xs ++ [([a, b, c], tp, v)]) → atKey (xs ++ [([a, b, c], tp, v)]) [a, b, c] = some (tp, v) → Q () { s with heap := h', toks := tk }) : wpAny (model PRG w) A (setItem (.ref d) (.ref tp) v) Q E s := by
  have hm : (d, o) ∈ news := by
    obtain ⟨pre, post, rfl, hg, a, b⟩ := U.split
    exact List.mem_append.mpr (.inr (.head _))
  refine wpAny_setItem_heap (hsz := by rw [sizeLine_eq]; omega) (tupleKind_room_in1 hu) (key_at N hk) (codes_at N hm C K) fun h' hd' hs => ?_
  rw [storedH_new hv] at hd'
  obtain ⟨o', es', ep', ho', c1, c2, c3, c4, c5⟩ := hd'
  obtain ⟨F', N'⟩ := upd_news F N U hs ho'
  refine h h' o' _ F' N' ⟨c1, es', ep', c2, c3, c5⟩ ?_
  refine atKey_of_get c5 (i := xs.length) ?_
  simp
theorem item_codes {value slice : Expr} {v : Value} {Q : Value → Shared → Prop} (hu : A.units + 1 < cLine) (N : News h₀ L s.heap news) (hm : (d, o) ∈ news) (C : CodeObj w o xs) (K : KeysIn w news xs) (hk : (tp, tupI a b c t1 t2 t3) ∈ news) (hv : atKey xs [a, b, c] = some (tp, v))
    (h : ∀ tk, Q v { s with toks := tk })
    (hs : subscripted slice false (.ref d) (.ref tp) = operate [.ref d, .ref tp] (getItem (.ref d) (.ref tp)) := by with_unfolding_all rfl) : wpAny (model PRG w) A (subscriptTail value slice (.ref d) (.ref tp)) Q E s := by
  have D := codes_at N hm C K
  exact tail_any D.typeIs slot_dict_getitem.lookup (wpAny_getItem_heap (p := (tp, v)) (tupleKind_room_in1 hu) (key_at N hk) D hv (h _)) hs
end
end

section
open PySem PySem.W PySem.Calls PySem.Spec PyProof.Rows
example : True := by
  w_top off
  k_with_none
  trivial
/-- the objects of a heap but for some -/
def ledOf (g : Heap) (hid : List Addr) : Led := (List.range g.objs.size).filterMap fun a => if a ∈ hid then none else (g.get? a).map fun o => (a, o)
theorem mem_ledOf {g : Heap} {hid : List Addr} {b : Addr} {o : Obj} : (b, o) ∈ ledOf g hid ↔ g.get? b = some o ∧ b ∉ hid := by
  unfold ledOf
  rw [List.mem_filterMap]
  constructor
  · rintro ⟨a, ha, e⟩
    by_cases h : a ∈ hid
    · rw [if_pos h] at e; cases e
    · rw [if_neg h] at e
      obtain ⟨o', h1, h2⟩ := Option.map_eq_some_iff.mp e
      cases h2
      exact ⟨h1, h⟩
  · rintro ⟨h1, h2⟩
    exact ⟨b, List.mem_range.mpr (Heap.lt_size h1), by rw [if_neg h2, h1]; rfl⟩
theorem ledOf_off {g : Heap} {hid : List Addr} : OwnOff (ledOf g hid) hid := fun p hp b hb e => (mem_ledOf.mp hp).2 (e ▸ hb)
/-- a heap that holds a ledger and nothing else -/
def heapOf (h : Heap) (led : Led) : Heap := hideAll h ((List.range h.objs.size).filter fun a => !(led.any fun p => p.1 == a))
theorem heapOf_held {h : Heap} {led : Led} (x : Held led h) : Held led (heapOf h led) := fun p hp => by
  refine hideAll_get _ (x p hp) fun hm => ?_
  have := (List.mem_filter.mp hm).2
  rw [Bool.not_eq_true', List.any_eq_false] at this
  exact absurd (beq_self_eq_true p.1) (by simpa using this p hp)
theorem heapOf_mem {h : Heap} {led : Led} (x : Held led h) {b : Addr} {o : Obj} (e : (heapOf h led).get? b = some o) : (b, o) ∈ led := by
  have e1 : h.get? b = some o := of_hideAll _ e
  have : ∃ p ∈ led, p.1 = b := by
    apply Classical.byContradiction
    intro hn
    have hm : b ∈ (List.range h.objs.size).filter fun a => !(led.any fun p => p.1 == a) := by
      refine List.mem_filter.mpr ⟨List.mem_range.mpr (Heap.lt_size e1), ?_⟩
      rw [Bool.not_eq_true', List.any_eq_false]
      intro p hp he
      exact hn ⟨p, hp, eq_of_beq he⟩
    rw [heapOf, hideAll_none _ hm] at e; cases e
  obtain ⟨p, hp, rfl⟩ := this
  have := x p hp
  rw [e1] at this; cases this
  exact hp
/-- a Form, with the places of its objects -/
inductive FormX (h : Heap) (f fd pl kt : Addr) (r : FR) (op num : Int) (B : Nat) : Prop
  | mk (q9 : FV) (u8 : Tok) (ks ps : List Value) (n : Nat) : (@LT.lt Nat _ f B ∧ @LT.lt Nat _ fd B ∧ @LT.lt Nat _ pl B ∧ @LT.lt Nat _ kt B) →
    h.get? f = some (instObj 248 fd) →
    h.get? fd = some (formD r kt op num pl q9 u8) →
    h.get? pl = some ({ cls := .type "tuple", data := .seq ps.toArray n } : Obj) →
    NoPlus ps →
    h.get? kt = some ({ cls := .type "tuple", data := .seq ks.toArray } : Obj) →
    StrsAre ks r.kinds → FormX h f fd pl kt r op num B
theorem FormX.keep {h h' : Heap} {f fd pl kt : Addr} {r : FR} {op num : Int} {B : Nat} (x : FormX h f fd pl kt r op num B) (k : ∀ b o, (b = f ∨ b = fd ∨ b = pl ∨ b = kt) → h.get? b = some o → h'.get? b = some o) : FormX h' f fd pl kt r op num B := by
  obtain ⟨q9, u8, ks, ps, n, a, b, c, d, e, f', g⟩ := x
  exact ⟨q9, u8, ks, ps, n, a, k _ _ (.inl rfl) b, k _ _ (.inr (.inl rfl)) c, k _ _ (.inr (.inr (.inl rfl))) d, e, k _ _ (.inr (.inr (.inr rfl))) f', g⟩
def FormV (h : Heap) (v : Value) (r : FR) (op num : Int) (B : Nat) : Prop := ∃ f fd pl kt, v = .ref f ∧ FormX h f fd pl kt r op num B
theorem FormV.keep {h h' : Heap} {v : Value} {r : FR} {op num : Int} {B : Nat} (x : FormV h v r op num B) (k : ∀ b o, h.get? b = some o → h'.get? b = some o) : FormV h' v r op num B := by
  obtain ⟨f, fd, pl, kt, e, y⟩ := x
  exact ⟨f, fd, pl, kt, e, y.keep fun b o _ => k b o⟩
theorem FormX.at' {h : Heap} {f fd pl kt : Addr} {r : FR} {op num : Int} {B : Nat} (x : FormX h f fd pl kt r op num B) : FormAt h f r := by
  obtain ⟨q9, u8, ks, ps, n, a, b, c, d, e, f', g⟩ := x
  exact ⟨fd, kt, pl, op, num, q9, u8, ks, 0, b, c, f', g⟩
theorem FormX.formI {h : Heap} {f fd pl kt : Addr} {r : FR} {op num : Int} {B : Nat} (x : FormX h f fd pl kt r op num B) : FormI h f r kt op num := by
  obtain ⟨q9, u8, ks, ps, n, a, b, c, d, e, f', g⟩ := x
  exact ⟨fd, pl, q9, u8, ps, n, b, c, d, e⟩
/-- two Forms at one place are one -/
theorem FormX.same {h : Heap} {f fd pl kt fd' pl' kt' : Addr} {r r' : FR} {op num op' num' : Int} {B : Nat} (x : FormX h f fd pl kt r op num B) (y : FormX h f fd' pl' kt' r' op' num' B) : op = op' ∧ r.name = r'.name := by
  obtain ⟨q9, u8, ks, ps, n, a, b, c, d, e, f', g⟩ := x
  obtain ⟨q9', u8', ks', ps', n', a', b', c', d', e', f'', g'⟩ := y
  rw [b] at b'
  have hfd : fd = fd' := by
    have := congrArg Obj.dict (Option.some.inj b')
    exact Option.some.inj this
  subst hfd
  rw [c] at c'
  have hd := congrArg Obj.data (Option.some.inj c')
  simp [formD, W.dictOf] at hd
  exact ⟨by simp [hd], by simp [hd]⟩
theorem FormX.sameD {h : Heap} {f f' fd pl kt pl' kt' : Addr} {r r' : FR} {op num op' num' : Int} {B : Nat} (x : FormX h f fd pl kt r op num B) (y : FormX h f' fd pl' kt' r' op' num' B) : op = op' := by
  obtain ⟨q9, u8, ks, ps, n, a, b, c, d, e, f', g⟩ := x
  obtain ⟨q9', u8', ks', ps', n', a', b', c', d', e', f'', g'⟩ := y
  rw [c] at c'
  have hd := congrArg Obj.data (Option.some.inj c')
  simp [formD, W.dictOf] at hd
  simp [hd]
theorem FormX.off {h : Heap} {f fd pl kt f2 fd2 pl2 kt2 : Addr} {r r2 : FR} {op num op2 num2 : Int} {B : Nat} (x : FormX h f fd pl kt r op num B) (y : FormX h f2 fd2 pl2 kt2 r2 op2 num2 B) (ne : op ≠ op2) {b : Addr} (hb : b = f2 ∨ b = fd2 ∨ b = pl2 ∨ b = kt2) : b ≠ f ∧ b ≠ fd := by
  refine ⟨?_, ?_⟩
  all_goals
    rintro rfl
    have x' := x
    have y' := y
    obtain ⟨q9, u8, ks, ps, n, a, b, c, d, e, f', g⟩ := x'
    obtain ⟨q9', u8', ks', ps', n', a', b', c', d', e', f'', g'⟩ := y'
  · rcases hb with rfl | rfl | rfl | rfl
    · exact ne (x.same y).1
    · rw [b] at c'; have := congrArg Obj.cls (Option.some.inj c'); simp [formD, W.dictOf, instObj] at this
    · rw [b] at d'; have := congrArg Obj.cls (Option.some.inj d'); simp [instObj] at this
    · rw [b] at f''; have := congrArg Obj.cls (Option.some.inj f''); simp [instObj] at this
  · rcases hb with rfl | rfl | rfl | rfl
    · rw [c] at b'; have := congrArg Obj.cls (Option.some.inj b'); simp [formD, W.dictOf, instObj] at this
    · exact ne (x.sameD y)
    · rw [c] at d'; have := congrArg Obj.cls (Option.some.inj d'); simp [formD, W.dictOf] at this
    · rw [c] at f''; have := congrArg Obj.cls (Option.some.inj f''); simp [formD, W.dictOf] at this
/-- all the Forms -/
def FormsV (h : Heap) (vs : List Value) (rows : List FR) (B : Nat) : Prop := vs.length = rows.length ∧ ∀ j r, rows[j]? = some r → ∃ v num, vs[j]? = some v ∧ FormV h v r (16 + (j : Nat)) num B
theorem FormsV.keep {h h' : Heap} {vs : List Value} {rows : List FR} {B : Nat} (x : FormsV h vs rows B) (k : ∀ b o, h.get? b = some o → h'.get? b = some o) : FormsV h' vs rows B :=
  ⟨x.1, fun j r e => let ⟨v, num, a, b⟩ := x.2 j r e; ⟨v, num, a, b.keep k⟩⟩
theorem FormsV.step {g g' : Heap} {vs : List Value} {rows : List FR} {B : Nat} {i : Nat} {r : FR} {f fd pl kt : Addr} {num num' : Int} {rest : List Addr} (x : FormsV g vs rows B) (hi : rows[i]? = some r) (hv : vs[i]? = some (.ref f)) (y : FormX g f fd pl kt r (16 + (i : Nat)) num B) (hr : ∀ b ∈ rest, B ≤ b)
    (k : ∀ b o, b ∉ f :: fd :: rest → g.get? b = some o → g'.get? b = some o) (z : FormX g' f fd pl kt r (16 + (i : Nat)) num' B) : FormsV g' vs rows B := by
  refine ⟨x.1, fun j r' e => ?_⟩
  obtain ⟨v, num2, a, f2, fd2, pl2, kt2, rfl, b⟩ := x.2 j r' e
  by_cases hj : j = i
  · subst hj
    rw [hi] at e; cases e
    rw [hv] at a; cases a
    exact ⟨_, _, hv, _, _, _, _, rfl, z⟩
  · refine ⟨_, _, a, _, _, _, _, rfl, b.keep fun c o hc hg => k c o (fun hm => ?_) hg⟩
    have ho := y.off b (by omega) hc
    rcases List.mem_cons.mp hm with e1 | hm
    · exact ho.1 e1
    · rcases List.mem_cons.mp hm with e1 | hm
      · exact ho.2 e1
      · have h1 := hr c hm
        obtain ⟨_, _, _, _, _, hlt, _⟩ := b
        rcases hc with rfl | rfl | rfl | rfl
        · exact absurd hlt.1 (Nat.not_lt.mpr h1)
        · exact absurd hlt.2.1 (Nat.not_lt.mpr h1)
        · exact absurd hlt.2.2.1 (Nat.not_lt.mpr h1)
        · exact absurd hlt.2.2.2 (Nat.not_lt.mpr h1)
/-- the Forms of a name among the first i -/
def fvi (vs : List Value) (rows : List FR) (i : Nat) (nm : Str) : List Value := (((vs.zip rows).take i).filter fun p => p.2.name == nm).map Prod.fst
theorem fvi_succ {vs : List Value} {rows : List FR} {i : Nat} {v : Value} {r : FR} (hv : vs[i]? = some v) (hr : rows[i]? = some r) (nm : Str) : fvi vs rows (i + 1) nm = fvi vs rows i nm ++ (if r.name == nm then [v] else []) := by
  unfold fvi
  have e : (vs.zip rows)[i]? = some (v, r) := by simp [List.getElem?_zip_eq_some, hv, hr]
  rw [List.take_add_one, e]
  simp only [Option.toList, List.filter_append, List.map_append, List.filter_cons, List.filter_nil]
  split <;> simp
theorem fvi_mem {vs : List Value} {rows : List FR} {i : Nat} {nm : Str} {v : Value} (h : v ∈ fvi vs rows i nm) : ∃ (j : Nat) (r : FR), vs[j]? = some v ∧ rows[j]? = some r ∧ r.name = nm := by
  obtain ⟨p, hp, rfl⟩ := List.mem_map.mp h
  obtain ⟨h1, h2⟩ := List.mem_filter.mp hp
  obtain ⟨j, hj⟩ := List.mem_iff_getElem?.mp (List.mem_of_mem_take h1)
  have := List.getElem?_zip_eq_some.mp (show (vs.zip rows)[j]? = some (p.1, p.2) from hj)
  exact ⟨j, p.2, this.1, this.2, eq_of_beq h2⟩
theorem fvi_forms {h : Heap} : ∀ {vs : List Value} {rows : List FR} (nm : Str), vs.length = rows.length → (∀ (j : Nat) (r : FR), rows[j]? = some r → ∃ f, vs[j]? = some (.ref f) ∧ FormAt h f r) →
    FormsAt h (((vs.zip rows).filter fun p => p.2.name == nm).map Prod.fst) (rows.filter fun r => r.name == nm)
  | [], [], _, _, _ => .nil
  | v :: vs, r :: rows, nm, hl, hf => by
    have ih : FormsAt h (((vs.zip rows).filter fun p => p.2.name == nm).map Prod.fst) (rows.filter fun r => r.name == nm) := fvi_forms (vs := vs) (rows := rows) nm (by simpa using hl) fun j r' e => by simpa using hf (j + 1) r' (by simpa using e)
    obtain ⟨f, e, a⟩ := hf 0 r (by simp)
    simp at e
    subst e
    rw [List.zip_cons_cons, List.filter_cons, List.filter_cons]
    show FormsAt h (List.map Prod.fst (if (r.name == nm) = true then _ else _)) (if (r.name == nm) = true then _ else _)
    by_cases hn : (r.name == nm) = true
    · rw [if_pos hn, if_pos hn]; exact .cons a ih
    · rw [if_neg hn, if_neg hn]; exact ih
/-- the dict of names -/
def NamesV (w : World) (h : Heap) (vs : List Value) (rows : List FR) (dn dc : Addr) (i : Nat) : Prop := ∃ (on : Obj) (kvs : List (Str × Value)), h.get? dn = some on ∧ on.IsDictOf (PySem.strKind PRG w) kvs ∧ kvs.length ≤ i ∧
  ∀ nm : Str, (valueAt kvs nm = none ∧ fvi vs rows i nm = []) ∨ ∃ ln n, valueAt kvs nm = some (.ref ln) ∧ @LT.lt Nat _ dc ln ∧ h.get? ln = some (W.listOf (fvi vs rows i nm).toArray n) ∧ fvi vs rows i nm ≠ []
/-- the dict of codes -/
def CodesV (w : World) (h : Heap) (dc : Addr) (i : Nat) : Prop := ∃ (oc : Obj) (xs : List (List Int × Addr × Value)), h.get? dc = some oc ∧ CodeObj w oc xs ∧ xs.length ≤ i ∧
  ∀ x ∈ xs, (∃ j, j < i ∧ x.1 = [0, 0, 16 + ((j : Nat) : Int)]) ∧ @LT.lt Nat _ dc x.2.1 ∧ ∃ o items n, h.get? x.2.1 = some o ∧ o.cls = .type "tuple" ∧ o.data = .seq items n ∧ ItemsAre (PySem.intKind PRG w) x.1 items.toList
theorem NamesV.keep {w : World} {h h' : Heap} {vs : List Value} {rows : List FR} {dn dc : Addr} {i : Nat} (x : NamesV w h vs rows dn dc i) (k : ∀ b o, h.get? b = some o → h'.get? b = some o) : NamesV w h' vs rows dn dc i := by
  obtain ⟨on, kvs, a, b, c, d⟩ := x
  refine ⟨on, kvs, k _ _ a, b, c, fun nm => ?_⟩
  rcases d nm with y | ⟨ln, n, y1, y2, y3, y4⟩
  · exact .inl y
  · exact .inr ⟨ln, n, y1, y2, k _ _ y3, y4⟩
theorem CodesV.keep {w : World} {h h' : Heap} {dc : Addr} {i : Nat} (x : CodesV w h dc i) (k : ∀ b o, h.get? b = some o → h'.get? b = some o) : CodesV w h' dc i := by
  obtain ⟨oc, xs, a, b, c, d⟩ := x
  refine ⟨oc, xs, k _ _ a, b, c, fun y hy => ?_⟩
  obtain ⟨d1, d2, o, items, n, d3, d4⟩ := d y hy
  exact ⟨d1, d2, o, items, n, k _ _ d3, d4⟩
theorem CodesV.fresh {w : World} {h : Heap} {dc : Addr} {i : Nat} {xs : List (List Int × Addr × Value)} (d : ∀ x ∈ xs, (∃ j, j < i ∧ x.1 = [0, 0, 16 + ((j : Nat) : Int)])) : atKey xs [0, 0, 16 + (i : Int)] = none := by
  refine atKey_none_of_get fun j p hj => ?_
  obtain ⟨k, hk, e⟩ := d _ (List.mem_of_getElem? hj)
  simp at e
  omega
theorem val_app {kvs : List (Str × Value)} {k nm : Str} {v : Value} (h : valueAt kvs k = none) : valueAt (kvs ++ [(k, v)]) nm = if nm = k then some v else valueAt kvs nm := by
  induction kvs with
  | nil => by_cases e : nm = k <;> simp [valueAt, e, eq_comm]
  | cons p r ih =>
    by_cases e1 : p.1 = k
    · simp [valueAt, e1] at h
    · have h' : valueAt r k = none := by simpa [valueAt, e1] using h
      have ih' := ih h'
      by_cases e2 : p.1 = nm
      · have : nm ≠ k := fun q => e1 (e2.trans q)
        simp [valueAt, e2, this]
      · simpa [valueAt, e2] using ih'
theorem NamesV.stepN {w : World} {g g' : Heap} {vs : List Value} {rows : List FR} {dn dc ln : Addr} {i n : Nat} {v : Value} {r : FR} {on on' : Obj} {kvs : List (Str × Value)} {hid : List Addr} (hv : vs[i]? = some v) (hr : rows[i]? = some r)
    (hl : kvs.length ≤ i) (d : ∀ nm : Str, (valueAt kvs nm = none ∧ fvi vs rows i nm = []) ∨ ∃ ln n, valueAt kvs nm = some (.ref ln) ∧ @LT.lt Nat _ dc ln ∧ g.get? ln = some (W.listOf (fvi vs rows i nm).toArray n) ∧ fvi vs rows i nm ≠ [])
    (hn : valueAt kvs r.name = none) (hh : ∀ b ∈ hid, b ≤ dc) (k : ∀ b o, b ∉ hid → g.get? b = some o → g'.get? b = some o)
    (h1 : g'.get? dn = some on') (h2 : on'.IsDictOf (PySem.strKind PRG w) (stored kvs r.name (.ref ln))) (h3 : g'.get? ln = some (W.listOf #[v] n)) (h4 : @LT.lt Nat _ dc ln) : NamesV w g' vs rows dn dc (i + 1) := by
  refine ⟨on', _, h1, h2, ?_, fun nm => ?_⟩
  · have := stored_length_le kvs r.name (.ref ln)
    omega
  · rw [fvi_succ hv hr]
    have hva : valueAt (stored kvs r.name (.ref ln)) nm = if nm = r.name then some (.ref ln) else valueAt kvs nm := by rw [stored_absent hn]; exact val_app hn
    by_cases e : r.name = nm
    · subst e
      have h0 : fvi vs rows i r.name = [] := by
        rcases d r.name with y | ⟨ln', n', y, _⟩
        · exact y.2
        · rw [hn] at y; cases y
      refine .inr ⟨ln, n, by rw [hva, if_pos rfl], h4, ?_, ?_⟩
      · rw [h0, if_pos (beq_self_eq_true _)]; exact h3
      · rw [h0, if_pos (beq_self_eq_true _)]; simp
    · rw [if_neg (by simpa using e), List.append_nil, hva, if_neg (fun e' => e e'.symm)]
      rcases d nm with y | ⟨ln', n', y1, y2, y3, y4⟩
      · exact .inl y
      · exact .inr ⟨ln', n', y1, y2, k _ _ (fun hm => absurd (hh _ hm) (Nat.not_le.mpr y2)) y3, y4⟩
theorem NamesV.stepS {w : World} {g g' : Heap} {vs : List Value} {rows : List FR} {dn dc ln : Addr} {i n n' B : Nat} {v : Value} {r : FR} {on : Obj} {kvs : List (Str × Value)} {hid : List Addr} (fs : FormsV g vs rows B) (hv : vs[i]? = some v) (hr : rows[i]? = some r)
    (hl : kvs.length ≤ i) (hon : on.IsDictOf (PySem.strKind PRG w) kvs) (d : ∀ nm : Str, (valueAt kvs nm = none ∧ fvi vs rows i nm = []) ∨ ∃ ln n, valueAt kvs nm = some (.ref ln) ∧ @LT.lt Nat _ dc ln ∧ g.get? ln = some (W.listOf (fvi vs rows i nm).toArray n) ∧ fvi vs rows i nm ≠ [])
    (hn : valueAt kvs r.name = some (.ref ln)) (hh : ∀ b ∈ hid, b ≤ dc ∨ b = ln) (k : ∀ b o, b ∉ hid → g.get? b = some o → g'.get? b = some o)
    (h1 : g'.get? dn = some on) (h3 : g'.get? ln = some (W.listOf ((fvi vs rows i r.name).toArray.push v) n')) : NamesV w g' vs rows dn dc (i + 1) := by
  refine ⟨on, _, h1, hon, Nat.le_succ_of_le hl, fun nm => ?_⟩
  rw [fvi_succ hv hr]
  have hln : ∃ n, @LT.lt Nat _ dc ln ∧ g.get? ln = some (W.listOf (fvi vs rows i r.name).toArray n) ∧ fvi vs rows i r.name ≠ [] := by
    rcases d r.name with y | ⟨ln', n', y1, y2, y3, y4⟩
    · rw [hn] at y; cases y.1
    · rw [hn] at y1; cases y1; exact ⟨n', y2, y3, y4⟩
  obtain ⟨n1, z1, z2, z3⟩ := hln
  by_cases e : r.name = nm
  · subst e
    rw [if_pos (beq_self_eq_true _)]
    refine .inr ⟨ln, n', hn, z1, ?_, by simp⟩
    rw [h3]
    simp [W.listOf]
  · rw [if_neg (by simpa using e), List.append_nil]
    rcases d nm with y | ⟨ln', n', y1, y2, y3, y4⟩
    · exact .inl y
    · refine .inr ⟨ln', n', y1, y2, k _ _ (fun hm => ?_) y3, y4⟩
      rcases hh _ hm with q | q
      · exact absurd q (Nat.not_le.mpr y2)
      · subst q
        rw [z2] at y3
        have hd := congrArg Obj.data (Option.some.inj y3)
        simp only [W.listOf] at hd
        injection hd with hd1 hd2
        have e2 : fvi vs rows i r.name = fvi vs rows i nm := by simpa using congrArg Array.toList hd1
        obtain ⟨v', hv'⟩ := List.exists_mem_of_ne_nil _ z3
        obtain ⟨j1, r1, a1, b1, c1⟩ := fvi_mem hv'
        obtain ⟨j2, r2, a2, b2, c2⟩ := fvi_mem (e2 ▸ hv')
        obtain ⟨v1, m1, p1, f1, fd1, pl1, kt1, q1, s1⟩ := fs.2 j1 r1 b1
        obtain ⟨v2, m2, p2, f2, fd2, pl2, kt2, q2, s2⟩ := fs.2 j2 r2 b2
        rw [a1] at p1; cases p1
        rw [a2] at p2; cases p2
        rw [q1] at q2; cases q2
        exact e (c1.symm.trans ((s1.same s2).2.trans c2))
theorem CodesV.step {w : World} {g g' : Heap} {dc tp : Addr} {i : Nat} {oc' : Obj} {xs : List (List Int × Addr × Value)} {v : Value} {t1 t2 t3 : Tok} {hid : List Addr} (hl : xs.length ≤ i)
    (d : ∀ x ∈ xs, (∃ j, j < i ∧ x.1 = [0, 0, 16 + ((j : Nat) : Int)]) ∧ @LT.lt Nat _ dc x.2.1 ∧ ∃ o items n, g.get? x.2.1 = some o ∧ o.cls = .type "tuple" ∧ o.data = .seq items n ∧ ItemsAre (PySem.intKind PRG w) x.1 items.toList)
    (hh : ∀ b ∈ hid, b ≤ dc ∨ ∃ its n, g.get? b = some (W.listOf its n)) (k : ∀ b o, b ∉ hid → g.get? b = some o → g'.get? b = some o)
    (h1 : g'.get? dc = some oc') (h2 : CodeObj w oc' (xs ++ [([0, 0, 16 + (i : Int)], tp, v)])) (h3 : g'.get? tp = some (tupI 0 0 (16 + (i : Int)) t1 t2 t3)) (h4 : @LT.lt Nat _ dc tp) : CodesV w g' dc (i + 1) := by
  refine ⟨oc', _, h1, h2, by simp; omega, fun x hx => ?_⟩
  rcases List.mem_append.mp hx with q | q
  · obtain ⟨⟨j, hj, e⟩, d2, o, items, n, d3, d4, d5, d6⟩ := d x q
    refine ⟨⟨j, by omega, e⟩, d2, o, items, n, k _ _ (fun hm => ?_) d3, d4, d5, d6⟩
    rcases hh _ hm with q | ⟨its, n2, q⟩
    · exact absurd q (Nat.not_le.mpr d2)
    · rw [d3] at q
      have := (Option.some.inj q) ▸ d4
      simp [W.listOf] at this
  · rw [List.mem_singleton.mp q]
    exact ⟨⟨i, by omega, rfl⟩, h4, _, _, _, h3, rfl, rfl, key_items⟩
end

section
open PySem PySem.W PySem.Calls PySem.Spec PyProof.Rows
example : True := by
  w_top off
  k_with_none
  trivial
example : True := by
  k_with_none
  k_with "my_enter" => (refine' enterL ?k1 ?k2 ?k3 ?k4 ?k5 ?kA ?kF ?kK ?k6 ?k7 ?k8 ?k9 ?kB ?_ ?c2 ?c3 ?c4 ?c5; (case kA => exact rfl); (case kF => exact rfl); (case kK => assumption); (case k1 => k_asm); (case k2 => k_asm); (case k3 => k_asm); (case k4 => k_asm); (case k5 => k_asm); (case k6 => k_is); (case k7 => k_is); (case k8 => k_room); (case k9 => exact BindsTo.of_eq rfl); (case c5 => decide); (case kB => exact locs rfl); (case c2 => exact rfl); (case c3 => exact rfl); (case c4 => exact rfl); k_whole; intro g' L' h' hg' FG' F' N' B' X' T'; (try (refine anyTok ?_; intro tkz)); (try dsimp only); (let mz := frMap F'; have Fz : Fr _ _ _ mz := F'); (try k_lift B'); (try k_fold))
  k_with "my_use" => ((case k1 => k_asm); (case k2 => k_asm); (case k3 => k_asm); (case k4 => first | exact News.nil | k_asm); (case k5 => k_asm); (case kK => first | exact rfl | assumption); (case kp => first | trivial | assumption | exact IsetAt.keep (Fr.keep (by k_asm)) (by with_reducible assumption) | exact OpsAt.keep (Fr.keep (by k_asm)) (by with_reducible assumption)); (case kd => first | k_room | ktr_room); (case ku => ktr_units); (case k9 => k_asm))
  k_with "my_clr" => ((repeat (with_reducible rename Fr _ _ _ _ => z9; clear z9)); (repeat (with_reducible rename News _ _ _ _ => z9; clear z9)); (repeat (with_reducible rename Top _ _ _ _ _ _ => z9; clear z9)); (repeat (with_reducible rename Below _ _ _ _ => z9; clear z9)); (repeat (with_reducible rename Heap.StaysIn _ _ => z9; clear z9)); (repeat (with_reducible rename Frag.In _ _ => z9; clear z9)))
  k_with "my_next" => (refine' FPost.next ?_ ?F ?N ?hs; (case F => k_asm); (case N => k_asm); (case hs => lcg_sub))
  k_with "my_endH" => (rename (∀ (b : Addr) (o : Obj), _ → ¬ _ → _) => hg9; refine endH (by assumption) hg9 (by assumption) ?_)
  k_with "my_t3" => (refine ⟨_, rfl, IsT3.of_eq ?_ (IsT3.of_news (by assumption) (by k_mem))⟩)
  k_with "my_if" => ((repeat (with_reducible rename Fr _ _ _ _ => z9; clear z9)); (repeat (with_reducible rename News _ _ _ _ => z9; clear z9)); (repeat (with_reducible rename Top _ _ _ _ _ _ => z9; clear z9)); (repeat (with_reducible rename Below _ _ _ _ => z9; clear z9)); (repeat (with_reducible rename Heap.StaysIn _ _ => z9; clear z9)); (repeat (with_reducible first | (refine pos_eq (by assumption) ?_) | (refine neg_eqB (by assumption) ?_) | (refine neg_eq (by assumption) ?_))); try rfl)
  k_with "my_end1" => (rename (∀ (b : Addr) (o : Obj), _ → ¬ _ → _) => hg9; refine end1 (by assumption) hg9 (by first | exact (fun _ hp => absurd hp List.not_mem_nil) | assumption) (by assumption) (by assumption) (by first | exact (fun _ hp => absurd hp List.not_mem_nil) | k_all) (by k_mem) (by first | exact (fun _ hp => absurd hp List.not_mem_nil) | k_all) ?_)
  k_with "my_end0" => (rename (∀ (b : Addr) (o : Obj), _ → ¬ _ → _) => hg9; refine end0 (by assumption) hg9 (by first | exact (fun _ hp => absurd hp List.not_mem_nil) | assumption) (by assumption) (by assumption) (by first | exact (fun _ hp => absurd hp List.not_mem_nil) | k_all) ?_)
  trivial
local macro_rules | `(tactic| k_room) => `(tactic| ((try simp only [depth_under_make, depth_under_kw, depth_in1, depth_deeper]); (try dsimp only [ktrTop]); omega))
local macro_rules | `(tactic| k_inst) => `(tactic| (refine' instAt_base ?F ?h1 ?h2; (case F => k_asm); (case h1 => with_reducible assumption); (case h2 => with_reducible assumption)))
local macro_rules | `(tactic| ktr_units) => `(tactic| (have hcL9 := cLine_is; (try simp only [units_in1, units_deeper, units_under_make, Around.mark_units, units_caller]); (try dsimp only [ktrTop]); omega))
-- a test that the path has decided
/-- a call that may change the objects of its arguments' ledger -/
abbrev FSpecL (k : Nat) (w : World) (mean : ExcName → Option Value) (mg mb : Str → Option Value) (f : Addr) (led : Led) (vs : List Value) (R : Value → Led → Prop) : Prop :=
  ∀ (dp un : Nat) (gd : Option (List Code)) (cn : Str) (cs : Scope) (a : Addr) (ccd : Value) (cl : List (Str × Addr)) (outer : List Env) (A₀ : Around) (base h₀ : Heap) (L : Addr) (m : Str → Option Value) (s : Shared) (Q E : Value → Shared → Prop),
    Below A₀ base outer h₀ → Fr h₀ L s.heap m → (top.hd.heap_39 w.params).In h₀ → News h₀ L s.heap led → TopP mean mg mb h₀ → cs.kind = .function →
    dp + k < recursionLimit → un + 20 * k < cLine →
    (∀ (v : Value) (own : Led) (h' : Heap) (tk' : Nat), (∀ b o, s.heap.get? b = some o → b ∉ led.map (·.1) → h'.get? b = some o) → (∀ p ∈ own, h'.get? p.1 = some p.2 ∧ (s.heap.get? p.1 = none ∨ p.1 ∈ led.map (·.1))) → R v own → Q v { s with heap := h', toks := tk' }) →
    wpAny (model PySem.Challenge.rw_nz0170_01.row.prog w) (ktrTop dp un gd cn cs L a ccd cl outer) (call (.ref f) vs) Q E s
theorem allLt_ne {d : Addr} {T : Led} (h : AllLt d T) : ∀ p ∈ T, p.1 ≠ d := by
  induction T with
  | nil => exact fun _ hp => nomatch hp
  | cons q r ih =>
    intro p hp
    rcases List.mem_cons.mp hp with rfl | hp
    · exact Nat.ne_of_lt h.1
    · exact ih h.2 p hp
theorem ltAll {d : Addr} {T : Led} (h : ∀ p ∈ T, p.1 < d) : ∀ p ∈ T, p.1 ≠ d := fun p hp => Nat.ne_of_lt (h p hp)
section
variable {prog : Program} {w : World} {A : Around} {K : Frag} {C : Addr} {s : Shared} {h₀ : Heap} {L : Addr} {m : Str → Option Value} {news : Led} {E Q : Value → Shared → Prop}
theorem call_clsL {pos : List Value} {kw : List (Str × Value)} {fI : Addr} (F : Fr h₀ L s.heap m) (X₀ : K.In h₀) (N : News h₀ L s.heap news) (hm : makesIn K C = true) (hi : findIn K (.ref C) "__init__" = some (some (.ref fI))) (hf : isFn K (.ref fI) = true)
    (h : ∀ x dx h', s.heap.StaysIn h' → s.heap.get? x = none → s.heap.get? dx = none → (∀ b o, s.heap.get? b = some o → @LT.lt Nat _ b dx) → Fr h₀ L h' m → News h₀ L h' ((x, instObj C dx) :: (dx, dictOf [] 0) :: news) → dx < x →
      codeAny (model prog w) (A.under (.builtin "type.__call__" ⟨.ref C :: pos, kw⟩)) (.call (.ref fI) ⟨.ref x :: pos, kw⟩) (InitBack x fun r s' => match r with | .ok (.ret v) => Q v s' | .ok _ => False | .error e => E e s') { s with heap := h' }) :
    wpAny (model prog w) A (call (.ref C) pos kw) Q E s := by
  refine wpAny_call ?_
  have X := X₀.keeps F.keep
  obtain ⟨hh, g, d, t, os⟩ := s
  have N' := (N.push F emptyDict).push (F.push _) (instObj C hh.objs.size)
  rw [Heap.size_push] at N'
  refine make_core (makes_of X hm) (looks_findIn X hi) (fun self => bind_fn X self (beq_iff_eq.mp hf)) (.inl rfl) (h _ hh.objs.size _ (fun b o e => Heap.get?_push_of_some _ (Heap.get?_push_of_some _ e)) (Heap.get?_none_of_le (Nat.le_succ _)) (Heap.get?_none_of_le (Nat.le_refl _)) (fun b o e => Heap.lt_size e) ((F.push _).push _) N' (Nat.lt_succ_self _))
end
theorem FormsV.bound {h : Heap} {vs : List Value} {rows : List FR} {B B' : Nat} (x : FormsV h vs rows B') (hb : ∀ b o, h.get? b = some o → @LT.lt Nat _ b B) : FormsV h vs rows B := by
  refine ⟨x.1, fun j r e => ?_⟩
  obtain ⟨v, num, a, f, fd, pl, kt, e2, q9, u8, ks, ps, n, _, b, c, d, e', f', g⟩ := x.2 j r e
  exact ⟨v, num, a, f, fd, pl, kt, e2, q9, u8, ks, ps, n, ⟨hb _ _ b, hb _ _ c, hb _ _ d, hb _ _ f'⟩, b, c, d, e', f', g⟩
def isD (o : Obj) : Bool := match o.cls with | .type "dict" => true | _ => false
/-- an instruction set, told by its objects -/
def IsetR (w : World) (led : Led) (rows : List FR) (v : Value) (own : Led) : Prop := ∃ ia fv, v = .ref ia ∧ (∀ g, Held own g → IsetAt w g ia rows fv) ∧ ∀ p ∈ led, isD p.2 = false → p ∈ own
end

section
open PySem PySem.W PySem.Calls PySem.Spec PyProof.Rows
example : True := by
  w_top off
  k_with_none
  trivial
theorem frExt {h₀ h : Heap} {L : Addr} {m m' : Str → Option Value} (F : Fr h₀ L h m) (e : ∀ y, m y = m' y) : Fr h₀ L h m' := by
  have : m = m' := funext e
  exact this ▸ F
/-- the names of InstructionSet's maker -/
def mI (x1 D : Addr) (a b c : Option Value) : Str → Option Value := fun y => if y = Str.ofString "code" then c else if y = Str.ofString "form" then b else if y = Str.ofString "number" then a else if y = Str.ofString "self" then some (.ref x1) else if y = Str.ofString "forms" then some (.ref D) else none
/-- how a turn ends, the name new -/
inductive PostNx (w : World) (g : Heap) (L : Addr) (s : Shared) (I : Addr) (it : Obj) (x1 d1 fl dn dc D f fd : Addr) (sd inst : Obj) (fD : Tok → Obj) (fls : Obj) (r : FR) (kvs : List (Str × Value)) (xs : List (List Int × Addr × Value)) (op : Int) (T : Led) (s' : Shared) : Prop
  | mk (h' : Heap) (tk' : Nat) (a : Option Value) (b : Option Value) (c : Option Value) (on' : Obj) (oc' : Obj) (ln : Addr) (nln : Nat) (tp : Addr) (t1 : Tok) (t2 : Tok) (t3 : Tok) (v' : Value) (u8 : Tok) : s' = { s with heap := h', toks := tk' } →
    Fr g L h' (mI x1 D a b c) →
    News g L h' ((I, it) :: (dc, oc') :: (dn, on') :: (f, inst) :: (fd, fD u8) :: (fl, fls) :: (x1, instObj 113 d1) :: (d1, sd) :: (ln, W.listOf #[.ref f] nln) :: (tp, tupI 0 0 op t1 t2 t3) :: T) →
    on'.IsDictOf (PySem.strKind PRG w) (stored kvs r.name (.ref ln)) →
    CodeObj w oc' (xs ++ [([0, 0, op], tp, v')]) →
    @LT.lt Nat _ dc ln →
    @LT.lt Nat _ dc tp →
    @Ne Nat ln I →
    @Ne Nat tp I → PostNx w g L s I it x1 d1 fl dn dc D f fd sd inst fD fls r kvs xs op T s'
def PostN (w : World) (g : Heap) (L : Addr) (s : Shared) (I : Addr) (it : Obj) (x1 d1 fl dn dc D f fd : Addr) (sd inst : Obj) (fD : Tok → Obj) (fls : Obj) (r : FR) (kvs : List (Str × Value)) (xs : List (List Int × Addr × Value)) (op : Int) (T : Led) (fl' : Flow) (s' : Shared) : Prop :=
  match fl' with
  | .next => PostNx w g L s I it x1 d1 fl dn dc D f fd sd inst fD fls r kvs xs op T s'
  | _ => False
/-- how a turn ends, the name known -/
inductive PostSx (w : World) (g : Heap) (L : Addr) (s : Shared) (I : Addr) (it : Obj) (x1 d1 fl dn dc D f fd ln : Addr) (sd inst : Obj) (fD : Tok → Obj) (fls on : Obj) (us : List Value) (xs : List (List Int × Addr × Value)) (op : Int) (T : Led) (s' : Shared) : Prop
  | mk (h' : Heap) (tk' : Nat) (a : Option Value) (b : Option Value) (c : Option Value) (oc' : Obj) (nln : Nat) (tp : Addr) (t1 : Tok) (t2 : Tok) (t3 : Tok) (v' : Value) (u8 : Tok) : s' = { s with heap := h', toks := tk' } →
    Fr g L h' (mI x1 D a b c) →
    News g L h' ((I, it) :: (dc, oc') :: (dn, on) :: (f, inst) :: (fd, fD u8) :: (fl, fls) :: (x1, instObj 113 d1) :: (d1, sd) :: (ln, W.listOf (us.toArray.push (.ref f)) nln) :: (tp, tupI 0 0 op t1 t2 t3) :: T) →
    CodeObj w oc' (xs ++ [([0, 0, op], tp, v')]) →
    @LT.lt Nat _ dc tp →
    @Ne Nat tp I → PostSx w g L s I it x1 d1 fl dn dc D f fd ln sd inst fD fls on us xs op T s'
def PostS (w : World) (g : Heap) (L : Addr) (s : Shared) (I : Addr) (it : Obj) (x1 d1 fl dn dc D f fd ln : Addr) (sd inst : Obj) (fD : Tok → Obj) (fls on : Obj) (us : List Value) (xs : List (List Int × Addr × Value)) (op : Int) (T : Led) (fl' : Flow) (s' : Shared) : Prop :=
  match fl' with
  | .next => PostSx w g L s I it x1 d1 fl dn dc D f fd ln sd inst fD fls on us xs op T s'
  | _ => False
theorem get_ne {h : Heap} {a b : Addr} {o p : Obj} (ea : h.get? a = some o) (eb : h.get? b = some p) (n : o.cls ≠ p.cls) : a ≠ b := fun e => n (by rw [e, eb] at ea; exact congrArg Obj.cls (Option.some.inj ea).symm)
theorem fm {α : Type} {P : α → Prop} {a : α} {l : List α} (h : P a) (h2 : ∀ x ∈ l, P x) : ∀ x ∈ a :: l, P x := List.forall_mem_cons.mpr ⟨h, h2⟩
theorem fm0 {α : Type} {P : α → Prop} : ∀ x ∈ ([] : List α), P x := fun _ h => absurd h List.not_mem_nil
theorem nin {α : Type} {a b : α} {l : List α} (h : b ≠ a) (h2 : b ∉ l) : b ∉ a :: l := fun hm => (List.mem_cons.mp hm).elim h h2
theorem nin0 {α : Type} {b : α} : b ∉ ([] : List α) := List.not_mem_nil
section
variable {I f fd fl x1 d1 dn dc ln tp : Addr}
theorem hhid8 (o1 : @LT.lt Nat _ d1 x1) (o2 : @LT.lt Nat _ x1 fl) (o3 : @LT.lt Nat _ fl dn) (o4 : @LT.lt Nat _ dn dc) (lc : @LT.lt Nat _ dc I) : ∀ b ∈ [I, f, fd, fl, x1, d1, dn, dc], b = f ∨ b = fd ∨ @LE.le Nat _ d1 b := by
  have a1 : @LT.lt Nat _ d1 fl := Nat.lt_trans o1 o2
  have a2 : @LT.lt Nat _ d1 dn := Nat.lt_trans a1 o3
  have a3 : @LT.lt Nat _ d1 dc := Nat.lt_trans a2 o4
  exact fm (.inr (.inr (Nat.le_of_lt (Nat.lt_trans a3 lc)))) (fm (.inl rfl) (fm (.inr (.inl rfl)) (fm (.inr (.inr (Nat.le_of_lt a1))) (fm (.inr (.inr (Nat.le_of_lt o1))) (fm (.inr (.inr (Nat.le_refl _))) (fm (.inr (.inr (Nat.le_of_lt a2))) (fm (.inr (.inr (Nat.le_of_lt a3))) fm0)))))))
theorem hhid9 (o1 : @LT.lt Nat _ d1 x1) (o2 : @LT.lt Nat _ x1 fl) (o3 : @LT.lt Nat _ fl dn) (o4 : @LT.lt Nat _ dn dc) (lc : @LT.lt Nat _ dc I) (ll : @LT.lt Nat _ dc ln) : ∀ b ∈ [I, f, fd, fl, x1, d1, dn, dc, ln], b = f ∨ b = fd ∨ @LE.le Nat _ d1 b := by
  have a1 : @LT.lt Nat _ d1 fl := Nat.lt_trans o1 o2
  have a2 : @LT.lt Nat _ d1 dn := Nat.lt_trans a1 o3
  have a3 : @LT.lt Nat _ d1 dc := Nat.lt_trans a2 o4
  exact fm (.inr (.inr (Nat.le_of_lt (Nat.lt_trans a3 lc)))) (fm (.inl rfl) (fm (.inr (.inl rfl)) (fm (.inr (.inr (Nat.le_of_lt a1))) (fm (.inr (.inr (Nat.le_of_lt o1))) (fm (.inr (.inr (Nat.le_refl _))) (fm (.inr (.inr (Nat.le_of_lt a2))) (fm (.inr (.inr (Nat.le_of_lt a3))) (fm (.inr (.inr (Nat.le_of_lt (Nat.lt_trans a3 ll)))) fm0))))))))
theorem hrest5 (o1 : @LT.lt Nat _ d1 x1) (o2 : @LT.lt Nat _ x1 fl) (o3 : @LT.lt Nat _ fl dn) (o4 : @LT.lt Nat _ dn dc) : ∀ b ∈ [fl, x1, d1, dn, dc], @LE.le Nat _ d1 b := by
  have a1 : @LT.lt Nat _ d1 fl := Nat.lt_trans o1 o2
  have a2 : @LT.lt Nat _ d1 dn := Nat.lt_trans a1 o3
  have a3 : @LT.lt Nat _ d1 dc := Nat.lt_trans a2 o4
  exact fm (Nat.le_of_lt a1) (fm (Nat.le_of_lt o1) (fm (Nat.le_refl _) (fm (Nat.le_of_lt a2) (fm (Nat.le_of_lt a3) fm0))))
theorem hrest6 (o1 : @LT.lt Nat _ d1 x1) (o2 : @LT.lt Nat _ x1 fl) (o3 : @LT.lt Nat _ fl dn) (o4 : @LT.lt Nat _ dn dc) (ll : @LT.lt Nat _ dc ln) : ∀ b ∈ [fl, x1, d1, dn, dc, ln], @LE.le Nat _ d1 b := by
  have a1 : @LT.lt Nat _ d1 fl := Nat.lt_trans o1 o2
  have a2 : @LT.lt Nat _ d1 dn := Nat.lt_trans a1 o3
  have a3 : @LT.lt Nat _ d1 dc := Nat.lt_trans a2 o4
  exact fm (Nat.le_of_lt a1) (fm (Nat.le_of_lt o1) (fm (Nat.le_refl _) (fm (Nat.le_of_lt a2) (fm (Nat.le_of_lt a3) (fm (Nat.le_of_lt (Nat.lt_trans a3 ll)) fm0)))))
theorem hpl7 (o1 : @LT.lt Nat _ d1 x1) (o2 : @LT.lt Nat _ x1 fl) (o3 : @LT.lt Nat _ fl dn) (o4 : @LT.lt Nat _ dn dc) : ∀ b, b ≠ f → b ≠ fd → @LT.lt Nat _ b d1 → b ∉ [f, fd, fl, x1, d1, dn, dc] := fun b h1 h2 h3 => by
  have a1 : @LT.lt Nat _ d1 fl := Nat.lt_trans o1 o2
  have a2 : @LT.lt Nat _ d1 dn := Nat.lt_trans a1 o3
  have a3 : @LT.lt Nat _ d1 dc := Nat.lt_trans a2 o4
  exact nin (h1) (nin (h2) (nin (Nat.ne_of_lt (Nat.lt_trans h3 a1)) (nin (Nat.ne_of_lt (Nat.lt_trans h3 o1)) (nin (Nat.ne_of_lt h3) (nin (Nat.ne_of_lt (Nat.lt_trans h3 a2)) (nin (Nat.ne_of_lt (Nat.lt_trans h3 a3)) nin0))))))
theorem hpl8 (o1 : @LT.lt Nat _ d1 x1) (o2 : @LT.lt Nat _ x1 fl) (o3 : @LT.lt Nat _ fl dn) (o4 : @LT.lt Nat _ dn dc) (ll : @LT.lt Nat _ dc ln) : ∀ b, b ≠ f → b ≠ fd → @LT.lt Nat _ b d1 → b ∉ [f, fd, fl, x1, d1, dn, dc, ln] := fun b h1 h2 h3 => by
  have a1 : @LT.lt Nat _ d1 fl := Nat.lt_trans o1 o2
  have a2 : @LT.lt Nat _ d1 dn := Nat.lt_trans a1 o3
  have a3 : @LT.lt Nat _ d1 dc := Nat.lt_trans a2 o4
  exact nin (h1) (nin (h2) (nin (Nat.ne_of_lt (Nat.lt_trans h3 a1)) (nin (Nat.ne_of_lt (Nat.lt_trans h3 o1)) (nin (Nat.ne_of_lt h3) (nin (Nat.ne_of_lt (Nat.lt_trans h3 a2)) (nin (Nat.ne_of_lt (Nat.lt_trans h3 a3)) (nin (Nat.ne_of_lt (Nat.lt_trans h3 (Nat.lt_trans a3 ll))) nin0)))))))
theorem hle7 (b1 : @LT.lt Nat _ f d1) (b2 : @LT.lt Nat _ fd d1) (o1 : @LT.lt Nat _ d1 x1) (o2 : @LT.lt Nat _ x1 fl) (o3 : @LT.lt Nat _ fl dn) (o4 : @LT.lt Nat _ dn dc) : ∀ b ∈ [f, fd, fl, x1, d1, dn, dc], @LE.le Nat _ b dc := by
  have c1 : @LT.lt Nat _ fl dc := Nat.lt_trans o3 o4
  have c2 : @LT.lt Nat _ x1 dc := Nat.lt_trans o2 c1
  have c3 : @LT.lt Nat _ d1 dc := Nat.lt_trans o1 c2
  have c4 : @LT.lt Nat _ f dc := Nat.lt_trans b1 c3
  have c5 : @LT.lt Nat _ fd dc := Nat.lt_trans b2 c3
  exact fm (Nat.le_of_lt c4) (fm (Nat.le_of_lt c5) (fm (Nat.le_of_lt c1) (fm (Nat.le_of_lt c2) (fm (Nat.le_of_lt c3) (fm (Nat.le_of_lt o4) (fm (Nat.le_refl _) fm0))))))
theorem hle8 (b1 : @LT.lt Nat _ f d1) (b2 : @LT.lt Nat _ fd d1) (o1 : @LT.lt Nat _ d1 x1) (o2 : @LT.lt Nat _ x1 fl) (o3 : @LT.lt Nat _ fl dn) (o4 : @LT.lt Nat _ dn dc) : ∀ b ∈ [f, fd, fl, x1, d1, dn, dc, ln], (@LE.le Nat _ b dc ∨ b = ln) := by
  have c1 : @LT.lt Nat _ fl dc := Nat.lt_trans o3 o4
  have c2 : @LT.lt Nat _ x1 dc := Nat.lt_trans o2 c1
  have c3 : @LT.lt Nat _ d1 dc := Nat.lt_trans o1 c2
  have c4 : @LT.lt Nat _ f dc := Nat.lt_trans b1 c3
  have c5 : @LT.lt Nat _ fd dc := Nat.lt_trans b2 c3
  exact fm (.inl (Nat.le_of_lt c4)) (fm (.inl (Nat.le_of_lt c5)) (fm (.inl (Nat.le_of_lt c1)) (fm (.inl (Nat.le_of_lt c2)) (fm (.inl (Nat.le_of_lt c3)) (fm (.inl (Nat.le_of_lt o4)) (fm (.inl (Nat.le_refl _)) (fm (.inr rfl) fm0)))))))
theorem far7 {b : Addr} (b1 : @LT.lt Nat _ f d1) (b2 : @LT.lt Nat _ fd d1) (o1 : @LT.lt Nat _ d1 x1) (o2 : @LT.lt Nat _ x1 fl) (o3 : @LT.lt Nat _ fl dn) (o4 : @LT.lt Nat _ dn dc) (h : b ≠ I) (d2 : @LT.lt Nat _ dc b) : b ∉ [I, f, fd, fl, x1, d1, dn, dc] := by
  have c1 : @LT.lt Nat _ fl dc := Nat.lt_trans o3 o4
  have c2 : @LT.lt Nat _ x1 dc := Nat.lt_trans o2 c1
  have c3 : @LT.lt Nat _ d1 dc := Nat.lt_trans o1 c2
  have c4 : @LT.lt Nat _ f dc := Nat.lt_trans b1 c3
  have c5 : @LT.lt Nat _ fd dc := Nat.lt_trans b2 c3
  exact nin (h) (nin (Nat.ne_of_gt (Nat.lt_trans c4 d2)) (nin (Nat.ne_of_gt (Nat.lt_trans c5 d2)) (nin (Nat.ne_of_gt (Nat.lt_trans c1 d2)) (nin (Nat.ne_of_gt (Nat.lt_trans c2 d2)) (nin (Nat.ne_of_gt (Nat.lt_trans c3 d2)) (nin (Nat.ne_of_gt (Nat.lt_trans o4 d2)) (nin (Nat.ne_of_gt d2) nin0)))))))
theorem far8 {b : Addr} (b1 : @LT.lt Nat _ f d1) (b2 : @LT.lt Nat _ fd d1) (o1 : @LT.lt Nat _ d1 x1) (o2 : @LT.lt Nat _ x1 fl) (o3 : @LT.lt Nat _ fl dn) (o4 : @LT.lt Nat _ dn dc) (h : b ≠ I) (d2 : @LT.lt Nat _ dc b) (hl : b ≠ ln) : b ∉ [I, f, fd, fl, x1, d1, dn, dc, ln] := by
  have c1 : @LT.lt Nat _ fl dc := Nat.lt_trans o3 o4
  have c2 : @LT.lt Nat _ x1 dc := Nat.lt_trans o2 c1
  have c3 : @LT.lt Nat _ d1 dc := Nat.lt_trans o1 c2
  have c4 : @LT.lt Nat _ f dc := Nat.lt_trans b1 c3
  have c5 : @LT.lt Nat _ fd dc := Nat.lt_trans b2 c3
  exact nin (h) (nin (Nat.ne_of_gt (Nat.lt_trans c4 d2)) (nin (Nat.ne_of_gt (Nat.lt_trans c5 d2)) (nin (Nat.ne_of_gt (Nat.lt_trans c1 d2)) (nin (Nat.ne_of_gt (Nat.lt_trans c2 d2)) (nin (Nat.ne_of_gt (Nat.lt_trans c3 d2)) (nin (Nat.ne_of_gt (Nat.lt_trans o4 d2)) (nin (Nat.ne_of_gt d2) (nin (hl) nin0))))))))
variable {a1 a2 a3 a4 a5 a6 a7 a8 a9 : Obj} {T : Led}
theorem sub9 {p1 p2 p3 p4 p5 p6 p7 p8 p9 : Addr × Obj} : ∀ p ∈ T, p ∈ p1 :: p2 :: p3 :: p4 :: p5 :: p6 :: p7 :: p8 :: p9 :: T := fun _ hp => .tail _ (.tail _ (.tail _ (.tail _ (.tail _ (.tail _ (.tail _ (.tail _ (.tail _ hp))))))))
theorem offs9 (b1 : @LT.lt Nat _ f d1) (b2 : @LT.lt Nat _ fd d1) (o1 : @LT.lt Nat _ d1 x1) (o2 : @LT.lt Nat _ x1 fl) (o3 : @LT.lt Nat _ fl dn) (o4 : @LT.lt Nat _ dn dc) (lc : @LT.lt Nat _ dc I) (q5 : @Ne Nat ln I) (q6 : @Ne Nat tp I) (h : ∀ p ∈ T, p.1 ≠ I) :
    ∀ p ∈ (dc, a1) :: (dn, a2) :: (f, a3) :: (fd, a4) :: (fl, a5) :: (x1, a6) :: (d1, a7) :: (ln, a8) :: (tp, a9) :: T, p.1 ≠ I := by
  have c1 : @LT.lt Nat _ fl dc := Nat.lt_trans o3 o4
  have c2 : @LT.lt Nat _ x1 dc := Nat.lt_trans o2 c1
  have c3 : @LT.lt Nat _ d1 dc := Nat.lt_trans o1 c2
  have c4 : @LT.lt Nat _ f dc := Nat.lt_trans b1 c3
  have c5 : @LT.lt Nat _ fd dc := Nat.lt_trans b2 c3
  exact fm (Nat.ne_of_lt lc) (fm (Nat.ne_of_lt (Nat.lt_trans o4 lc)) (fm (Nat.ne_of_lt (Nat.lt_trans c4 lc)) (fm (Nat.ne_of_lt (Nat.lt_trans c5 lc)) (fm (Nat.ne_of_lt (Nat.lt_trans c1 lc)) (fm (Nat.ne_of_lt (Nat.lt_trans c2 lc)) (fm (Nat.ne_of_lt (Nat.lt_trans c3 lc)) (fm (q5) (fm (q6) (h)))))))))
theorem held9 {g : Heap} (x : Held ((dc, a1) :: (dn, a2) :: (f, a3) :: (fd, a4) :: (fl, a5) :: (x1, a6) :: (d1, a7) :: (ln, a8) :: (tp, a9) :: T) g) : g.get? dc = some a1 ∧ g.get? dn = some a2 ∧ g.get? f = some a3 ∧ g.get? fd = some a4 ∧ g.get? ln = some a8 ∧ g.get? tp = some a9 :=
  ⟨x (dc, a1) (.head _), x (dn, a2) (.tail _ (.head _)), x (f, a3) (.tail _ (.tail _ (.head _))), x (fd, a4) (.tail _ (.tail _ (.tail _ (.head _)))), x (ln, a8) (.tail _ (.tail _ (.tail _ (.tail _ (.tail _ (.tail _ (.tail _ (.head _)))))))), x (tp, a9) (.tail _ (.tail _ (.tail _ (.tail _ (.tail _ (.tail _ (.tail _ (.tail _ (.head _))))))))) ⟩
end
section
variable {w : World} {A : Around} {E : Value → Shared → Prop} {s : Shared} {g : Heap} {env : Env} {body : List Stmt} {Q : Flow → Shared → Prop} {m₀ : Str → Option Value}
theorem iset_loop {r0 : Addr} {t0 u0' v0' : Tok} (led : Led) (vs : List Value) (rows : List FR) (x1 d1 fl dn dc D : Addr) (on0 oc0 sd : Obj) (nfl : Nat)
    (hh : A.handled = none) (hr : IsRange s.heap r0 0 (vs.length : Nat) 1 t0 u0' v0') (hsm : Builtin.Range.small 0 (vs.length : Nat) 1 = true) (hrs : Builtin.Range.rangeSize 0 (vs.length : Nat) 1 = ((vs.length : Nat) : Int)) (hlen : vs.length = rows.length) (hn : rows.length ≤ 16)
    (F : Fr g env.locals s.heap m₀) (N : News g env.locals s.heap ((dc, oc0) :: (dn, on0) :: (fl, W.listOf vs.toArray nfl) :: (x1, instObj 113 d1) :: (d1, sd) :: led)) (hm₀ : ∀ y, m₀ y = mI x1 D none none none y)
    (hF : ∀ g', Held led g' → FormsV g' vs rows d1) (hlt : ∀ p ∈ led, p.1 < d1) (o1 : @LT.lt Nat _ d1 x1) (o2 : @LT.lt Nat _ x1 fl) (o3 : @LT.lt Nat _ fl dn) (o4 : @LT.lt Nat _ dn dc) (hon : on0.IsDictOf (PySem.strKind PRG w) []) (hoc : CodeObj w oc0 [])
    (turnN : ∀ (i : Nat) (t : Tok) (I : Addr) (it : Obj) (h : Heap) (tk : Nat) (T : Led) (f fd pl kt : Addr) (r : FR) (num : Int) (q9 : FV) (u8 : Tok) (ps : List Value) (n : Nat) (on oc : Obj) (kvs : List (Str × Value)) (xs : List (List Int × Addr × Value)) (a b c : Option Value),
      vs[i]? = some (.ref f) → i < 16 → i < vs.length → (@LT.lt Nat _ f d1 ∧ @LT.lt Nat _ fd d1 ∧ @LT.lt Nat _ pl d1 ∧ @Ne Nat f fd ∧ @LT.lt Nat _ dc I) → OwnOff T [I, f, fd, fl, x1, d1, dn, dc] → (pl, ({ cls := .type "tuple", data := .seq ps.toArray n } : Obj)) ∈ T → NoPlus ps →
      on.IsDictOf (PySem.strKind PRG w) kvs → kvs.length ≤ 1000 → valueAt kvs r.name = none → CodeObj w oc xs → KeysIn w T xs → atKey xs [0, 0, 16 + (i : Int)] = none → xs.length ≤ 1000 →
      Fr g env.locals h (fun y => if y = Str.ofString "number" then some (.int (0 + (i : Int)) t) else mI x1 D a b c y) →
      News g env.locals h ((I, it) :: (dc, oc) :: (dn, on) :: (f, instObj 248 fd) :: (fd, formD r kt (16 + (i : Int)) num pl q9 u8) :: (fl, W.listOf vs.toArray nfl) :: (x1, instObj 113 d1) :: (d1, sd) :: T) →
      wpAny (model PRG w) A (execs body env) (PostN w g env.locals { s with heap := h, toks := tk } I it x1 d1 fl dn dc D f fd sd (instObj 248 fd) (fun u8' => formD r kt (16 + (i : Int)) (0 + (i : Int)) pl q9 u8') (W.listOf vs.toArray nfl) r kvs xs (16 + (i : Int)) T) E { s with heap := h, toks := tk })
    (turnS : ∀ (i : Nat) (t : Tok) (I : Addr) (it : Obj) (h : Heap) (tk : Nat) (T : Led) (f fd pl kt ln : Addr) (r : FR) (num : Int) (q9 : FV) (u8 : Tok) (ps us : List Value) (n nln : Nat) (on oc : Obj) (kvs : List (Str × Value)) (xs : List (List Int × Addr × Value)) (a b c : Option Value),
      vs[i]? = some (.ref f) → i < 16 → i < vs.length → (@LT.lt Nat _ f d1 ∧ @LT.lt Nat _ fd d1 ∧ @LT.lt Nat _ pl d1 ∧ @Ne Nat f fd ∧ @LT.lt Nat _ dc I) → OwnOff T [I, f, fd, fl, x1, d1, dn, dc, ln] → (pl, ({ cls := .type "tuple", data := .seq ps.toArray n } : Obj)) ∈ T → NoPlus ps →
      on.IsDictOf (PySem.strKind PRG w) kvs → valueAt kvs r.name = some (.ref ln) → (@LT.lt Nat _ dc ln ∧ @Ne Nat ln I) → us.toArray.size ≤ sizeLine → CodeObj w oc xs → KeysIn w T xs → atKey xs [0, 0, 16 + (i : Int)] = none → xs.length ≤ 1000 →
      Fr g env.locals h (fun y => if y = Str.ofString "number" then some (.int (0 + (i : Int)) t) else mI x1 D a b c y) →
      News g env.locals h ((I, it) :: (dc, oc) :: (dn, on) :: (f, instObj 248 fd) :: (fd, formD r kt (16 + (i : Int)) num pl q9 u8) :: (fl, W.listOf vs.toArray nfl) :: (x1, instObj 113 d1) :: (d1, sd) :: (ln, W.listOf us.toArray nln) :: T) →
      wpAny (model PRG w) A (execs body env) (PostS w g env.locals { s with heap := h, toks := tk } I it x1 d1 fl dn dc D f fd ln sd (instObj 248 fd) (fun u8' => formD r kt (16 + (i : Int)) (0 + (i : Int)) pl q9 u8') (W.listOf vs.toArray nfl) on us xs (16 + (i : Int)) T) E { s with heap := h, toks := tk })
    (done : ∀ h tk m' news', Fr g env.locals h m' → News g env.locals h news' → (x1, instObj 113 d1) ∈ news' → (d1, sd) ∈ news' → (∀ p ∈ led, isD p.2 = false → p ∈ news') → (∀ g', Held news' g' → FormsV g' vs rows d1 ∧ NamesV w g' vs rows dn dc vs.length) → Q .next { s with heap := h, toks := tk }) :
    wpAny (model PRG w) A (pyIter (.ref r0)) (fun it s₂ => LoopAtV PRG w A g env (Str.ofString "number") body Q E it s₂) E s := by
  refine iter_rangeUnr (n := vs.length) hh hr hsm hrs F N fun I lI => ?_
  have lc : @LT.lt Nat _ dc I := lI _ (.head _)
  have key : ∀ (k i : Nat) (m : Str → Option Value) (news : Led), i + k = vs.length →
      (∃ a b c, (∀ y, m y = mI x1 D a b c y)) → (fl, W.listOf vs.toArray nfl) ∈ news → (x1, instObj 113 d1) ∈ news → (d1, sd) ∈ news → (∀ p ∈ news, p.1 ≠ I) → (∀ p ∈ led, isD p.2 = false → p ∈ news) →
      (∀ g', Held news g' → FormsV g' vs rows d1 ∧ NamesV w g' vs rows dn dc i ∧ CodesV w g' dc i) → RangeRest PRG w A E g env (Str.ofString "number") body Q s I 0 vs.length k i m news := by
    intro k
    induction k with
    | zero =>
      intro i m news hi _ m1 m2 m3 _ hl hI
      have : i = vs.length := by omega
      subst this
      exact RangeRest.zero fun h tk F' N' => done h tk m news F' N' m2 m3 hl fun g' hg => ⟨(hI g' hg).1, (hI g' hg).2.1⟩
    | succ k ih =>
      intro i m news hi hm m1 m2 m3 off hl hI
      obtain ⟨a, b, c, hm⟩ := hm
      refine RangeRest.succ fun t h tk F' N' => ?_
      generalize itR (0 + ((i + 1 : Nat) : Int)) ((vs.length : Int) - ((i + 1 : Nat) : Int)) = it at N' ⊢
      have hN : Held news h := fun p hp => (N' p (.tail _ hp)).1
      generalize hgg : heapOf h news = gg
      have g1 : Held news gg := hgg ▸ heapOf_held hN
      have g2 : ∀ {b : Addr} {o : Obj}, gg.get? b = some o → (b, o) ∈ news := fun e => heapOf_mem hN (hgg ▸ e)
      obtain ⟨hFs, ⟨on, kvs, n1, n2, n3, n4⟩, ⟨oc, xs, c1, c2, c3, c4⟩⟩ := hI gg g1
      have hiv : i < vs.length := by omega
      obtain ⟨r, hr'⟩ : ∃ r, rows[i]? = some r := ⟨rows[i]'(by omega), by simp [hlen ▸ hiv]⟩
      obtain ⟨v, num, hv, f, fd, pl, kt, rfl, hX⟩ := hFs.2 i r hr'
      have hX' := hX
      obtain ⟨q9, u8, ks, ps, n, ⟨b1, b2, b3, b4⟩, e1, e2, e3, e4, e5, e6⟩ := hX'
      have F'' : Fr g env.locals h (fun y => if y = Str.ofString "number" then some (.int (0 + (i : Int)) t) else mI x1 D a b c y) := frExt F' fun y => by
        by_cases q : y = Str.ofString "number"
        · rw [if_pos q, if_pos q]
        · rw [if_neg q, if_neg q]; exact hm y
      have nff : f ≠ fd := get_ne e1 e2 (by simp [formD, W.dictOf, instObj])
      have npf : pl ≠ f := get_ne e3 e1 (by simp [instObj])
      have npd : pl ≠ fd := get_ne e3 e2 (by simp [formD, W.dictOf])
      have nkf : kt ≠ f := get_ne e5 e1 (by simp [instObj])
      have nkd : kt ≠ fd := get_ne e5 e2 (by simp [formD, W.dictOf])
      have fresh := CodesV.fresh (w := w) (h := gg) (dc := dc) (i := i) (xs := xs) fun x hx => (c4 x hx).1
      have stay : ∀ (hid : List Addr) (T : Led) (lits : Led), T = ledOf gg hid → (∀ b ∈ hid, b = f ∨ b = fd ∨ @LE.le Nat _ d1 b) → (f, instObj 248 fd) ∈ lits → (∀ p ∈ T, p ∈ lits) → ∀ p ∈ led, isD p.2 = false → p ∈ lits := by
        intro hid T lits hT hhid hf hTl p hp hd
        have hpn := hl p hp hd
        have e := g1 p hpn
        by_cases q : p.1 ∈ hid
        · rcases hhid _ q with q | q | q
          · rw [q, e1] at e
            have : p = (f, instObj 248 fd) := Prod.ext q (Option.some.inj e).symm
            rw [this]; exact hf
          · rw [q, e2] at e
            rw [← Option.some.inj e] at hd
            simp [isD, formD, W.dictOf] at hd
          · exact absurd (hlt p hp) (Nat.not_lt.mpr q)
        · exact hTl p (hT ▸ mem_ledOf.mpr ⟨e, q⟩)
      rcases n4 r.name with ⟨y1, y2⟩ | ⟨ln, nln, y1, y2, y3, y4⟩
      · -- a new name
        generalize hT : ledOf gg [I, f, fd, fl, x1, d1, dn, dc] = T
        have hTo : OwnOff T [I, f, fd, fl, x1, d1, dn, dc] := hT ▸ ledOf_off
        have hTm : ∀ p ∈ T, p ∈ news := fun p hp => g2 (mem_ledOf.mp (hT ▸ hp)).1
        have hKs : KeysIn w T xs := fun x hx => by
          obtain ⟨_, d2, o, items, n', d3, d4, d5, d6⟩ := c4 x hx
          exact ⟨o, items, n', hT ▸ mem_ledOf.mpr ⟨d3, far7 b1 b2 o1 o2 o3 o4 (off _ (g2 d3)) d2⟩, d4, d5, d6⟩
        refine wpAny_mono (turnN i t I it h tk T f fd pl kt r num q9 u8 ps n on oc kvs xs a b c hv (by omega) hiv ⟨b1, b2, b3, nff, lc⟩ hTo ?_ e4 n2 (by omega) y1 c2 hKs fresh (by omega) F'' ?_) (fun fl' s' hp => ?_) fun _ _ y => y
        · exact hT ▸ mem_ledOf.mpr ⟨e3, nin (off _ (g2 e3)) (hpl7 o1 o2 o3 o4 _ npf npd b3)⟩
        · exact fm (N' _ (.head _)) (fm (N' _ (.tail _ (g2 c1))) (fm (N' _ (.tail _ (g2 n1))) (fm (N' _ (.tail _ (g2 e1))) (fm (N' _ (.tail _ (g2 e2))) (fm (N' _ (.tail _ m1)) (fm (N' _ (.tail _ m2)) (fm (N' _ (.tail _ m3)) fun p hp => N' p (.tail _ (hTm p hp)))))))))
        · cases fl' with
          | ret _ => exact absurd hp id
          | brk => exact absurd hp id
          | cont => exact absurd hp id
          | next =>
            obtain ⟨h', tk', a', b', c', on', oc', ln, nln, tp, k1, k2, k3, v', u8', rfl, F3, N3, q1, q2, q3, q4, q5, q6⟩ := hp
            refine ⟨h', tk', _, ((dc, oc') :: (dn, on') :: (f, instObj 248 fd) :: (fd, formD r kt (16 + (i : Int)) (0 + (i : Int)) pl q9 u8') :: (fl, W.listOf vs.toArray nfl) :: (x1, instObj 113 d1) :: (d1, sd) :: (ln, W.listOf #[.ref f] nln) :: (tp, tupI 0 0 (16 + (i : Int)) k1 k2 k3) :: T), rfl, F3, N3, offs9 b1 b2 o1 o2 o3 o4 lc q5 q6 (fun p hp => hTo p hp I (.head _)), ih (i + 1) _ _ (by omega) ⟨a', b', c', fun _ => rfl⟩ (by k_mem) (by k_mem) (by k_mem) (offs9 b1 b2 o1 o2 o3 o4 lc q5 q6 (fun p hp => hTo p hp I (.head _))) (stay _ T _ hT.symm (hhid8 o1 o2 o3 o4 lc) (by k_mem) sub9) ?_⟩
            intro g' hg'
            have hk2 : ∀ b o, b ∉ [f, fd, fl, x1, d1, dn, dc] → gg.get? b = some o → g'.get? b = some o := fun b o hb e => hg' (b, o) (sub9 _ (hT ▸ mem_ledOf.mpr ⟨e, nin (off _ (g2 e)) hb⟩))
            obtain ⟨z1, z2, z3, z4, z5, z6⟩ := held9 hg'
            refine ⟨hFs.step (rest := [fl, x1, d1, dn, dc]) (num' := 0 + (i : Int)) hr' hv hX (hrest5 o1 o2 o3 o4) hk2 ?_, NamesV.stepN (on := on) hv hr' n3 n4 y1 (hle7 b1 b2 o1 o2 o3 o4) hk2 z2 q1 z5 q3, CodesV.step c3 c4 (fun b hb => .inl (hle7 b1 b2 o1 o2 o3 o4 b hb)) hk2 z1 q2 z6 q4⟩
            exact ⟨q9, u8', ks, ps, n, ⟨b1, b2, b3, b4⟩, z3, z4, hk2 _ _ (hpl7 o1 o2 o3 o4 _ npf npd b3) e3, e4, hk2 _ _ (hpl7 o1 o2 o3 o4 _ nkf nkd b4) e5, e6⟩
      · -- a known name
        generalize hT : ledOf gg [I, f, fd, fl, x1, d1, dn, dc, ln] = T
        have hTo : OwnOff T [I, f, fd, fl, x1, d1, dn, dc, ln] := hT ▸ ledOf_off
        have hus : (fvi vs rows i r.name).toArray.size ≤ sizeLine := by
          have e9 : (fvi vs rows i r.name).length ≤ vs.length := by
            unfold fvi
            rw [List.length_map]
            refine Nat.le_trans (List.length_filter_le _ _) (Nat.le_trans (List.length_take_le' _ _) ?_)
            rw [List.length_zip]; exact Nat.min_le_left _ _
          rw [List.size_toArray, sizeLine_eq]; omega
        have hTm : ∀ p ∈ T, p ∈ news := fun p hp => g2 (mem_ledOf.mp (hT ▸ hp)).1
        have hKs : KeysIn w T xs := fun x hx => by
          obtain ⟨_, d2, o, items, n', d3, d4, d5, d6⟩ := c4 x hx
          exact ⟨o, items, n', hT ▸ mem_ledOf.mpr ⟨d3, far8 b1 b2 o1 o2 o3 o4 (off _ (g2 d3)) d2 (get_ne d3 y3 (by rw [d4]; simp [W.listOf]))⟩, d4, d5, d6⟩
        refine wpAny_mono (turnS i t I it h tk T f fd pl kt ln r num q9 u8 ps (fvi vs rows i r.name) n nln on oc kvs xs a b c hv (by omega) hiv ⟨b1, b2, b3, nff, lc⟩ hTo ?_ e4 n2 y1 ⟨y2, off _ (g2 y3)⟩ hus c2 hKs fresh (by omega) F'' ?_) (fun fl' s' hp => ?_) fun _ _ y => y
        · exact hT ▸ mem_ledOf.mpr ⟨e3, nin (off _ (g2 e3)) (hpl8 o1 o2 o3 o4 y2 _ npf npd b3)⟩
        · exact fm (N' _ (.head _)) (fm (N' _ (.tail _ (g2 c1))) (fm (N' _ (.tail _ (g2 n1))) (fm (N' _ (.tail _ (g2 e1))) (fm (N' _ (.tail _ (g2 e2))) (fm (N' _ (.tail _ m1)) (fm (N' _ (.tail _ m2)) (fm (N' _ (.tail _ m3)) (fm (N' _ (.tail _ (g2 y3))) fun p hp => N' p (.tail _ (hTm p hp))))))))))
        · cases fl' with
          | ret _ => exact absurd hp id
          | brk => exact absurd hp id
          | cont => exact absurd hp id
          | next =>
            obtain ⟨h', tk', a', b', c', oc', nln', tp, k1, k2, k3, v', u8', rfl, F3, N3, q2, q4, q6⟩ := hp
            have q5 := off _ (g2 y3)
            refine ⟨h', tk', _, ((dc, oc') :: (dn, on) :: (f, instObj 248 fd) :: (fd, formD r kt (16 + (i : Int)) (0 + (i : Int)) pl q9 u8') :: (fl, W.listOf vs.toArray nfl) :: (x1, instObj 113 d1) :: (d1, sd) :: (ln, W.listOf ((fvi vs rows i r.name).toArray.push (.ref f)) nln') :: (tp, tupI 0 0 (16 + (i : Int)) k1 k2 k3) :: T), rfl, F3, N3, offs9 b1 b2 o1 o2 o3 o4 lc q5 q6 (fun p hp => hTo p hp I (.head _)), ih (i + 1) _ _ (by omega) ⟨a', b', c', fun _ => rfl⟩ (by k_mem) (by k_mem) (by k_mem) (offs9 b1 b2 o1 o2 o3 o4 lc q5 q6 (fun p hp => hTo p hp I (.head _))) (stay _ T _ hT.symm (hhid9 o1 o2 o3 o4 lc y2) (by k_mem) sub9) ?_⟩
            intro g' hg'
            have hk2 : ∀ b o, b ∉ [f, fd, fl, x1, d1, dn, dc, ln] → gg.get? b = some o → g'.get? b = some o := fun b o hb e => hg' (b, o) (sub9 _ (hT ▸ mem_ledOf.mpr ⟨e, nin (off _ (g2 e)) hb⟩))
            obtain ⟨z1, z2, z3, z4, z5, z6⟩ := held9 hg'
            refine ⟨hFs.step (rest := [fl, x1, d1, dn, dc, ln]) (num' := 0 + (i : Int)) hr' hv hX (hrest6 o1 o2 o3 o4 y2) hk2 ?_, NamesV.stepS (n := 0) hFs hv hr' n3 n2 n4 y1 (hle8 b1 b2 o1 o2 o3 o4) hk2 z2 z5, CodesV.step c3 c4 (fun b hb => (hle8 b1 b2 o1 o2 o3 o4 b hb).imp id fun q => ⟨_, _, q ▸ y3⟩) hk2 z1 q2 z6 q4⟩
            exact ⟨q9, u8', ks, ps, n, ⟨b1, b2, b3, b4⟩, z3, z4, hk2 _ _ (hpl8 o1 o2 o3 o4 y2 _ npf npd b3) e3, e4, hk2 _ _ (hpl8 o1 o2 o3 o4 y2 _ nkf nkd b4) e5, e6⟩
  refine key vs.length 0 m₀ _ (by omega) ⟨none, none, none, hm₀⟩ (by k_mem) (by k_mem) (by k_mem) (fun p hp => Nat.ne_of_lt (lI p hp)) (fun p hp _ => .tail _ (.tail _ (.tail _ (.tail _ (.tail _ hp))))) fun g' hg' => ⟨hF g' fun p hp => hg' p (.tail _ (.tail _ (.tail _ (.tail _ (.tail _ hp))))), ⟨on0, [], hg' (dn, on0) (by k_mem), hon, Nat.le_refl _, fun nm => .inl ⟨rfl, ?_⟩⟩, ⟨oc0, [], hg' (dc, oc0) (by k_mem), hoc, Nat.le_refl _, fun x hx => absurd hx List.not_mem_nil⟩⟩
  unfold fvi
  rfl
end
end

section
open PySem PySem.W PySem.Calls PySem.Spec PyProof.Rows
example : True := by
  w_top off
  k_with_none
  trivial
example : True := by
  k_with_none
  k_with "my_enter" => (refine' enterL ?k1 ?k2 ?k3 ?k4 ?k5 ?kA ?kF ?kK ?k6 ?k7 ?k8 ?k9 ?kB ?_ ?c2 ?c3 ?c4 ?c5; (case kA => exact rfl); (case kF => exact rfl); (case kK => assumption); (case k1 => k_asm); (case k2 => k_asm); (case k3 => k_asm); (case k4 => k_asm); (case k5 => k_asm); (case k6 => k_is); (case k7 => k_is); (case k8 => k_room); (case k9 => exact BindsTo.of_eq rfl); (case c5 => decide); (case kB => exact locs rfl); (case c2 => exact rfl); (case c3 => exact rfl); (case c4 => exact rfl); k_whole; intro g' L' h' hg' FG' F' N' B' X' T'; (try (refine anyTok ?_; intro tkz)); (try dsimp only); (let mz := frMap F'; have Fz : Fr _ _ _ mz := F'); (try k_lift B'); (try k_fold))
  k_with "my_use" => ((case k1 => k_asm); (case k2 => k_asm); (case k3 => k_asm); (case k4 => first | exact News.nil | k_asm); (case k5 => k_asm); (case kK => first | exact rfl | assumption); (case kp => first | trivial | assumption | exact IsetAt.keep (Fr.keep (by k_asm)) (by with_reducible assumption) | exact OpsAt.keep (Fr.keep (by k_asm)) (by with_reducible assumption)); (case kd => first | k_room | ktr_room); (case ku => ktr_units); (case k9 => k_asm))
  k_with "my_clr" => ((repeat (with_reducible rename Fr _ _ _ _ => z9; clear z9)); (repeat (with_reducible rename News _ _ _ _ => z9; clear z9)); (repeat (with_reducible rename Top _ _ _ _ _ _ => z9; clear z9)); (repeat (with_reducible rename Below _ _ _ _ => z9; clear z9)); (repeat (with_reducible rename Heap.StaysIn _ _ => z9; clear z9)); (repeat (with_reducible rename Frag.In _ _ => z9; clear z9)))
  k_with "my_next" => (refine' FPost.next ?_ ?F ?N ?hs; (case F => k_asm); (case N => k_asm); (case hs => lcg_sub))
  k_with "my_endH" => (rename (∀ (b : Addr) (o : Obj), _ → ¬ _ → _) => hg9; refine endH (by assumption) hg9 (by assumption) ?_)
  k_with "my_t3" => (refine ⟨_, rfl, IsT3.of_eq ?_ (IsT3.of_news (by assumption) (by k_mem))⟩)
  k_with "my_if" => ((repeat (with_reducible rename Fr _ _ _ _ => z9; clear z9)); (repeat (with_reducible rename News _ _ _ _ => z9; clear z9)); (repeat (with_reducible rename Top _ _ _ _ _ _ => z9; clear z9)); (repeat (with_reducible rename Below _ _ _ _ => z9; clear z9)); (repeat (with_reducible rename Heap.StaysIn _ _ => z9; clear z9)); (repeat (with_reducible first | (refine pos_eq (by assumption) ?_) | (refine neg_eqB (by assumption) ?_) | (refine neg_eq (by assumption) ?_))); try rfl)
  k_with "my_end1" => (rename (∀ (b : Addr) (o : Obj), _ → ¬ _ → _) => hg9; refine end1 (by assumption) hg9 (by first | exact (fun _ hp => absurd hp List.not_mem_nil) | assumption) (by assumption) (by assumption) (by first | exact (fun _ hp => absurd hp List.not_mem_nil) | k_all) (by k_mem) (by first | exact (fun _ hp => absurd hp List.not_mem_nil) | k_all) ?_)
  k_with "my_end0" => (rename (∀ (b : Addr) (o : Obj), _ → ¬ _ → _) => hg9; refine end0 (by assumption) hg9 (by first | exact (fun _ hp => absurd hp List.not_mem_nil) | assumption) (by assumption) (by assumption) (by first | exact (fun _ hp => absurd hp List.not_mem_nil) | k_all) ?_)
  trivial
local macro_rules | `(tactic| k_room) => `(tactic| ((try simp only [depth_under_make, depth_under_kw, depth_in1, depth_deeper]); (try dsimp only [ktrTop]); omega))
local macro_rules | `(tactic| k_inst) => `(tactic| (refine' instAt_base ?F ?h1 ?h2; (case F => k_asm); (case h1 => with_reducible assumption); (case h2 => with_reducible assumption)))
local macro_rules | `(tactic| ktr_units) => `(tactic| (have hcL9 := cLine_is; (try simp only [units_in1, units_deeper, units_under_make, Around.mark_units, units_caller]); (try dsimp only [ktrTop]); omega))
-- a test that the path has decided
theorem small0 {n : Nat} (h : n ≤ 1000) : Builtin.Range.small 0 (n : Int) 1 = true := by
  unfold Builtin.Range.small
  rw [rangeSize_one]
  unfold Builtin.Range.rangeFitsLong
  have e : (if (0 : Int) < (n : Int) then (n : Int) - 0 else 0) = (n : Int) := by split <;> omega
  rw [e, if_pos (by decide : (1 : Int) > 0)]
  simp only [Bool.and_eq_true, Bool.or_eq_true, decide_eq_true_eq]
  omega
theorem size0 (n : Nat) : Builtin.Range.rangeSize 0 (n : Int) 1 = (n : Int) := by
  rw [rangeSize_one]; split <;> omega
theorem mI0 {x1 D : Addr} (y : Str) : List.lookup y [(Str.ofString "forms", Value.ref D), (Str.ofString "self", Value.ref x1)] = mI x1 D none none none y := by
  have e1 : ¬ (Str.ofString "self" = Str.ofString "code") := by decide
  have e2 : ¬ (Str.ofString "self" = Str.ofString "form") := by decide
  have e3 : ¬ (Str.ofString "self" = Str.ofString "number") := by decide
  have e4 : ¬ (Str.ofString "forms" = Str.ofString "code") := by decide
  have e5 : ¬ (Str.ofString "forms" = Str.ofString "form") := by decide
  have e6 : ¬ (Str.ofString "forms" = Str.ofString "number") := by decide
  have e7 : ¬ (Str.ofString "forms" = Str.ofString "self") := by decide
  have e8 : ¬ (Str.ofString "self" = Str.ofString "forms") := by decide
  unfold mI
  by_cases h1 : y = Str.ofString "self"
  · subst h1
    rw [if_neg e1, if_neg e2, if_neg e3, if_pos rfl]
    simp [List.lookup, beq_false_of_ne e8]
  · by_cases h2 : y = Str.ofString "forms"
    · subst h2
      rw [if_neg e4, if_neg e5, if_neg e6, if_neg e7, if_pos rfl]
      simp [List.lookup]
    · rw [if_neg h1, if_neg h2]
      simp [List.lookup, beq_false_of_ne h1, beq_false_of_ne h2]
theorem item_listN {w : World} {A : Around} {E : Value → Shared → Prop} {s : Shared} {h₀ : Heap} {L l : Addr} {news : Led} {vs : List Value} {n i : Nat} {v : Value} {u : Tok} {value slice : Expr} {Q : Value → Shared → Prop} (N : News h₀ L s.heap news) (hm : (l, W.listOf vs.toArray n) ∈ news) (hx : vs[i]? = some v) (hi : i < 16) (h : Q v s)
    (hs : subscripted slice false (.ref l) (.int (0 + (i : Int)) u) = operate [.ref l, .int (0 + (i : Int)) u] (getItem (.ref l) (.int (0 + (i : Int)) u)) := by with_unfolding_all rfl) : wpAny (model PRG w) A (subscriptTail value slice (.ref l) (.int (0 + (i : Int)) u)) Q E s :=
  tail_any (list_baseN (N _ hm).1).typeIs slot_list_getitem.lookup (wpAny_getItem_list (list_baseN (N _ hm).1) (by omega) (by omega) (by simpa using hx) h) hs
theorem val_self {kvs : List (Str × Value)} {k : Str} {v : Value} (h : valueAt kvs k = none) : valueAt (stored kvs k v) k = some v := by
  rw [stored_absent h, val_app h, if_pos rfl]
theorem formI_of {h₀ h : Heap} {L f fd pl kt : Addr} {news : Led} {r : FR} {op num : Int} {q9 : FV} {u8 : Tok} {ps : List Value} {n : Nat} (N : News h₀ L h news) (a : (f, instObj 248 fd) ∈ news) (b : (fd, formD r kt op num pl q9 u8) ∈ news)
    (c : (pl, ({ cls := .type "tuple", data := .seq ps.toArray n } : Obj)) ∈ news) (d : NoPlus ps) : FormI h f r kt op num :=
  ⟨fd, pl, _, _, ps, n, (N _ a).1, (N _ b).1, (N _ c).1, d⟩
theorem in_noPlusN {w : World} {A : Around} {E : Value → Shared → Prop} {s : Shared} {h₀ : Heap} {L p : Addr} {news : Led} {ps : List Value} {n : Nat} {t : Tok} {Q : Value → Shared → Prop} (N : News h₀ L s.heap news) (hp : (p, ({ cls := .type "tuple", data := .seq ps.toArray n } : Obj)) ∈ news) (np : NoPlus ps) (h : Q (.bool false) s) :
    wpAny (model PRG w) A (compareOp .In (.str (Str.ofString "plus") t) (.ref p)) Q E s := by
  refine SeqAt.in_tupleAt (fun y => match y with | .str k _ => k == Str.ofString "plus" | _ => false) (tupB (N _ hp).1) (fun y hy => ?_) ?_
  · obtain ⟨k, t', rfl, _⟩ := np y (by simpa using hy)
    exact (eqGives_str k (Str.ofString "plus") t' t).at _ _
  · have e : ps.toArray.any (fun y => match y with | .str k _ => k == Str.ofString "plus" | _ => false) = false := by
      rw [List.any_toArray, List.any_eq_false]
      intro y hy
      obtain ⟨k, t', rfl, ne⟩ := np y hy
      simpa using ne
    rw [e]; exact h
theorem keysNew {w : World} {T news : Led} {xs : List (List Int × Addr × Value)} {tp : Addr} {a b c : Int} {t1 t2 t3 : Tok} {v : Value} (K : KeysIn w T xs) (h : ∀ p ∈ T, p ∈ news) (hk : (tp, tupI a b c t1 t2 t3) ∈ news) : KeysIn w news (xs ++ [([a, b, c], tp, v)]) := fun y hy => by
  rcases List.mem_append.mp hy with q | q
  · exact K.mono h y q
  · rw [List.mem_singleton.mp q]
    exact ⟨_, _, _, hk, rfl, rfl, key_items⟩
theorem ltNat {news : Led} {I : Addr} (h : ∀ p ∈ news, p.1 < I) : ∀ p ∈ news, @LT.lt Nat _ p.1 I := h
theorem code0 {w : World} {o : Obj} (h : o.IsDictOf (PySem.strKind PRG w) []) : CodeObj w o [] := by
  obtain ⟨es, ep, a, b, _, c, _⟩ := h
  refine ⟨a, es, ep, b, ?_, List.nodup_nil⟩
  cases hh : es.toList with
  | nil => rfl
  | cons x r => rw [hh] at c; cases c
theorem formsAtLed {led : Led} {vs : List Value} {rows : List FR} {B0 d1 : Nat} (hFs : ∀ g, Held led g → FormsV g vs rows B0) (hB : ∀ p ∈ led, @LT.lt Nat _ p.1 d1) (g : Heap) (hg : Held led g) : FormsV g vs rows d1 :=
  ((hFs _ (heapOf_held hg)).bound (fun b o e => hB _ (heapOf_mem hg e))).keep fun b o e => of_hideAll _ e
/-- the instruction set from what the loop leaves -/
theorem isetOf {w : World} {g : Heap} {x1 d1 fl dn dc : Addr} {vs : List Value} {rows : List FR} {B : Nat} {z1 z2 z3 : Int} {t1 t2 t3 : Tok} (hn : rows.length ≤ 16)
    (ha : g.get? x1 = some (instObj 113 d1)) (b : g.get? d1 = some (W.dictOf [⟨z1, .str (Str.ofString "forms") t1, .ref fl⟩, ⟨z2, .str (Str.ofString "by_name") t2, .ref dn⟩, ⟨z3, .str (Str.ofString "by_code") t3, .ref dc⟩] 3))
    (lo : (dn == sysModules) = false) (f : FormsV g vs rows B) (v : NamesV w g vs rows dn dc vs.length) : IsetAt w g x1 rows (fvi vs rows vs.length) := by
  obtain ⟨on, kvs, c, d, e, n⟩ := v
  have hz : ((vs.zip rows).take vs.length) = vs.zip rows := List.take_of_length_le (by rw [List.length_zip]; exact Nat.min_le_left _ _)
  refine ⟨d1, fl, dn, dc, z1, z2, z3, t1, t2, t3, on, kvs, ha, b, c, lo, d, fun nm => ?_, fun nm => ?_⟩
  · rcases n nm with q | ⟨ln, k, q1, q2, q3, q4⟩
    · exact .inl q
    · refine .inr ⟨ln, k, q1, q3, q4, ?_⟩
      unfold fvi
      rw [List.length_map]
      refine Nat.le_trans (List.length_filter_le _ _) (Nat.le_trans (List.length_take_le' _ _) ?_)
      rw [List.length_zip]
      exact Nat.le_trans (Nat.min_le_right _ _) hn
  · unfold fvi
    rw [hz]
    refine fvi_forms nm f.1 fun j r e => ?_
    obtain ⟨v, num, q1, f', fd, pl, kt, q2, q3⟩ := f.2 j r e
    exact ⟨f', q2 ▸ q1, q3.at'⟩
theorem mI_of {x1 D : Addr} {m' : Str → Option Value} (hs : m' (Str.ofString "self") = some (.ref x1)) (hf : m' (Str.ofString "forms") = some (.ref D))
    (ho : ∀ y, y ≠ Str.ofString "code" → y ≠ Str.ofString "form" → y ≠ Str.ofString "number" → y ≠ Str.ofString "self" → y ≠ Str.ofString "forms" → m' y = none) (y : Str) : m' y = mI x1 D (m' (Str.ofString "number")) (m' (Str.ofString "form")) (m' (Str.ofString "code")) y := by
  unfold mI
  by_cases h1 : y = Str.ofString "code"
  · rw [if_pos h1, h1]
  rw [if_neg h1]
  by_cases h2 : y = Str.ofString "form"
  · rw [if_pos h2, h2]
  rw [if_neg h2]
  by_cases h3 : y = Str.ofString "number"
  · rw [if_pos h3, h3]
  rw [if_neg h3]
  by_cases h4 : y = Str.ofString "self"
  · rw [if_pos h4, h4, hs]
  rw [if_neg h4]
  by_cases h5 : y = Str.ofString "forms"
  · rw [if_pos h5, h5, hf]
  rw [if_neg h5]
  exact ho y h1 h2 h3 h4 h5
theorem turnEndN {w : World} {A : Around} {E : Value → Shared → Prop} {g h' : Heap} {env : Env} {x : Str} {body : List Stmt} {Q : Flow → Shared → Prop} {s s₁ s0 : Shared} {I2 l9 I x1 d1 fl dn dc D f fd ln tp : Addr} {it2 lo it sd inst fls on' oc' : Obj} {fD : Tok → Obj} {u8 : Tok} {nln tk' : Nat} {t1 t2 t3 : Tok} {v' : Value} {r : FR} {kvs : List (Str × Value)} {xs : List (List Int × Addr × Value)} {op : Int} {T all : Led} {m' : Str → Option Value}
    (F : Fr g env.locals h' m') (N : News g env.locals h' all) (hon : on'.IsDictOf (PySem.strKind PRG w) (stored kvs r.name (.ref ln))) (hoc : CodeObj w oc' (xs ++ [([0, 0, op], tp, v')]))
    (k1 : (I2, it2) ∈ all) (k2 : (l9, lo) ∈ all) (k3 : (I, it) ∈ all) (k4 : (dc, oc') ∈ all) (k5 : (dn, on') ∈ all) (k6 : (f, inst) ∈ all) (k7 : (fd, fD u8) ∈ all) (k8 : (fl, fls) ∈ all) (k9 : (x1, instObj 113 d1) ∈ all) (k10 : (d1, sd) ∈ all) (k11 : (ln, W.listOf #[.ref f] nln) ∈ all) (k12 : (tp, tupI 0 0 op t1 t2 t3) ∈ all) (kT : ∀ p ∈ T, p ∈ all)
    (o2 : @LT.lt Nat _ l9 I2) (o3 : @LT.lt Nat _ I I2) (o4 : @LT.lt Nat _ dc I2) (o5 : @LT.lt Nat _ dn I2) (o6 : @LT.lt Nat _ f I2) (o7 : @LT.lt Nat _ fd I2) (o8 : @LT.lt Nat _ fl I2) (o9 : @LT.lt Nat _ x1 I2) (o10 : @LT.lt Nat _ d1 I2) (o11 : @LT.lt Nat _ ln I2) (o12 : @LT.lt Nat _ tp I2) (oT : ∀ p ∈ T, p.1 < I2)
    (hms : m' (Str.ofString "self") = some (.ref x1)) (hmf : m' (Str.ofString "forms") = some (.ref D)) (hmo : ∀ y, y ≠ Str.ofString "code" → y ≠ Str.ofString "form" → y ≠ Str.ofString "number" → y ≠ Str.ofString "self" → y ≠ Str.ofString "forms" → m' y = none) (q3 : @LT.lt Nat _ dc ln) (q4 : @LT.lt Nat _ dc tp) (q5 : @Ne Nat ln I) (q6 : @Ne Nat tp I)
    (hQ : ∀ h3 tk3, PostN w g env.locals s0 I it x1 d1 fl dn dc D f fd sd inst fD fls r kvs xs op T .next { s0 with heap := h3, toks := tk3 } → Q .next { s with heap := h3, toks := tk3 }) :
    UnrEnd g env.locals s₁ I2 it2 (fun m' n' => (l9, lo) ∈ n' ∧ ListRest PRG w A E g env x body Q s I2 (l9, lo) [] m' n') { s₁ with heap := h', toks := tk' } := by
  refine UnrEnd.intro F N ((l9, lo) :: (I, it) :: (dc, oc') :: (dn, on') :: (f, inst) :: (fd, fD u8) :: (fl, fls) :: (x1, instObj 113 d1) :: (d1, sd) :: (ln, W.listOf #[.ref f] nln) :: (tp, tupI 0 0 op t1 t2 t3) :: T) ?_ ?_ ⟨.head _, ListRest.zero fun h3 tk3 F3 N3 => hQ h3 tk3 ?_⟩
  · exact List.forall_mem_cons.mpr ⟨k1, List.forall_mem_cons.mpr ⟨k2, List.forall_mem_cons.mpr ⟨k3, List.forall_mem_cons.mpr ⟨k4, List.forall_mem_cons.mpr ⟨k5, List.forall_mem_cons.mpr ⟨k6, List.forall_mem_cons.mpr ⟨k7, List.forall_mem_cons.mpr ⟨k8, List.forall_mem_cons.mpr ⟨k9, List.forall_mem_cons.mpr ⟨k10, List.forall_mem_cons.mpr ⟨k11, List.forall_mem_cons.mpr ⟨k12, kT⟩⟩⟩⟩⟩⟩⟩⟩⟩⟩⟩⟩
  · exact List.forall_mem_cons.mpr ⟨Nat.ne_of_lt o2, List.forall_mem_cons.mpr ⟨Nat.ne_of_lt o3, List.forall_mem_cons.mpr ⟨Nat.ne_of_lt o4, List.forall_mem_cons.mpr ⟨Nat.ne_of_lt o5, List.forall_mem_cons.mpr ⟨Nat.ne_of_lt o6, List.forall_mem_cons.mpr ⟨Nat.ne_of_lt o7, List.forall_mem_cons.mpr ⟨Nat.ne_of_lt o8, List.forall_mem_cons.mpr ⟨Nat.ne_of_lt o9, List.forall_mem_cons.mpr ⟨Nat.ne_of_lt o10, List.forall_mem_cons.mpr ⟨Nat.ne_of_lt o11, List.forall_mem_cons.mpr ⟨Nat.ne_of_lt o12, fun p hp => Nat.ne_of_lt (oT p hp)⟩⟩⟩⟩⟩⟩⟩⟩⟩⟩⟩
  · refine ⟨h3, tk3, _, _, _, on', oc', ln, nln, tp, t1, t2, t3, v', u8, rfl, frExt F3 (mI_of hms hmf hmo), fun p hp => ?_, hon, hoc, q3, q4, q5, q6⟩
    first | exact N3 p (.tail _ hp) | exact N3 p (.tail _ (.tail _ hp))
theorem turnEndS {w : World} {A : Around} {E : Value → Shared → Prop} {g h' : Heap} {env : Env} {x : Str} {body : List Stmt} {Q : Flow → Shared → Prop} {s s₁ s0 : Shared} {I2 l9 I x1 d1 fl dn dc D f fd ln tp : Addr} {it2 lo it sd inst fls on oc' : Obj} {us : List Value} {fD : Tok → Obj} {u8 : Tok} {nln tk' : Nat} {t1 t2 t3 : Tok} {v' : Value} {xs : List (List Int × Addr × Value)} {op : Int} {T all : Led} {m' : Str → Option Value}
    (F : Fr g env.locals h' m') (N : News g env.locals h' all) (hoc : CodeObj w oc' (xs ++ [([0, 0, op], tp, v')]))
    (k1 : (I2, it2) ∈ all) (k2 : (l9, lo) ∈ all) (k3 : (I, it) ∈ all) (k4 : (dc, oc') ∈ all) (k5 : (dn, on) ∈ all) (k6 : (f, inst) ∈ all) (k7 : (fd, fD u8) ∈ all) (k8 : (fl, fls) ∈ all) (k9 : (x1, instObj 113 d1) ∈ all) (k10 : (d1, sd) ∈ all) (k11 : (ln, W.listOf (us.toArray.push (.ref f)) nln) ∈ all) (k12 : (tp, tupI 0 0 op t1 t2 t3) ∈ all) (kT : ∀ p ∈ T, p ∈ all)
    (o2 : @LT.lt Nat _ l9 I2) (o3 : @LT.lt Nat _ I I2) (o4 : @LT.lt Nat _ dc I2) (o5 : @LT.lt Nat _ dn I2) (o6 : @LT.lt Nat _ f I2) (o7 : @LT.lt Nat _ fd I2) (o8 : @LT.lt Nat _ fl I2) (o9 : @LT.lt Nat _ x1 I2) (o10 : @LT.lt Nat _ d1 I2) (o11 : @LT.lt Nat _ ln I2) (o12 : @LT.lt Nat _ tp I2) (oT : ∀ p ∈ T, p.1 < I2)
    (hms : m' (Str.ofString "self") = some (.ref x1)) (hmf : m' (Str.ofString "forms") = some (.ref D)) (hmo : ∀ y, y ≠ Str.ofString "code" → y ≠ Str.ofString "form" → y ≠ Str.ofString "number" → y ≠ Str.ofString "self" → y ≠ Str.ofString "forms" → m' y = none) (q4 : @LT.lt Nat _ dc tp) (q6 : @Ne Nat tp I)
    (hQ : ∀ h3 tk3, PostS w g env.locals s0 I it x1 d1 fl dn dc D f fd ln sd inst fD fls on us xs op T .next { s0 with heap := h3, toks := tk3 } → Q .next { s with heap := h3, toks := tk3 }) :
    UnrEnd g env.locals s₁ I2 it2 (fun m' n' => (l9, lo) ∈ n' ∧ ListRest PRG w A E g env x body Q s I2 (l9, lo) [] m' n') { s₁ with heap := h', toks := tk' } := by
  refine UnrEnd.intro F N ((l9, lo) :: (I, it) :: (dc, oc') :: (dn, on) :: (f, inst) :: (fd, fD u8) :: (fl, fls) :: (x1, instObj 113 d1) :: (d1, sd) :: (ln, W.listOf (us.toArray.push (.ref f)) nln) :: (tp, tupI 0 0 op t1 t2 t3) :: T) ?_ ?_ ⟨.head _, ListRest.zero fun h3 tk3 F3 N3 => hQ h3 tk3 ?_⟩
  · exact List.forall_mem_cons.mpr ⟨k1, List.forall_mem_cons.mpr ⟨k2, List.forall_mem_cons.mpr ⟨k3, List.forall_mem_cons.mpr ⟨k4, List.forall_mem_cons.mpr ⟨k5, List.forall_mem_cons.mpr ⟨k6, List.forall_mem_cons.mpr ⟨k7, List.forall_mem_cons.mpr ⟨k8, List.forall_mem_cons.mpr ⟨k9, List.forall_mem_cons.mpr ⟨k10, List.forall_mem_cons.mpr ⟨k11, List.forall_mem_cons.mpr ⟨k12, kT⟩⟩⟩⟩⟩⟩⟩⟩⟩⟩⟩⟩
  · exact List.forall_mem_cons.mpr ⟨Nat.ne_of_lt o2, List.forall_mem_cons.mpr ⟨Nat.ne_of_lt o3, List.forall_mem_cons.mpr ⟨Nat.ne_of_lt o4, List.forall_mem_cons.mpr ⟨Nat.ne_of_lt o5, List.forall_mem_cons.mpr ⟨Nat.ne_of_lt o6, List.forall_mem_cons.mpr ⟨Nat.ne_of_lt o7, List.forall_mem_cons.mpr ⟨Nat.ne_of_lt o8, List.forall_mem_cons.mpr ⟨Nat.ne_of_lt o9, List.forall_mem_cons.mpr ⟨Nat.ne_of_lt o10, List.forall_mem_cons.mpr ⟨Nat.ne_of_lt o11, List.forall_mem_cons.mpr ⟨Nat.ne_of_lt o12, fun p hp => Nat.ne_of_lt (oT p hp)⟩⟩⟩⟩⟩⟩⟩⟩⟩⟩⟩
  · refine ⟨h3, tk3, _, _, _, oc', nln, tp, t1, t2, t3, v', u8, rfl, frExt F3 (mI_of hms hmf hmo), fun p hp => ?_, hoc, q4, q6⟩
    first | exact N3 p (.tail _ hp) | exact N3 p (.tail _ (.tail _ hp))
/-- the end of a call that may change its arguments' ledger -/
theorem endL {s : Shared} {g h1 h' : Heap} {L' x1 d1 : Addr} {m' : Str → Option Value} {led news' : Led} {p1 p2 : Obj} {v : Value} {tk' : Nat} {Q : Value → Shared → Prop} {R : Value → Led → Prop}
    (hret : ∀ (v : Value) (own : Led) (h' : Heap) (tk' : Nat), (∀ b o, s.heap.get? b = some o → b ∉ led.map (·.1) → h'.get? b = some o) → (∀ p ∈ own, h'.get? p.1 = some p.2 ∧ (s.heap.get? p.1 = none ∨ p.1 ∈ led.map (·.1))) → R v own → Q v { s with heap := h', toks := tk' })
    (st1 : s.heap.StaysIn h1) (xn : s.heap.get? x1 = none) (dn : s.heap.get? d1 = none) (hg : ∀ b o, h1.get? b = some o → b ∉ ((x1, p1) :: (d1, p2) :: led).map (·.1) → g.get? b = some o) (F : Fr g L' h' m') (N : News g L' h' news') (hR : R v news') : Q v { s with heap := h', toks := tk' } := by
  have st : ∀ b o, s.heap.get? b = some o → b ∉ led.map (·.1) → g.get? b = some o := fun b o e hb => by
    refine hg _ _ (st1 _ _ e) fun hm => ?_
    rcases List.mem_cons.mp hm with e1 | hm
    · rw [e1, xn] at e; cases e
    · rcases List.mem_cons.mp hm with e1 | hm
      · rw [e1, dn] at e; cases e
      · exact hb hm
  refine hret _ _ _ _ (fun b o e hb => F.keep _ _ (st b o e hb)) (fun p hp => ⟨(N _ hp).1, ?_⟩) hR
  by_cases hm : p.1 ∈ led.map (·.1)
  · exact .inr hm
  · left
    cases e : s.heap.get? p.1 with
    | none => rfl
    | some o =>
      have := st _ _ e hm
      rw [(N _ hp).2.2] at this; cases this
/-- the dict of an instruction set -/
abbrev sdO (fl dn dc : Addr) (q : FV) : Obj := W.dictOf [⟨q.1 0, .str (Str.ofString "forms") (q.2 0), .ref fl⟩, ⟨q.1 1, .str (Str.ofString "by_name") (q.2 1), .ref dn⟩, ⟨q.1 2, .str (Str.ofString "by_code") (q.2 2), .ref dc⟩] 3
theorem foldSd {g h : Heap} {L d1 fl dn dc : Addr} {a b c d : Addr × Obj} {led : Led} {x1 x2 x3 : Int} {t1 t2 t3 : Tok} (N : News g L h (a :: b :: c :: d :: (d1, W.dictOf [⟨x1, .str (Str.ofString "forms") t1, .ref fl⟩, ⟨x2, .str (Str.ofString "by_name") t2, .ref dn⟩, ⟨x3, .str (Str.ofString "by_code") t3, .ref dc⟩] 3) :: led)) :
    ∃ q : FV, News g L h (a :: b :: c :: d :: (d1, sdO fl dn dc q) :: led) := ⟨(fun n => [x1, x2, x3].getD n 0, fun n => [t1, t2, t3].getD n 0), N⟩
theorem foldF {g h : Heap} {L fd kt pl : Addr} {a b c f : Addr × Obj} {led : Led} {r : FR} {op num : Int} {q9 : FV} {u8 : Tok} (N : News g L h (a :: b :: c :: f :: (fd, formD r kt op num pl q9 u8) :: led)) : News g L h (a :: b :: c :: f :: (fd, formD r kt op num pl q9 u8) :: led) := N
end

section
open PySem PySem.W PySem.Calls PySem.Spec PyProof.Rows
example : True := by
  w_top off
  k_with_none
  trivial
local macro_rules | `(tactic| walk_at "pyIter ref") => `(tactic| k_extra "z pyIter ref")
local macro_rules | `(tactic| walk_at "call type:list") => `(tactic| k_extra "z call type:list")
local macro_rules | `(tactic| walk_at "call builtin:len") => `(tactic| k_extra "z call builtin:len")
local macro_rules | `(tactic| walk_at "subscriptTail") => `(tactic| k_extra "z subscriptTail")
local macro_rules | `(tactic| walk_at "compareOp NotIn str ref") => `(tactic| k_extra "z compareOp NotIn str ref")
local macro_rules | `(tactic| walk_at "setItem ref str") => `(tactic| k_extra "z setItem ref str")
local macro_rules | `(tactic| walk_at "compareOp In str ref") => `(tactic| k_extra "z compareOp In str ref")
local macro_rules | `(tactic| walk_at "compareOp NotIn ref ref") => `(tactic| k_extra "z compareOp NotIn ref ref")
local macro_rules | `(tactic| walk_at "setItem ref ref") => `(tactic| k_extra "z setItem ref ref")
local macro_rules | `(tactic| walk_at "newTuple") => `(tactic| k_extra "z newTuple")
local macro_rules | `(tactic| walk_at "execs cons") => `(tactic| k_extra "z execs cons")
example : True := by
  k_with_none
  k_with "my_enter" => (refine' enterL ?k1 ?k2 ?k3 ?k4 ?k5 ?kA ?kF ?kK ?k6 ?k7 ?k8 ?k9 ?kB ?_ ?c2 ?c3 ?c4 ?c5; (case kA => exact rfl); (case kF => exact rfl); (case kK => assumption); (case k1 => k_asm); (case k2 => k_asm); (case k3 => k_asm); (case k4 => k_asm); (case k5 => k_asm); (case k6 => k_is); (case k7 => k_is); (case k8 => k_room); (case k9 => exact BindsTo.of_eq rfl); (case c5 => decide); (case kB => exact locs rfl); (case c2 => exact rfl); (case c3 => exact rfl); (case c4 => exact rfl); k_whole; intro g' L' h' hg' FG' F' N' B' X' T'; (try (refine anyTok ?_; intro tkz)); (try dsimp only); (let mz := frMap F'; have Fz : Fr _ _ _ mz := F'); (try k_lift B'); (try k_fold))
  k_with "my_use" => ((case k1 => k_asm); (case k2 => k_asm); (case k3 => k_asm); (case k4 => first | exact News.nil | k_asm); (case k5 => k_asm); (case kK => first | exact rfl | assumption); (case kp => first | trivial | assumption | exact IsetAt.keep (Fr.keep (by k_asm)) (by with_reducible assumption) | exact OpsAt.keep (Fr.keep (by k_asm)) (by with_reducible assumption)); (case kd => first | k_room | ktr_room); (case ku => ktr_units); (case k9 => k_asm))
  k_with "my_clr" => ((repeat (with_reducible rename Fr _ _ _ _ => z9; clear z9)); (repeat (with_reducible rename News _ _ _ _ => z9; clear z9)); (repeat (with_reducible rename Top _ _ _ _ _ _ => z9; clear z9)); (repeat (with_reducible rename Below _ _ _ _ => z9; clear z9)); (repeat (with_reducible rename Heap.StaysIn _ _ => z9; clear z9)); (repeat (with_reducible rename Frag.In _ _ => z9; clear z9)))
  k_with "my_next" => (refine' FPost.next ?_ ?F ?N ?hs; (case F => k_asm); (case N => k_asm); (case hs => lcg_sub))
  k_with "my_endH" => (rename (∀ (b : Addr) (o : Obj), _ → ¬ _ → _) => hg9; refine endH (by assumption) hg9 (by assumption) ?_)
  k_with "my_t3" => (refine ⟨_, rfl, IsT3.of_eq ?_ (IsT3.of_news (by assumption) (by k_mem))⟩)
  k_with "my_if" => ((repeat (with_reducible rename Fr _ _ _ _ => z9; clear z9)); (repeat (with_reducible rename News _ _ _ _ => z9; clear z9)); (repeat (with_reducible rename Top _ _ _ _ _ _ => z9; clear z9)); (repeat (with_reducible rename Below _ _ _ _ => z9; clear z9)); (repeat (with_reducible rename Heap.StaysIn _ _ => z9; clear z9)); (repeat (with_reducible first | (refine pos_eq (by assumption) ?_) | (refine neg_eqB (by assumption) ?_) | (refine neg_eq (by assumption) ?_))); try rfl)
  k_with "my_end1" => (rename (∀ (b : Addr) (o : Obj), _ → ¬ _ → _) => hg9; refine end1 (by assumption) hg9 (by first | exact (fun _ hp => absurd hp List.not_mem_nil) | assumption) (by assumption) (by assumption) (by first | exact (fun _ hp => absurd hp List.not_mem_nil) | k_all) (by k_mem) (by first | exact (fun _ hp => absurd hp List.not_mem_nil) | k_all) ?_)
  k_with "my_end0" => (rename (∀ (b : Addr) (o : Obj), _ → ¬ _ → _) => hg9; refine end0 (by assumption) hg9 (by first | exact (fun _ hp => absurd hp List.not_mem_nil) | assumption) (by assumption) (by assumption) (by first | exact (fun _ hp => absurd hp List.not_mem_nil) | k_all) ?_)
  k_with "my_lts" => first | exact allLt_ne (by assumption : AllLt _ _) | exact allLt_ne (by assumption : _ ∧ AllLt _ _).2 | exact allLt_ne (by assumption : _ ∧ _ ∧ AllLt _ _).2.2 | exact allLt_ne (by assumption : _ ∧ _ ∧ _ ∧ AllLt _ _).2.2.2 | exact allLt_ne (by assumption : _ ∧ _ ∧ _ ∧ _ ∧ AllLt _ _).2.2.2.2 | exact allLt_ne (by assumption : _ ∧ _ ∧ _ ∧ _ ∧ _ ∧ AllLt _ _).2.2.2.2.2 | exact allLt_ne (by assumption : _ ∧ _ ∧ _ ∧ _ ∧ _ ∧ _ ∧ AllLt _ _).2.2.2.2.2.2 | exact allLt_ne (by assumption : _ ∧ _ ∧ _ ∧ _ ∧ _ ∧ _ ∧ _ ∧ AllLt _ _).2.2.2.2.2.2.2 | exact allLt_ne (by assumption : _ ∧ _ ∧ _ ∧ _ ∧ _ ∧ _ ∧ _ ∧ _ ∧ AllLt _ _).2.2.2.2.2.2.2.2 | exact allLt_ne (by assumption : _ ∧ _ ∧ _ ∧ _ ∧ _ ∧ _ ∧ _ ∧ _ ∧ _ ∧ AllLt _ _).2.2.2.2.2.2.2.2.2 | exact allLt_ne (by assumption : _ ∧ _ ∧ _ ∧ _ ∧ _ ∧ _ ∧ _ ∧ _ ∧ _ ∧ _ ∧ AllLt _ _).2.2.2.2.2.2.2.2.2.2 | exact allLt_ne (by assumption : _ ∧ _ ∧ _ ∧ _ ∧ _ ∧ _ ∧ _ ∧ _ ∧ _ ∧ _ ∧ _ ∧ AllLt _ _).2.2.2.2.2.2.2.2.2.2.2 | exact allLt_ne (by assumption : _ ∧ _ ∧ _ ∧ _ ∧ _ ∧ _ ∧ _ ∧ _ ∧ _ ∧ _ ∧ _ ∧ _ ∧ AllLt _ _).2.2.2.2.2.2.2.2.2.2.2.2 | exact allLt_ne (by assumption : _ ∧ _ ∧ _ ∧ _ ∧ _ ∧ _ ∧ _ ∧ _ ∧ _ ∧ _ ∧ _ ∧ _ ∧ _ ∧ AllLt _ _).2.2.2.2.2.2.2.2.2.2.2.2.2
  k_with "z pyIter ref" => (k_here; (with_reducible show wpAny _ _ (pyIter (Value.ref (Array.size _))) _ _ _); (rename IsRange _ _ _ _ _ _ _ _ => rg9); with_reducible refine stopAt3 ?_)
  k_with "z call type:list" => (k_here; (with_reducible show wpAny _ _ (call (Value.type _) [Value.ref _]) _ _ _); k_dflt (refine' kup_listOf ?F ?N ?b ?e ?_ ?z; (case F => k_asm); (case N => k_asm); (case b => k_mem); (case e => exact listId _); (case z => assumption)); intro D' c' h' F' N' l1z; (try k_lt l1z); (try k_sweep))
  k_with "z call builtin:len" => (k_here; k_dflt (refine' kst_len ?N ?m ?e ?f ?_; (case N => k_asm); (case m => k_mem); (case e => exact rfl); (case f => assumption)); (try dsimp only))
  k_with "z subscriptTail" => (k_here; (with_reducible show wpAny _ _ (subscriptTail _ _ (Value.ref _) (Value.int (0 + Nat.cast _) _)) _ _ _); k_dflt (refine' item_listN ?k1 ?k2 ?k3 ?k4 ?_; (case k1 => k_asm); (case k2 => k_mem); (case k3 => assumption); (case k4 => assumption)); (try dsimp only))
  k_with "my_sub" => (intro p9 hp9; repeat (first | exact hp9 | apply List.mem_cons_of_mem))
  k_with "z compareOp NotIn str ref" => (k_here; k_dflt (first | (refine' notin_namesN ?k1 ?k2 ?k3 ?k4 ?k5 ?_; (case k1 => k_asm); (case k2 => k_mem); (case k3 => with_reducible assumption); (case k4 => with_reducible assumption); (case k5 => with_reducible assumption)) | (refine' notin_namesS ?k1 ?k2 ?k3 ?k4 ?k5 ?_; (case k1 => k_asm); (case k2 => k_mem); (case k3 => with_reducible assumption); (case k4 => with_reducible assumption); (case k5 => with_reducible assumption))))
  k_with "z setItem ref str" => (k_here; k_dflt (refine' set_names ?F ?N ?U ?k1 ?k2 ?_; (case F => k_asm); (case N => k_asm); (case U => k_updF); (case k1 => with_reducible assumption); (case k2 => with_reducible assumption)); intro h' on' F' N' hd'; (try dsimp only))
  k_with "z subscriptTail" => (k_here; (with_reducible show wpAny _ _ (subscriptTail _ _ (Value.ref _) (Value.str _ _)) _ _ _); k_dflt (refine' item_names ?k1 ?k2 ?k3 ?k4 ?_; (case k1 => k_asm); (case k2 => k_mem); (case k3 => with_reducible assumption); (case k4 => first | with_reducible assumption | exact val_self (by with_reducible assumption))); (try dsimp only))
  k_with "z compareOp In str ref" => (k_here; k_dflt (refine' in_noPlusN ?k1 ?k2 ?k3 ?_; (case k1 => k_asm); (case k2 => k_mem); (case k3 => assumption)); (try dsimp only))
  k_with "z compareOp NotIn ref ref" => (k_here; k_dflt (refine' notin_codes ?k0 ?k1 ?k2 ?k3 ?k4 ?k5 ?k6 ?k7 ?_; (case k0 => ktr_units); (case k1 => k_asm); (case k2 => k_mem); (case k3 => with_reducible assumption); (case k4 => with_reducible assumption); (case k5 => exact KeysIn.mono (by with_reducible assumption) (by walk_at "my_sub")); (case k6 => k_mem); (case k7 => with_reducible assumption)); intro tk9; (try dsimp only))
  k_with "z setItem ref ref" => (k_here; k_dflt (refine' set_codes ?k0 ?F ?N ?U ?k4 ?k5 ?k6 ?k7 ?k8 ?_; (case k0 => ktr_units); (case F => k_asm); (case N => k_asm); (case U => k_updF); (case k4 => with_reducible assumption); (case k5 => exact KeysIn.mono (by with_reducible assumption) (by walk_at "my_sub")); (case k6 => k_mem); (case k7 => with_reducible assumption); (case k8 => with_reducible assumption)); intro h' oc' tk' F' N' hd' hk'; (try dsimp only))
  k_with "z subscriptTail" => (k_here; (with_reducible show wpAny _ _ (subscriptTail _ _ (Value.ref _) (Value.ref _)) _ _ _); k_dflt (refine' item_codes ?k0 ?k1 ?k2 ?k3 ?k4 ?k5 ?k6 ?_; (case k0 => ktr_units); (case k1 => k_asm); (case k2 => k_mem); (case k3 => with_reducible assumption); (case k4 => exact keysNew (by with_reducible assumption) (by walk_at "my_sub") (by k_mem)); (case k5 => k_mem); (case k6 => with_reducible assumption)); intro tk9; (try dsimp only))
  k_with "z pyIter ref" => (k_here; (fail_if_success (with_reducible show wpAny _ _ (pyIter (Value.ref (Array.size _))) _ _ _)); with_reducible refine stopAt3 ?_)
  k_with "z newTuple" => (k_here; k_dflt (refine' kup_newTuple ?F ?N ?_ ?z; (case F => k_asm); (case N => k_asm); (case z => kmk_size)); intro D' h' F' N' l1z; (try k_lt l1z); (try k_sweep))
  k_with "z execs cons" => (k_here; (with_reducible show wpAny _ _ (execs (Stmt.If (Expr.Compare (Expr.Attribute _ _ _) _ _ _) _ _ _ :: _) _) _ _ _); with_reducible refine stopAt3 ?_)
  trivial
local macro_rules | `(tactic| k_room) => `(tactic| ((try simp only [depth_under_make, depth_under_kw, depth_in1, depth_deeper]); (try dsimp only [ktrTop]); omega))
local macro_rules | `(tactic| k_inst) => `(tactic| (refine' instAt_base ?F ?h1 ?h2; (case F => k_asm); (case h1 => with_reducible assumption); (case h2 => with_reducible assumption)))
local macro_rules | `(tactic| ktr_units) => `(tactic| (have hcL9 := cLine_is; (try simp only [units_in1, units_deeper, units_under_make, Around.mark_units, units_caller]); (try dsimp only [ktrTop]); omega))
-- a test that the path has decided
local macro_rules | `(tactic| k_mem) => `(tactic| assumption)
local macro_rules | `(tactic| k_all) => `(tactic| first | assumption | exact OwnOff.ne (by assumption) (by k_memK) | exact ltAll (by assumption) | (walk_at "my_lts"))
theorem new_iset (w : World) (mean mg mb) (D : Addr) (vs : List Value) (nD : Nat) (rows : List FR) (B0 : Nat) (led : Led) (hn : rows.length ≤ 16) (hD : (D, W.listOf vs.toArray nD) ∈ led) (hFs : ∀ g, Held led g → FormsV g vs rows B0) :
    FSpecL 8 w mean mg mb 113 led [.ref D] (IsetR w led rows) := by
  unfold FSpecL TopP
  k_fill
  intro dp un gd cn cs a ccd cl outer A₀ base h₀ L m s Q E B F X N T hk hdp hu hret
  k_dflt (refine call_clsL (K := top.hd.heap_39 w.params) (fI := 54) F X N (by k_is) (by k_is) (by k_is) ?_)
  k_whole
  intro x1 d1 h1 st1 xn1 dn1 hlt1 F1 N1 l1
  k_lt2 l1
  have hB0 : ∀ p ∈ led, p.1 < d1 := fun p hp => hlt1 _ _ (N p hp).1
  have hvl : vs.length = rows.length := (hFs _ (heapOf_held fun p hp => (N p hp).1)).1
  have hzl : vs.toArray.toList.length ≤ sizeLine := by rw [sizeLine_eq]; show vs.length ≤ _; omega
  have hfl : ((vs.length : Nat) : Int) < 2 ^ 63 := by omega
  k_dflt (walk_at "my_enter")
  rename (∀ (b : Addr) (o : Obj), _ → ¬ _ → _) => hg9
  (repeat' (first | (k_unfold; (try dsimp only)) | (k_end; wrow_close) | ((try dsimp only); (first | (with_reducible show wpAny _ _ (exec _ _) _ _ _); (try k_fold); (try (with_reducible rename News _ _ _ _ => zN; dsimp only at zN)) | skip); walk1) | walk1 | (leave1; walk_say "STEP leave1"; try dsimp only) | fail "no step"))
  unfold Stop3
  obtain ⟨qs, Nq⟩ := foldSd (led := led) (by k_asm)
  k_dflt (refine' iset_loop led vs rows x1 d1 _ _ _ D _ _ _ _ (by rfl) (by with_reducible assumption) (small0 (by omega)) (size0 _) hvl hn ?kF ?kN (fun y => ?mm) (formsAtLed hFs hB0) hB0 l1 ?o2 ?o3 ?o4 ?on (code0 ?oc) ?turnN ?turnS ?done)
  case kF => k_asm
  case kN => exact Nq
  case on => with_reducible assumption
  case oc => with_reducible assumption
  case mm =>
    refine Eq.trans (congrArg (List.lookup y) ?_) (mI0 (x1 := x1) (D := D) y)
    kernel_rfl
  case o2 => (rename _ ∧ _ ∧ AllLt _ led => q); exact q.1
  case o3 => (rename _ ∧ _ ∧ _ ∧ AllLt _ led => q); exact q.1
  case o4 => (rename _ ∧ _ ∧ _ ∧ _ ∧ AllLt _ led => q); exact q.1
  case turnN =>
    intro i t I it h tk T f fd pl kt r num q9 u8 ps n on oc kvs xs a b c hv hi hiv hlt hT hpl np hon hkl hvn hoc hks hat hxl F9 N9
    obtain ⟨b1, b2, b3, b4, b5⟩ := hlt
    unfold mI at F9
    (try k_fold)
    (repeat' (first | (k_unfold; (try dsimp only)) | (k_end; wrow_close) | ((try dsimp only); (first | (with_reducible show wpAny _ _ (exec _ _) _ _ _); (try k_fold); (try (with_reducible rename News _ _ _ _ => zN; dsimp only at zN)) | skip); walk1) | walk1 | (leave1; walk_say "STEP leave1"; try dsimp only) | fail "no step"))
    unfold Stop3
    (with_reducible rename News _ _ _ _ => No)
    have N' := foldF (fd := fd) (r := r) (kt := kt) (op := 16 + (i : Int)) (num := 0 + (i : Int)) (pl := pl) (q9 := q9) (u8 := t) No
    clear No
    k_dflt (refine wpAny_execs_cons ?_)
    (repeat' (first | (k_unfold; (try dsimp only)) | (k_end; wrow_close) | ((try dsimp only); (first | (with_reducible show wpAny _ _ (exec _ _) _ _ _); (try k_fold); (try (with_reducible rename News _ _ _ _ => zN; dsimp only at zN)) | skip); walk1) | walk1 | (leave1; walk_say "STEP leave1"; try dsimp only) | fail "no step"))
    unfold Stop3
    k_dflt (refine' iter_listUnr (vs := [_]) (lo := W.listOf #[_] _) (n := _) (by rfl) ?kF ?kN ?km rfl rfl ?_)
    case kF => k_asm
    case kN => k_asm
    case km => k_mem
    intro I2 lI2
    refine ListRest.succ fun it2 h2 tk2 hc2 F2 N2 => ?_
    have lI3 : ∀ p ∈ T, p.1 < I2 := fun p hp => lI2 p (by repeat (first | exact hp | apply List.mem_cons_of_mem))
    have lI4 := ltNat lI2
    clear lI2
    simp only [List.forall_mem_cons] at lI4
    obtain ⟨j1, j2, j3, j4, j5, j6, j7, j8, j9, j10, j11, j12, _⟩ := lI4
    (try k_fold)
    (repeat' (first | (k_unfold; (try dsimp only)) | (k_end; wrow_close) | ((try dsimp only); (first | (with_reducible show wpAny _ _ (exec _ _) _ _ _); (try k_fold); (try (with_reducible rename News _ _ _ _ => zN; dsimp only at zN)) | skip); walk1) | walk1 | (leave1; walk_say "STEP leave1"; try dsimp only) | fail "no step"))
    k_dflt (refine' turnEndN (x1 := x1) (D := D) (T := T) (sd := _) (fD := _) (r := r) (kvs := kvs) (xs := xs) (op := 16 + (i : Int)) ?kF ?kN ?hon ?hoc ?k1 ?k2 ?k3 ?k4 ?k5 ?k6 ?k7 ?k8 ?k9 ?k10 ?k11 ?k12 ?kT ?o2 ?o3 ?o4 ?o5 ?o6 ?o7 ?o8 ?o9 ?o10 ?o11 ?o12 ?oT ?hms ?hmf ?hmo ?q3 ?q4 ?q5 ?q6 ?hQ)
    case hQ =>
      intro h3 tk3 hp
      (try dsimp only)
      (repeat' (first | (k_unfold; (try dsimp only)) | (k_end; wrow_close) | ((try dsimp only); (first | (with_reducible show wpAny _ _ (exec _ _) _ _ _); (try k_fold); (try (with_reducible rename News _ _ _ _ => zN; dsimp only at zN)) | skip); walk1) | walk1 | (leave1; walk_say "STEP leave1"; try dsimp only) | fail "no step"))
      exact hp
    case kF => k_asm
    case kN => k_asm
    case hon => with_reducible assumption
    case hoc => with_reducible assumption
    case k1 => k_mem
    case k2 => k_mem
    case k3 => k_mem
    case k4 => k_mem
    case k5 => k_mem
    case k6 => k_mem
    case k7 => k_mem
    case k8 => k_mem
    case k9 => k_mem
    case k10 => k_mem
    case k11 => k_mem
    case k12 => k_mem
    case kT => walk_at "my_sub"
    case oT => exact lI3
    case hms => kernel_rfl
    case hmf => kernel_rfl
    case hmo =>
      intro y h1 h2 h3 h4 h5
      simp only [if_neg h1, if_neg h2, if_neg h3, if_neg h4, if_neg h5]
    all_goals (first | assumption | exact Nat.ne_of_lt (by assumption) | exact Nat.ne_of_gt (by assumption) | exact Nat.lt_trans (by assumption) (by assumption) | (trace "OMEGA"; omega))
  case turnS =>
    intro i t I it h tk T f fd pl kt ln r num q9 u8 ps us n nln on oc kvs xs a b c hv hi hiv hlt hT hpl np hon hvn hln hus hoc hks hat hxl F9 N9
    obtain ⟨b1, b2, b3, b4, b5⟩ := hlt
    obtain ⟨b6, b7⟩ := hln
    unfold mI at F9
    (try k_fold)
    (repeat' (first | (k_unfold; (try dsimp only)) | (k_end; wrow_close) | ((try dsimp only); (first | (with_reducible show wpAny _ _ (exec _ _) _ _ _); (try k_fold); (try (with_reducible rename News _ _ _ _ => zN; dsimp only at zN)) | skip); walk1) | walk1 | (leave1; walk_say "STEP leave1"; try dsimp only) | fail "no step"))
    unfold Stop3
    (with_reducible rename News _ _ _ _ => No)
    have N' := foldF (fd := fd) (r := r) (kt := kt) (op := 16 + (i : Int)) (num := 0 + (i : Int)) (pl := pl) (q9 := q9) (u8 := t) No
    clear No
    k_dflt (refine wpAny_execs_cons ?_)
    (repeat' (first | (k_unfold; (try dsimp only)) | (k_end; wrow_close) | ((try dsimp only); (first | (with_reducible show wpAny _ _ (exec _ _) _ _ _); (try k_fold); (try (with_reducible rename News _ _ _ _ => zN; dsimp only at zN)) | skip); walk1) | walk1 | (leave1; walk_say "STEP leave1"; try dsimp only) | fail "no step"))
    unfold Stop3
    k_dflt (refine' iter_listUnr (vs := [_]) (lo := W.listOf #[_] _) (n := _) (by rfl) ?skF ?skN ?skm rfl rfl ?_)
    case skF => k_asm
    case skN => k_asm
    case skm => k_mem
    intro I2 lI2
    refine ListRest.succ fun it2 h2 tk2 hc2 F2 N2 => ?_
    have lI3 : ∀ p ∈ T, p.1 < I2 := fun p hp => lI2 p (by repeat (first | exact hp | apply List.mem_cons_of_mem))
    have lI4 := ltNat lI2
    clear lI2
    simp only [List.forall_mem_cons] at lI4
    obtain ⟨j1, j2, j3, j4, j5, j6, j7, j8, j9, j10, j11, j12, _⟩ := lI4
    (try k_fold)
    (repeat' (first | (k_unfold; (try dsimp only)) | (k_end; wrow_close) | ((try dsimp only); (first | (with_reducible show wpAny _ _ (exec _ _) _ _ _); (try k_fold); (try (with_reducible rename News _ _ _ _ => zN; dsimp only at zN)) | skip); walk1) | walk1 | (leave1; walk_say "STEP leave1"; try dsimp only) | fail "no step"))
    k_dflt (refine' turnEndS (x1 := x1) (D := D) (T := T) (sd := _) (fD := _) (us := us) (xs := xs) (op := 16 + (i : Int)) ?skF ?skN ?shoc ?sk1 ?sk2 ?sk3 ?sk4 ?sk5 ?sk6 ?sk7 ?sk8 ?sk9 ?sk10 ?sk11 ?sk12 ?skT ?so2 ?so3 ?so4 ?so5 ?so6 ?so7 ?so8 ?so9 ?so10 ?so11 ?so12 ?soT ?shms ?shmf ?shmo ?sq4 ?sq6 ?shQ)
    case shQ =>
      intro h3 tk3 hp
      (try dsimp only)
      (repeat' (first | (k_unfold; (try dsimp only)) | (k_end; wrow_close) | ((try dsimp only); (first | (with_reducible show wpAny _ _ (exec _ _) _ _ _); (try k_fold); (try (with_reducible rename News _ _ _ _ => zN; dsimp only at zN)) | skip); walk1) | walk1 | (leave1; walk_say "STEP leave1"; try dsimp only) | fail "no step"))
      exact hp
    case skF => k_asm
    case skN => k_asm
    case shoc => with_reducible assumption
    case sk1 => k_mem
    case sk2 => k_mem
    case sk3 => k_mem
    case sk4 => k_mem
    case sk5 => k_mem
    case sk6 => k_mem
    case sk7 => k_mem
    case sk8 => k_mem
    case sk9 => k_mem
    case sk10 => k_mem
    case sk11 => k_mem
    case sk12 => k_mem
    case skT => walk_at "my_sub"
    case soT => exact lI3
    case shms => kernel_rfl
    case shmf => kernel_rfl
    case shmo =>
      intro y h1 h2 h3 h4 h5
      simp only [if_neg h1, if_neg h2, if_neg h3, if_neg h4, if_neg h5]
    all_goals (first | assumption | exact Nat.ne_of_lt (by assumption) | exact Nat.ne_of_gt (by assumption) | exact Nat.lt_trans (by assumption) (by assumption) | (trace "OMEGA"; omega))
  case done =>
    intro h9 tk9 m9 news9 F9 N9 q1 q2 q3 q4
    (try dsimp only)
    (repeat' (first | (k_unfold; (try dsimp only)) | (k_end; wrow_close) | ((try dsimp only); (first | (with_reducible show wpAny _ _ (exec _ _) _ _ _); (try k_fold); (try (with_reducible rename News _ _ _ _ => zN; dsimp only at zN)) | skip); walk1) | walk1 | (leave1; walk_say "STEP leave1"; try dsimp only) | fail "no step"))
    refine endL (R := IsetR w led rows) (by assumption) st1 xn1 dn1 hg9 (by assumption) (by assumption) ⟨x1, _, rfl, fun g' hg' => isetOf hn (hg' _ q1) (hg' _ q2) (by with_reducible assumption) (q4 g' hg').1 (q4 g' hg').2, q3⟩
end

section
open PySem PySem.W PySem.Calls PySem.Spec PyProof.Rows
example : True := by
  w_top off
  k_with_none
  trivial
example : True := by
  k_with_none
  k_with "my_enter" => (refine' enterL ?k1 ?k2 ?k3 ?k4 ?k5 ?kA ?kF ?kK ?k6 ?k7 ?k8 ?k9 ?kB ?_ ?c2 ?c3 ?c4 ?c5; (case kA => exact rfl); (case kF => exact rfl); (case kK => assumption); (case k1 => k_asm); (case k2 => k_asm); (case k3 => k_asm); (case k4 => k_asm); (case k5 => k_asm); (case k6 => k_is); (case k7 => k_is); (case k8 => k_room); (case k9 => exact BindsTo.of_eq rfl); (case c5 => decide); (case kB => exact locs rfl); (case c2 => exact rfl); (case c3 => exact rfl); (case c4 => exact rfl); k_whole; intro g' L' h' hg' FG' F' N' B' X' T'; (try (refine anyTok ?_; intro tkz)); (try dsimp only); (let mz := frMap F'; have Fz : Fr _ _ _ mz := F'); (try k_lift B'); (try k_fold))
  k_with "my_use" => ((case k1 => k_asm); (case k2 => k_asm); (case k3 => k_asm); (case k4 => first | exact News.nil | k_asm); (case k5 => k_asm); (case kK => first | exact rfl | assumption); (case kp => first | trivial | assumption | exact IsetAt.keep (Fr.keep (by k_asm)) (by with_reducible assumption) | exact OpsAt.keep (Fr.keep (by k_asm)) (by with_reducible assumption)); (case kd => first | k_room | ktr_room); (case ku => ktr_units); (case k9 => k_asm))
  k_with "my_clr" => ((repeat (with_reducible rename Fr _ _ _ _ => z9; clear z9)); (repeat (with_reducible rename News _ _ _ _ => z9; clear z9)); (repeat (with_reducible rename Top _ _ _ _ _ _ => z9; clear z9)); (repeat (with_reducible rename Below _ _ _ _ => z9; clear z9)); (repeat (with_reducible rename Heap.StaysIn _ _ => z9; clear z9)); (repeat (with_reducible rename Frag.In _ _ => z9; clear z9)))
  k_with "my_next" => (refine' FPost.next ?_ ?F ?N ?hs; (case F => k_asm); (case N => k_asm); (case hs => lcg_sub))
  k_with "my_endH" => (rename (∀ (b : Addr) (o : Obj), _ → ¬ _ → _) => hg9; refine endH (by assumption) hg9 (by assumption) ?_)
  k_with "my_t3" => (refine ⟨_, rfl, IsT3.of_eq ?_ (IsT3.of_news (by assumption) (by k_mem))⟩)
  k_with "my_if" => ((repeat (with_reducible rename Fr _ _ _ _ => z9; clear z9)); (repeat (with_reducible rename News _ _ _ _ => z9; clear z9)); (repeat (with_reducible rename Top _ _ _ _ _ _ => z9; clear z9)); (repeat (with_reducible rename Below _ _ _ _ => z9; clear z9)); (repeat (with_reducible rename Heap.StaysIn _ _ => z9; clear z9)); (repeat (with_reducible first | (refine pos_eq (by assumption) ?_) | (refine neg_eqB (by assumption) ?_) | (refine neg_eq (by assumption) ?_))); try rfl)
  k_with "my_end1" => (rename (∀ (b : Addr) (o : Obj), _ → ¬ _ → _) => hg9; refine end1 (by assumption) hg9 (by first | exact (fun _ hp => absurd hp List.not_mem_nil) | assumption) (by assumption) (by assumption) (by first | exact (fun _ hp => absurd hp List.not_mem_nil) | k_all) (by k_mem) (by first | exact (fun _ hp => absurd hp List.not_mem_nil) | k_all) ?_)
  k_with "my_end0" => (rename (∀ (b : Addr) (o : Obj), _ → ¬ _ → _) => hg9; refine end0 (by assumption) hg9 (by first | exact (fun _ hp => absurd hp List.not_mem_nil) | assumption) (by assumption) (by assumption) (by first | exact (fun _ hp => absurd hp List.not_mem_nil) | k_all) ?_)
  trivial
local macro_rules | `(tactic| k_room) => `(tactic| ((try simp only [depth_under_make, depth_under_kw, depth_in1, depth_deeper]); (try dsimp only [ktrTop]); omega))
local macro_rules | `(tactic| k_inst) => `(tactic| (refine' instAt_base ?F ?h1 ?h2; (case F => k_asm); (case h1 => with_reducible assumption); (case h2 => with_reducible assumption)))
-- a test that the path has decided
def Stop2 (P : Prop) : Prop := P
theorem stopAt2 {P : Prop} (h : Stop2 P) : P := h
/-- all items are ints -/
def IntsL (vs : List Value) : Prop := ∀ v ∈ vs, ∃ (i : Int) (t : Tok), v = .int i t
theorem IntsL.at {vs : List Value} (x : IntsL vs) {i : Nat} (h : i < vs.length) : ∃ (n : Int) (t : Tok), vs[i]? = some (.int n t) := by
  obtain ⟨n, t, e⟩ := x _ (List.getElem_mem h)
  exact ⟨n, t, by rw [List.getElem?_eq_getElem h, e]⟩
theorem len_base {prog : Program} {w : World} {A : Around} {E : Value → Shared → Prop} {s : Shared} {h₀ : Heap} {L p : Addr} {m : Str → Option Value} {its : List Value} {Q : Value → Shared → Prop} (F : Fr h₀ L s.heap m) (hl : h₀.IsList p its.toArray) (hz : its.length ≤ 1000) (h : Q (.int (its.length : Nat) (s.toks + 1)) { s with toks := s.toks + 1 + 1 }) : wpAny (model prog w) A (call (.builtin "len") [.ref p]) Q E s :=
  call_len_list (list_up F hl) (by rw [List.size_toArray]; omega) (by rw [List.size_toArray]; exact h)
/-- an int of a base list -/
theorem item_base {w : World} {A : Around} {E : Value → Shared → Prop} {s : Shared} {h₀ : Heap} {L p : Addr} {m : Str → Option Value} {its : List Value} {value slice : Expr} {i : Int} {u : Tok} {Q : Value → Shared → Prop} (F : Fr h₀ L s.heap m) (hl : h₀.IsList p its.toArray) (hi : IntsL its) (h0 : 0 ≤ i) (h1 : i < its.length) (hz : its.length ≤ 1000)
    (h : ∀ n t', Q (.int n t') s)
    (hs : subscripted slice false (.ref p) (.int i u) = operate [.ref p, .int i u] (getItem (.ref p) (.int i u)) := by with_unfolding_all rfl) :
    wpAny (model PySem.Challenge.rw_nz0170_01.row.prog w) A (subscriptTail value slice (.ref p) (.int i u)) Q E s := by
  have hl' : s.heap.IsList p its.toArray := list_up F hl
  obtain ⟨n, t', e⟩ := hi.at (i := i.toNat) (by omega)
  exact tail_any hl'.typeIs slot_list_getitem.lookup (wpAny_getItem_list hl' h0 (by omega) (x := .int n t') (by simpa using e) (h n t')) hs
/-- a draw from the hand: the hand's count grows, all else stays -/
abbrev DSpec (k : Nat) (w : World) (mean : ExcName → Option Value) (mg mb : Str → Option Value) (f : Addr) (hl sl : Addr) (xs : List Value) (vs : List Value) (d : Nat) (S : Value → Prop) : Prop :=
  ∀ (dp un : Nat) (gd : Option (List Code)) (cn : Str) (cs : Scope) (a : Addr) (ccd : Value) (cl : List (Str × Addr)) (outer : List Env) (A₀ : Around) (base h₀ : Heap) (L : Addr) (m : Str → Option Value) (s : Shared) (Q E : Value → Shared → Prop) (at' : Nat) (t0 : Tok),
    Below A₀ base outer h₀ → Fr h₀ L s.heap m → (top.hd.heap_39 w.params).In h₀ → News h₀ L s.heap [(hl, W.listOf #[.ref sl, .int (at' : Int) t0] 0)] → TopP mean mg mb h₀ → cs.kind = .function →
    (s.heap.get? sl = some (W.listOf xs.toArray 0) ∧ IntsL xs ∧ xs.length ≤ 40) → at' + d ≤ 1000 → dp + k < recursionLimit → un + 20 * k < cLine →
    (∀ v h' tk' t', (∀ b o, b ≠ hl → s.heap.get? b = some o → h'.get? b = some o) → h'.get? hl = some (W.listOf #[.ref sl, .int ((at' + d : Nat) : Int) t'] 0) → S v → Q v { s with heap := h', toks := tk' }) →
    wpAny (model PySem.Challenge.rw_nz0170_01.row.prog w) (ktrTop dp un gd cn cs L a ccd cl outer) (call (.ref f) (.ref hl :: vs)) Q E s
theorem fr_but {h₀ h h' : Heap} {L hl : Addr} {m : Str → Option Value} {o : Obj} (F : Fr h₀ L h m) (N : News h₀ L h [(hl, o)]) (st : ∀ b o, b ≠ hl → h.get? b = some o → h'.get? b = some o) : Fr h₀ L h' m := by
  obtain ⟨⟨oL, es, ep, hL, r⟩, k, ab⟩ := F
  refine ⟨⟨oL, es, ep, st _ _ (Ne.symm (N _ (.head _)).2.1) hL, r⟩, fun b o' e => st _ _ (fun eb => ?_) (k b o' e), ab⟩
  have := (N _ (.head _)).2.2
  rw [← eb, e] at this; cases this
theorem news_but {h₀ h h' : Heap} {L hl : Addr} {news : Led} (N : News h₀ L h news) (hn : ∀ p ∈ news, p.1 ≠ hl) (st : ∀ b o, b ≠ hl → h.get? b = some o → h'.get? b = some o) : News h₀ L h' news := fun p hp => ⟨st _ _ (hn p hp) (N p hp).1, (N p hp).2⟩
theorem newsA {h₀ h : Heap} {L : Addr} {x y : Addr × Obj} {r : Led} (N : News h₀ L h (x :: y :: r)) : News h₀ L h (x :: r) := fun p hp => by
  rcases List.mem_cons.mp hp with rfl | hp
  · exact N _ (.head _)
  · exact N _ (.tail _ (.tail _ hp))
theorem useDr {k : Nat} {w : World} {mean : ExcName → Option Value} {mg mb : Str → Option Value} {f hl sl : Addr} {xs vs : List Value} {d : Nat} {S : Value → Prop} (C : DSpec k w mean mg mb f hl sl xs vs d S)
    {dp un : Nat} {gd : Option (List Code)} {cn : Str} {cs : Scope} {a : Addr} {ccd : Value} {cl : List (Str × Addr)} {outer : List Env} {A₀ : Around} {base h₀ : Heap} {L : Addr} {m : Str → Option Value} {s : Shared} {Q E : Value → Shared → Prop} {at' : Nat} {t0 : Tok} {news : Led} {z : Int}
    (B : Below A₀ base outer h₀) (F : Fr h₀ L s.heap m) (X : (top.hd.heap_39 w.params).In h₀) (N : News h₀ L s.heap [(hl, W.listOf #[.ref sl, .int z t0] 0)]) (T : TopP mean mg mb h₀) (hk : cs.kind = .function)
    (hsl : h₀.get? sl = some (W.listOf xs.toArray 0)) (hxi : IntsL xs) (hxl : xs.length ≤ 40) (hz : z = (at' : Int)) (hat : at' + d ≤ 1000) (hdp : dp + k < recursionLimit) (hu : un + 20 * k < cLine) (N' : News h₀ L s.heap news) (hn : ∀ p ∈ news, p.1 ≠ hl)
    (ret : ∀ v h' tk' t', S v → (∀ p ∈ news, p.1 ≠ hl) → Fr h₀ L h' m → News h₀ L h' ((hl, W.listOf #[.ref sl, .int ((at' + d : Nat) : Int) t'] 0) :: news) → Q v { s with heap := h', toks := tk' }) :
    wpAny (model PySem.Challenge.rw_nz0170_01.row.prog w) (ktrTop dp un gd cn cs L a ccd cl outer) (call (.ref f) (.ref hl :: vs)) Q E s := by
  subst hz
  refine C _ _ _ _ _ _ _ _ _ _ _ _ _ _ _ _ _ at' t0 B F X N T hk ⟨F.keep _ _ hsl, hxi, hxl⟩ hat hdp hu fun v h' tk' t' st ho hS => ret v h' tk' t' hS hn (fr_but F N st) fun p hp => ?_
  rcases List.mem_cons.mp hp with rfl | hp
  · exact ⟨ho, (N _ (.head _)).2⟩
  · exact news_but N' hn st p hp
end

section
open PySem PySem.W PySem.Calls PySem.Spec PyProof.Rows
example : True := by
  w_top off
  k_with_none
  trivial
local macro_rules | `(tactic| walk_at "compareOp Eq ref ref") => `(tactic| k_extra "z compareOp Eq ref ref")
local macro_rules | `(tactic| walk_at "compareOp NotEq ref ref") => `(tactic| k_extra "z compareOp NotEq ref ref")
example : True := by
  k_with_none
  k_with "my_enter" => (refine' enterL ?k1 ?k2 ?k3 ?k4 ?k5 ?kA ?kF ?kK ?k6 ?k7 ?k8 ?k9 ?kB ?_ ?c2 ?c3 ?c4 ?c5; (case kA => exact rfl); (case kF => exact rfl); (case kK => assumption); (case k1 => k_asm); (case k2 => k_asm); (case k3 => k_asm); (case k4 => k_asm); (case k5 => k_asm); (case k6 => k_is); (case k7 => k_is); (case k8 => k_room); (case k9 => exact BindsTo.of_eq rfl); (case c5 => decide); (case kB => exact locs rfl); (case c2 => exact rfl); (case c3 => exact rfl); (case c4 => exact rfl); k_whole; intro g' L' h' hg' FG' F' N' B' X' T'; (try (refine anyTok ?_; intro tkz)); (try dsimp only); (let mz := frMap F'; have Fz : Fr _ _ _ mz := F'); (try k_lift B'); (try k_fold))
  k_with "my_use" => ((case k1 => k_asm); (case k2 => k_asm); (case k3 => k_asm); (case k4 => first | exact News.nil | k_asm); (case k5 => k_asm); (case kK => first | exact rfl | assumption); (case kp => first | trivial | assumption | exact IsetAt.keep (Fr.keep (by k_asm)) (by with_reducible assumption) | exact OpsAt.keep (Fr.keep (by k_asm)) (by with_reducible assumption)); (case kd => first | k_room | ktr_room); (case ku => ktr_units); (case k9 => k_asm))
  k_with "my_clr" => ((repeat (with_reducible rename Fr _ _ _ _ => z9; clear z9)); (repeat (with_reducible rename News _ _ _ _ => z9; clear z9)); (repeat (with_reducible rename Top _ _ _ _ _ _ => z9; clear z9)); (repeat (with_reducible rename Below _ _ _ _ => z9; clear z9)); (repeat (with_reducible rename Heap.StaysIn _ _ => z9; clear z9)); (repeat (with_reducible rename Frag.In _ _ => z9; clear z9)))
  k_with "my_next" => (refine' FPost.next ?_ ?F ?N ?hs; (case F => k_asm); (case N => k_asm); (case hs => lcg_sub))
  k_with "my_endH" => (rename (∀ (b : Addr) (o : Obj), _ → ¬ _ → _) => hg9; refine endH (by assumption) hg9 (by assumption) ?_)
  k_with "my_t3" => (refine ⟨_, rfl, IsT3.of_eq ?_ (IsT3.of_news (by assumption) (by k_mem))⟩)
  k_with "my_if" => ((repeat (with_reducible rename Fr _ _ _ _ => z9; clear z9)); (repeat (with_reducible rename News _ _ _ _ => z9; clear z9)); (repeat (with_reducible rename Top _ _ _ _ _ _ => z9; clear z9)); (repeat (with_reducible rename Below _ _ _ _ => z9; clear z9)); (repeat (with_reducible rename Heap.StaysIn _ _ => z9; clear z9)); (repeat (with_reducible first | (refine pos_eq (by assumption) ?_) | (refine neg_eqB (by assumption) ?_) | (refine neg_eq (by assumption) ?_))); try rfl)
  k_with "my_end1" => (rename (∀ (b : Addr) (o : Obj), _ → ¬ _ → _) => hg9; refine end1 (by assumption) hg9 (by first | exact (fun _ hp => absurd hp List.not_mem_nil) | assumption) (by assumption) (by assumption) (by first | exact (fun _ hp => absurd hp List.not_mem_nil) | k_all) (by k_mem) (by first | exact (fun _ hp => absurd hp List.not_mem_nil) | k_all) ?_)
  k_with "my_end0" => (rename (∀ (b : Addr) (o : Obj), _ → ¬ _ → _) => hg9; refine end0 (by assumption) hg9 (by first | exact (fun _ hp => absurd hp List.not_mem_nil) | assumption) (by assumption) (by assumption) (by first | exact (fun _ hp => absurd hp List.not_mem_nil) | k_all) ?_)
  k_with "z compareOp Eq ref ref" => (k_here; k_dflt (refine' eq_nilB ?k1 ?k2 ?k3 ?k4 ?k5 ?_; (case k1 => k_asm); (case k2 => with_reducible assumption); (case k3 => k_asm); (case k4 => k_mem); (case k5 => ktr_units)))
  k_with "z compareOp NotEq ref ref" => (k_here; k_dflt (refine' ne_nilB ?k1 ?k2 ?k3 ?k4 ?k5 ?_; (case k1 => k_asm); (case k2 => with_reducible assumption); (case k3 => k_asm); (case k4 => k_mem); (case k5 => ktr_units)))
  trivial
local macro_rules | `(tactic| k_room) => `(tactic| ((try simp only [depth_under_make, depth_under_kw, depth_in1, depth_deeper]); (try dsimp only [ktrTop]); omega))
local macro_rules | `(tactic| k_inst) => `(tactic| (refine' instAt_base ?F ?h1 ?h2; (case F => k_asm); (case h1 => with_reducible assumption); (case h2 => with_reducible assumption)))
-- a test that the path has decided
theorem sl_out {h₀ h : Heap} {L hl sl : Addr} {xs : List Value} {t0 : Tok} {at' : Int} (N : News h₀ L h [(hl, W.listOf #[.ref sl, .int at' t0] 0)]) (hsl : h.get? sl = some (W.listOf xs.toArray 0)) (hi : IntsL xs) :
    sl ∉ ([(hl, W.listOf #[.ref sl, .int at' t0] 0)] : Led).map (·.1) := by
  intro hm
  have e : sl = hl := by simpa using hm
  subst e
  have h1 := (N _ (.head _)).1
  rw [hsl] at h1
  have h2 : xs = [.ref sl, .int at' t0] := by
    simpa [W.listOf] using h1
  obtain ⟨i, t, e⟩ := hi (.ref sl) (by rw [h2]; exact .head _)
  cases e
theorem draw_lt {many : Nat} {x : Int} {t : Tok} (hm : 0 < many) : ∃ (r : Nat) (t' : Tok), Value.int (x.fmod (many : Int)) t = .int (r : Int) t' ∧ r < many := by
  have h0 : 0 < ((many : Nat) : Int) := by omega
  have h1 := Int.fmod_nonneg_of_pos x h0
  have h2 := Int.fmod_lt_of_pos x h0
  exact ⟨(x.fmod many).toNat, t, by rw [Int.toNat_of_nonneg h1], by omega⟩
theorem endD {s : Shared} {g h' : Heap} {L' hl sl : Addr} {m' : Str → Option Value} {oh : Obj} {news : Led} {Q : Value → Shared → Prop} {S : Value → Prop} {v : Value} {tk' at' d : Nat} {z : Int} {t1 : Tok}
    (hret : ∀ v h' tk' t', (∀ b o, b ≠ hl → s.heap.get? b = some o → h'.get? b = some o) → h'.get? hl = some (W.listOf #[.ref sl, .int ((at' + d : Nat) : Int) t'] 0) → S v → Q v { s with heap := h', toks := tk' })
    (hg : ∀ b o, s.heap.get? b = some o → b ∉ ([(hl, oh)] : Led).map (·.1) → g.get? b = some o) (F : Fr g L' h' m') (N : News g L' h' news) (hm : (hl, W.listOf #[.ref sl, .int z t1] 0) ∈ news) (hz : z = ((at' + d : Nat) : Int)) (hS : S v) : Q v { s with heap := h', toks := tk' } := by
  refine hret _ _ _ t1 (fun b o' hb e => F.keep _ _ (hg _ _ e (by simpa using hb))) ?_ hS
  have := (N _ hm).1
  rw [← hz]; exact this
theorem law_draw (w : World) (mean mg mb) (hl sl : Addr) (xs : List Value) (many : Nat) (u : Tok) (hm : 0 < many) : DSpec 2 w mean mg mb 466 hl sl xs [.int (many : Int) u] 1 (fun v => ∃ (r : Nat) (t : Tok), v = .int (r : Int) t ∧ r < many) := by
  unfold DSpec TopP
  k_fill
  intro dp un gd cn cs a ccd cl outer A₀ base h₀ L m s Q E at' t0 B F X N T hk hP hat hdp hu hret
  obtain ⟨hsl, hints, hlen⟩ := hP
  refine wpAny_call ?_
  k_dflt (walk_at "my_enter")
  rename (∀ (b : Addr) (o : Obj), _ → ¬ _ → _) => hg9
  have hsg := hg9 _ _ hsl (sl_out N hsl hints)
  have hb := list_base hsg
  (repeat' (first | (k_unfold; (try dsimp only)) | (k_end; wrow_close) | ((try dsimp only); (first | (with_reducible show wpAny _ _ (exec _ _) _ _ _); (try k_fold); (try (with_reducible rename News _ _ _ _ => zN; dsimp only at zN)) | skip); walk1) | walk1 | (leave1; walk_say "STEP leave1"; try dsimp only) | fail "no step"))
  · (refine' endD hret hg9 ?F ?N ?hm ?hz ?S; (case F => assumption); (case N => assumption); (case hm => k_mem); (case hz => omega); (case S => exact draw_lt hm))
  · have hz1 : (xs.toArray.size == 0) = false := by assumption
    have hx1 : 0 < xs.length := by rw [List.size_toArray] at hz1; have := beq_eq_false_iff_ne.mp hz1; omega
    refine len_base (by k_asm) hb (by omega) ?_
    have hx2 : ¬ ((xs.length : Nat) : Int) = 0 := by omega
    have hx3 : 0 < ((xs.length : Nat) : Int) := by omega
    (repeat' (first | (k_unfold; (try dsimp only)) | (k_end; wrow_close) | ((try dsimp only); (first | (with_reducible show wpAny _ _ (exec _ _) _ _ _); (try k_fold); (try (with_reducible rename News _ _ _ _ => zN; dsimp only at zN)) | skip); walk1) | walk1 | (leave1; walk_say "STEP leave1"; try dsimp only) | fail "no step"))
    refine item_base (by k_asm) hb hints (Int.fmod_nonneg_of_pos _ hx3) (Int.fmod_lt_of_pos _ hx3) (by omega) ?_
    intro n9 t9
    (repeat' (first | (k_unfold; (try dsimp only)) | (k_end; wrow_close) | ((try dsimp only); (first | (with_reducible show wpAny _ _ (exec _ _) _ _ _); (try k_fold); (try (with_reducible rename News _ _ _ _ => zN; dsimp only at zN)) | skip); walk1) | walk1 | (leave1; walk_say "STEP leave1"; try dsimp only) | fail "no step"))
    (refine' endD hret hg9 ?F ?N ?hm ?hz ?S; (case F => assumption); (case N => assumption); (case hm => k_mem); (case hz => omega); (case S => exact draw_lt hm))
end

section
open PySem PySem.W PySem.Calls PySem.Spec PyProof.Rows
example : True := by
  w_top off
  k_with_none
  trivial
local macro_rules | `(tactic| walk_at "call ref") => `(tactic| k_extra "z call ref")
example : True := by
  k_with_none
  k_with "my_enter" => (refine' enterL ?k1 ?k2 ?k3 ?k4 ?k5 ?kA ?kF ?kK ?k6 ?k7 ?k8 ?k9 ?kB ?_ ?c2 ?c3 ?c4 ?c5; (case kA => exact rfl); (case kF => exact rfl); (case kK => assumption); (case k1 => k_asm); (case k2 => k_asm); (case k3 => k_asm); (case k4 => k_asm); (case k5 => k_asm); (case k6 => k_is); (case k7 => k_is); (case k8 => k_room); (case k9 => exact BindsTo.of_eq rfl); (case c5 => decide); (case kB => exact locs rfl); (case c2 => exact rfl); (case c3 => exact rfl); (case c4 => exact rfl); k_whole; intro g' L' h' hg' FG' F' N' B' X' T'; (try (refine anyTok ?_; intro tkz)); (try dsimp only); (let mz := frMap F'; have Fz : Fr _ _ _ mz := F'); (try k_lift B'); (try k_fold))
  k_with "my_use" => ((case k1 => k_asm); (case k2 => k_asm); (case k3 => k_asm); (case k4 => first | exact News.nil | k_asm); (case k5 => k_asm); (case kK => first | exact rfl | assumption); (case kp => first | trivial | assumption | exact IsetAt.keep (Fr.keep (by k_asm)) (by with_reducible assumption) | exact OpsAt.keep (Fr.keep (by k_asm)) (by with_reducible assumption)); (case kd => first | k_room | ktr_room); (case ku => ktr_units); (case k9 => k_asm))
  k_with "my_clr" => ((repeat (with_reducible rename Fr _ _ _ _ => z9; clear z9)); (repeat (with_reducible rename News _ _ _ _ => z9; clear z9)); (repeat (with_reducible rename Top _ _ _ _ _ _ => z9; clear z9)); (repeat (with_reducible rename Below _ _ _ _ => z9; clear z9)); (repeat (with_reducible rename Heap.StaysIn _ _ => z9; clear z9)); (repeat (with_reducible rename Frag.In _ _ => z9; clear z9)))
  k_with "my_next" => (refine' FPost.next ?_ ?F ?N ?hs; (case F => k_asm); (case N => k_asm); (case hs => lcg_sub))
  k_with "my_endH" => (rename (∀ (b : Addr) (o : Obj), _ → ¬ _ → _) => hg9; refine endH (by assumption) hg9 (by assumption) ?_)
  k_with "my_t3" => (refine ⟨_, rfl, IsT3.of_eq ?_ (IsT3.of_news (by assumption) (by k_mem))⟩)
  k_with "my_if" => ((repeat (with_reducible rename Fr _ _ _ _ => z9; clear z9)); (repeat (with_reducible rename News _ _ _ _ => z9; clear z9)); (repeat (with_reducible rename Top _ _ _ _ _ _ => z9; clear z9)); (repeat (with_reducible rename Below _ _ _ _ => z9; clear z9)); (repeat (with_reducible rename Heap.StaysIn _ _ => z9; clear z9)); (repeat (with_reducible first | (refine pos_eq (by assumption) ?_) | (refine neg_eqB (by assumption) ?_) | (refine neg_eq (by assumption) ?_))); try rfl)
  k_with "my_end1" => (rename (∀ (b : Addr) (o : Obj), _ → ¬ _ → _) => hg9; refine end1 (by assumption) hg9 (by first | exact (fun _ hp => absurd hp List.not_mem_nil) | assumption) (by assumption) (by assumption) (by first | exact (fun _ hp => absurd hp List.not_mem_nil) | k_all) (by k_mem) (by first | exact (fun _ hp => absurd hp List.not_mem_nil) | k_all) ?_)
  k_with "my_end0" => (rename (∀ (b : Addr) (o : Obj), _ → ¬ _ → _) => hg9; refine end0 (by assumption) hg9 (by first | exact (fun _ hp => absurd hp List.not_mem_nil) | assumption) (by assumption) (by assumption) (by first | exact (fun _ hp => absurd hp List.not_mem_nil) | k_all) ?_)
  k_with "z call ref" => (k_here; (with_reducible show wpAny _ _ (call (Value.ref 466) _) _ _ _); with_reducible refine stopAt2 ?_)
  trivial
local macro_rules | `(tactic| k_room) => `(tactic| ((try simp only [depth_under_make, depth_under_kw, depth_in1, depth_deeper]); (try dsimp only [ktrTop]); omega))
local macro_rules | `(tactic| k_inst) => `(tactic| (refine' instAt_base ?F ?h1 ?h2; (case F => k_asm); (case h1 => with_reducible assumption); (case h2 => with_reducible assumption)))
-- a test that the path has decided
def stemsL : List Str := [Str.ofString "add", Str.ofString "mov", Str.ofString "movs", Str.ofString "movz", Str.ofString "movsb", Str.ofString "movzw", Str.ofString "ret", Str.ofString "leave", Str.ofString "sal", Str.ofString "cmovnae", Str.ofString "movss", Str.ofString "movzx", Str.ofString "imul", Str.ofString "cwt", Str.ofString "stos", Str.ofString "d"]
def sufsL : List Str := [Str.ofString "", Str.ofString "b", Str.ofString "w", Str.ofString "l", Str.ofString "q", Str.ofString "x", Str.ofString "d"]
theorem law_word (w : World) (mean mg mb) (hl sl : Addr) (xs : List Value) : DSpec 3 w mean mg mb 520 hl sl xs [] 2 (fun v => ∃ (i j : Nat) (t : Tok), v = .str (stemsL.getD i Str.empty ++ sufsL.getD j Str.empty) t ∧ i < 16 ∧ j < 7) := by
  unfold DSpec TopP
  k_fill
  intro dp un gd cn cs a ccd cl outer A₀ base h₀ L m s Q E at' t0 B F X N T hk hP hat hdp hu hret
  obtain ⟨hsl, hints, hlen⟩ := hP
  refine wpAny_call ?_
  k_dflt (walk_at "my_enter")
  rename (∀ (b : Addr) (o : Obj), _ → ¬ _ → _) => hg9
  have hsg := hg9 _ _ hsl (sl_out N hsl hints)
  (repeat' (first | (k_unfold; (try dsimp only)) | (k_end; wrow_close) | ((try dsimp only); (first | (with_reducible show wpAny _ _ (exec _ _) _ _ _); (try k_fold); (try (with_reducible rename News _ _ _ _ => zN; dsimp only at zN)) | skip); walk1) | walk1 | (leave1; walk_say "STEP leave1"; try dsimp only) | fail "no step"))
  unfold Stop2
  k_dflt (refine' useDr (law_draw _ _ _ _ _ _ _ 16 _ ?hm) (at' := at') (news := [_]) ?k1 ?k2 ?k3 ?k4 ?k5 ?kK ?kb ?hxi ?hxl ?hz ?hat ?kd ?ku ?k9 ?hn ?_)
  case hm => decide
  case k1 => k_asm
  case k2 => k_asm
  case k3 => k_asm
  case k4 => exact newsOnly (by k_asm) (by k_mem)
  case k5 => k_asm
  case kK => first | exact rfl | assumption
  case kb => exact hsg
  case hxi => exact hints
  case hxl => exact hlen
  case hz => exact rfl
  case hat => omega
  case kd => k_room
  case ku => ktr_units
  case k9 => exact newsA (by k_asm)
  case hn => k_all
  k_whole
  intro v1 h1 tk1 t1 hS1 hne1 F1 N1
  obtain ⟨r1, t1', rfl, hr1⟩ := hS1
  (repeat' (first | (k_unfold; (try dsimp only)) | (k_end; wrow_close) | ((try dsimp only); (first | (with_reducible show wpAny _ _ (exec _ _) _ _ _); (try k_fold); (try (with_reducible rename News _ _ _ _ => zN; dsimp only at zN)) | skip); walk1) | walk1 | (leave1; walk_say "STEP leave1"; try dsimp only) | fail "no step"))
  unfold Stop2
  k_dflt (refine' useDr (law_draw _ _ _ _ _ _ _ 7 _ ?hm) (at' := at' + 1) (news := [_, _]) ?k1 ?k2 ?k3 ?k4 ?k5 ?kK ?kb ?hxi ?hxl ?hz ?hat ?kd ?ku ?k9 ?hn ?_)
  case hm => decide
  case k1 => k_asm
  case k2 => k_asm
  case k3 => k_asm
  case k4 => exact newsOnly (by k_asm) (by k_mem)
  case k5 => k_asm
  case kK => first | exact rfl | assumption
  case kb => exact hsg
  case hxi => exact hints
  case hxl => exact hlen
  case hz => exact rfl
  case hat => omega
  case kd => k_room
  case ku => ktr_units
  case k9 => exact newsA (by k_asm)
  case hn =>
    intro p hp
    rcases List.mem_cons.mp hp with rfl | hp
    · exact Nat.ne_of_gt (And.left ‹hl < _ ∧ _›)
    · exact hne1 p hp
  k_whole
  intro v2 h2 tk2 t2 hS2 hne2 F2 N2
  obtain ⟨r2, t2', rfl, hr2⟩ := hS2
  (repeat' (first | (k_unfold; (try dsimp only)) | (k_end; wrow_close) | ((try dsimp only); (first | (with_reducible show wpAny _ _ (exec _ _) _ _ _); (try k_fold); (try (with_reducible rename News _ _ _ _ => zN; dsimp only at zN)) | skip); walk1) | walk1 | (leave1; walk_say "STEP leave1"; try dsimp only) | fail "no step"))
  (refine' endD hret hg9 ?F ?N ?hm ?hz ?S; (case F => assumption); (case N => assumption); (case hm => k_mem); (case hz => omega); (case S => exact ⟨r1, r2, _, rfl, hr1, hr2⟩))
end

section
open PySem PySem.W PySem.Calls PySem.Spec PyProof.Rows
example : True := by
  w_top off
  k_with_none
  trivial
example : True := by
  k_with_none
  k_with "my_enter" => (refine' enterL ?k1 ?k2 ?k3 ?k4 ?k5 ?kA ?kF ?kK ?k6 ?k7 ?k8 ?k9 ?kB ?_ ?c2 ?c3 ?c4 ?c5; (case kA => exact rfl); (case kF => exact rfl); (case kK => assumption); (case k1 => k_asm); (case k2 => k_asm); (case k3 => k_asm); (case k4 => k_asm); (case k5 => k_asm); (case k6 => k_is); (case k7 => k_is); (case k8 => k_room); (case k9 => exact BindsTo.of_eq rfl); (case c5 => decide); (case kB => exact locs rfl); (case c2 => exact rfl); (case c3 => exact rfl); (case c4 => exact rfl); k_whole; intro g' L' h' hg' FG' F' N' B' X' T'; (try (refine anyTok ?_; intro tkz)); (try dsimp only); (let mz := frMap F'; have Fz : Fr _ _ _ mz := F'); (try k_lift B'); (try k_fold))
  k_with "my_use" => ((case k1 => k_asm); (case k2 => k_asm); (case k3 => k_asm); (case k4 => first | exact News.nil | k_asm); (case k5 => k_asm); (case kK => first | exact rfl | assumption); (case kp => first | trivial | assumption | exact IsetAt.keep (Fr.keep (by k_asm)) (by with_reducible assumption) | exact OpsAt.keep (Fr.keep (by k_asm)) (by with_reducible assumption)); (case kd => first | k_room | ktr_room); (case ku => ktr_units); (case k9 => k_asm))
  k_with "my_clr" => ((repeat (with_reducible rename Fr _ _ _ _ => z9; clear z9)); (repeat (with_reducible rename News _ _ _ _ => z9; clear z9)); (repeat (with_reducible rename Top _ _ _ _ _ _ => z9; clear z9)); (repeat (with_reducible rename Below _ _ _ _ => z9; clear z9)); (repeat (with_reducible rename Heap.StaysIn _ _ => z9; clear z9)); (repeat (with_reducible rename Frag.In _ _ => z9; clear z9)))
  k_with "my_next" => (refine' FPost.next ?_ ?F ?N ?hs; (case F => k_asm); (case N => k_asm); (case hs => lcg_sub))
  k_with "my_endH" => (rename (∀ (b : Addr) (o : Obj), _ → ¬ _ → _) => hg9; refine endH (by assumption) hg9 (by assumption) ?_)
  k_with "my_t3" => (refine ⟨_, rfl, IsT3.of_eq ?_ (IsT3.of_news (by assumption) (by k_mem))⟩)
  k_with "my_if" => ((repeat (with_reducible rename Fr _ _ _ _ => z9; clear z9)); (repeat (with_reducible rename News _ _ _ _ => z9; clear z9)); (repeat (with_reducible rename Top _ _ _ _ _ _ => z9; clear z9)); (repeat (with_reducible rename Below _ _ _ _ => z9; clear z9)); (repeat (with_reducible rename Heap.StaysIn _ _ => z9; clear z9)); (repeat (with_reducible first | (refine pos_eq (by assumption) ?_) | (refine neg_eqB (by assumption) ?_) | (refine neg_eq (by assumption) ?_))); try rfl)
  k_with "my_end1" => (rename (∀ (b : Addr) (o : Obj), _ → ¬ _ → _) => hg9; refine end1 (by assumption) hg9 (by first | exact (fun _ hp => absurd hp List.not_mem_nil) | assumption) (by assumption) (by assumption) (by first | exact (fun _ hp => absurd hp List.not_mem_nil) | k_all) (by k_mem) (by first | exact (fun _ hp => absurd hp List.not_mem_nil) | k_all) ?_)
  k_with "my_end0" => (rename (∀ (b : Addr) (o : Obj), _ → ¬ _ → _) => hg9; refine end0 (by assumption) hg9 (by first | exact (fun _ hp => absurd hp List.not_mem_nil) | assumption) (by assumption) (by assumption) (by first | exact (fun _ hp => absurd hp List.not_mem_nil) | k_all) ?_)
  trivial
local macro_rules | `(tactic| k_room) => `(tactic| ((try simp only [depth_under_make, depth_under_kw, depth_in1, depth_deeper]); (try dsimp only [ktrTop]); omega))
local macro_rules | `(tactic| k_inst) => `(tactic| (refine' instAt_base ?F ?h1 ?h2; (case F => k_asm); (case h1 => with_reducible assumption); (case h2 => with_reducible assumption)))
-- a test that the path has decided
/-- the dict of a register -/
inductive IsRegD (kd : Str) : Obj → Prop
  | mk {y1 y2 y3 y4 : Int} {u1 u2 u3 u4 u5 u6 u7 u8 : Tok} {nm : Str} {nb sz : Int} : IsRegD kd (W.dictOf [⟨y1, .str (Str.ofString "name") u1, .str nm u2⟩, ⟨y2, .str (Str.ofString "kind") u3, .str kd u4⟩, ⟨y3, .str (Str.ofString "number") u5, .int nb u6⟩, ⟨y4, .str (Str.ofString "size") u7, .int sz u8⟩] 4)
def RegP (kd : Str) (v : Value) (own : Led) : Prop := ∃ (ra dra : Addr) (od : Obj), v = .ref ra ∧ own = [(ra, instObj 419 dra), (dra, od)] ∧ IsRegD kd od
theorem RegP.mk {kd : Str} {ra dra : Addr} {y1 y2 y3 y4 : Int} {u1 u2 u3 u4 u5 u6 u7 u8 : Tok} {nm : Str} {nb sz : Int} : RegP kd (.ref ra) [(ra, instObj 419 dra), (dra, W.dictOf [⟨y1, .str (Str.ofString "name") u1, .str nm u2⟩, ⟨y2, .str (Str.ofString "kind") u3, .str kd u4⟩, ⟨y3, .str (Str.ofString "number") u5, .int nb u6⟩, ⟨y4, .str (Str.ofString "size") u7, .int sz u8⟩] 4)] := ⟨_, _, _, rfl, rfl, .mk⟩
theorem end2 {s : Shared} {g h' : Heap} {L' q r : Addr} {m' : Str → Option Value} {o o2 : Obj} {news' : Led} {Q : Value → Shared → Prop} {R : Value → Led → Prop} {tk' : Nat} (hret : ∀ (v : Value) (own : Led) (h' : Heap) (tk' : Nat), s.heap.StaysIn h' → (∀ p ∈ own, h'.get? p.1 = some p.2 ∧ s.heap.get? p.1 = none) → R v own → Q v { s with heap := h', toks := tk' })
    (hg : ∀ b o, s.heap.get? b = some o → b ∉ ([] : Led).map (·.1) → g.get? b = some o) (F : Fr g L' h' m') (N : News g L' h' news') (hm : (q, o) ∈ news') (hm2 : (r, o2) ∈ news') (hR : R (.ref q) [(q, o), (r, o2)]) :
    Q (.ref q) { s with heap := h', toks := tk' } :=
  hret _ _ _ _ (stays_end0 hg F) (fresh_of (led := []) hg N (fun p hp => by
    rcases List.mem_cons.mp hp with rfl | hp
    · exact hm
    · rw [List.mem_singleton.mp hp]; exact hm2) (fun p hp r hr => absurd hr List.not_mem_nil)) hR
theorem useReg {mean : ExcName → Option Value} {mg mb : Str → Option Value} {w : World} {f : Addr} {led : Led} {vs : List Value} {P : Heap → Prop} {k : Nat} {kd : Str} (S : FSpec k w mean mg mb f led vs P (RegP kd))
    {dp un : Nat} {gd : Option (List Code)} {cn : Str} {cs : Scope} {a : Addr} {ccd : Value} {cl : List (Str × Addr)} {outer : List Env} {A₀ : Around} {base h₀ : Heap} {L : Addr} {m : Str → Option Value} {s : Shared} {Q E : Value → Shared → Prop} {news : Led}
    (B : Below A₀ base outer h₀) (F : Fr h₀ L s.heap m) (X : (top.hd.heap_39 w.params).In h₀) (N : News h₀ L s.heap led) (T : TopP mean mg mb h₀) (hk : cs.kind = .function) (hp : P s.heap) (hdp : dp + k < recursionLimit) (hu : un + 20 * k < cLine) (N' : News h₀ L s.heap news)
    (ret : ∀ (ra dra : Addr) (od : Obj) h' tk', IsRegD kd od → s.heap.StaysIn h' → Fr h₀ L h' m → News h₀ L h' ((ra, instObj 419 dra) :: (dra, od) :: news) → Q (.ref ra) { s with heap := h', toks := tk' }) :
    wpAny (model PySem.Challenge.rw_nz0170_01.row.prog w) (ktrTop dp un gd cn cs L a ccd cl outer) (call (.ref f) vs) Q E s :=
  S _ _ _ _ _ _ _ _ _ _ _ _ _ _ _ _ _ B F X N T hk hp hdp hu fun v own h' tk' st ho r => by
    obtain ⟨ra, dra, od, rfl, rfl, hd⟩ := r
    exact ret ra dra od h' tk' hd st (fr_stays F st) (news_stays F N' st ho)
theorem RegIn.of_news {h₀ h : Heap} {L a da ra dra : Addr} {news : Led} {kd : Str} {od : Obj} {x1 x2 : Int} {t1 t2 t3 : Tok} (N : News h₀ L h news)
    (m1 : (a, instObj 325 da) ∈ news) (m2 : (da, W.dictOf [⟨x1, .str (Str.ofString "kind") t1, .str (Str.ofString "reg") t2⟩, ⟨x2, .str (Str.ofString "register") t3, .ref ra⟩] 2) ∈ news) (m3 : (ra, instObj 419 dra) ∈ news)
    (m4 : (dra, od) ∈ news) (hd : IsRegD kd od) : RegIn h a kd := by
  cases hd
  exact ⟨da, ra, dra, x1, x2, _, _, _, _, t1, t2, t3, _, _, _, _, _, _, _, _, _, _, _, (N _ m1).1, (N _ m2).1, (N _ m3).1, (N _ m4).1⟩
theorem News.get {h₀ h : Heap} {L q : Addr} {o : Obj} {news : Led} (N : News h₀ L h news) (hm : (q, o) ∈ news) : h.get? q = some o := (N _ hm).1
end

section
open PySem PySem.W PySem.Calls PySem.Spec PyProof.Rows
example : True := by
  w_top off
  k_with_none
  trivial
example : True := by
  k_with_none
  k_with "my_enter" => (refine' enterL ?k1 ?k2 ?k3 ?k4 ?k5 ?kA ?kF ?kK ?k6 ?k7 ?k8 ?k9 ?kB ?_ ?c2 ?c3 ?c4 ?c5; (case kA => exact rfl); (case kF => exact rfl); (case kK => assumption); (case k1 => k_asm); (case k2 => k_asm); (case k3 => k_asm); (case k4 => k_asm); (case k5 => k_asm); (case k6 => k_is); (case k7 => k_is); (case k8 => k_room); (case k9 => exact BindsTo.of_eq rfl); (case c5 => decide); (case kB => exact locs rfl); (case c2 => exact rfl); (case c3 => exact rfl); (case c4 => exact rfl); k_whole; intro g' L' h' hg' FG' F' N' B' X' T'; (try (refine anyTok ?_; intro tkz)); (try dsimp only); (let mz := frMap F'; have Fz : Fr _ _ _ mz := F'); (try k_lift B'); (try k_fold))
  k_with "my_use" => ((case k1 => k_asm); (case k2 => k_asm); (case k3 => k_asm); (case k4 => first | exact News.nil | k_asm); (case k5 => k_asm); (case kK => first | exact rfl | assumption); (case kp => first | trivial | assumption | exact IsetAt.keep (Fr.keep (by k_asm)) (by with_reducible assumption) | exact OpsAt.keep (Fr.keep (by k_asm)) (by with_reducible assumption)); (case kd => first | k_room | ktr_room); (case ku => ktr_units); (case k9 => k_asm))
  k_with "my_clr" => ((repeat (with_reducible rename Fr _ _ _ _ => z9; clear z9)); (repeat (with_reducible rename News _ _ _ _ => z9; clear z9)); (repeat (with_reducible rename Top _ _ _ _ _ _ => z9; clear z9)); (repeat (with_reducible rename Below _ _ _ _ => z9; clear z9)); (repeat (with_reducible rename Heap.StaysIn _ _ => z9; clear z9)); (repeat (with_reducible rename Frag.In _ _ => z9; clear z9)))
  k_with "my_next" => (refine' FPost.next ?_ ?F ?N ?hs; (case F => k_asm); (case N => k_asm); (case hs => lcg_sub))
  k_with "my_endH" => (rename (∀ (b : Addr) (o : Obj), _ → ¬ _ → _) => hg9; refine endH (by assumption) hg9 (by assumption) ?_)
  k_with "my_t3" => (refine ⟨_, rfl, IsT3.of_eq ?_ (IsT3.of_news (by assumption) (by k_mem))⟩)
  k_with "my_if" => ((repeat (with_reducible rename Fr _ _ _ _ => z9; clear z9)); (repeat (with_reducible rename News _ _ _ _ => z9; clear z9)); (repeat (with_reducible rename Top _ _ _ _ _ _ => z9; clear z9)); (repeat (with_reducible rename Below _ _ _ _ => z9; clear z9)); (repeat (with_reducible rename Heap.StaysIn _ _ => z9; clear z9)); (repeat (with_reducible first | (refine pos_eq (by assumption) ?_) | (refine neg_eqB (by assumption) ?_) | (refine neg_eq (by assumption) ?_))); try rfl)
  k_with "my_end1" => (rename (∀ (b : Addr) (o : Obj), _ → ¬ _ → _) => hg9; refine end1 (by assumption) hg9 (by first | exact (fun _ hp => absurd hp List.not_mem_nil) | assumption) (by assumption) (by assumption) (by first | exact (fun _ hp => absurd hp List.not_mem_nil) | k_all) (by k_mem) (by first | exact (fun _ hp => absurd hp List.not_mem_nil) | k_all) ?_)
  k_with "my_end0" => (rename (∀ (b : Addr) (o : Obj), _ → ¬ _ → _) => hg9; refine end0 (by assumption) hg9 (by first | exact (fun _ hp => absurd hp List.not_mem_nil) | assumption) (by assumption) (by assumption) (by first | exact (fun _ hp => absurd hp List.not_mem_nil) | k_all) ?_)
  trivial
local macro_rules | `(tactic| k_room) => `(tactic| ((try simp only [depth_under_make, depth_under_kw, depth_in1, depth_deeper]); (try dsimp only [ktrTop]); omega))
local macro_rules | `(tactic| k_inst) => `(tactic| (refine' instAt_base ?F ?h1 ?h2; (case F => k_asm); (case h1 => with_reducible assumption); (case h2 => with_reducible assumption)))
-- a test that the path has decided
theorem gpr1 (w : World) (mean mg mb) (t u : Tok) : FSpec 4 w mean mg mb 444 [] [.int 1 t, .int 32 u] (fun _ => True) (RegP (Str.ofString "gpr")) := by
  unfold FSpec TopP
  k_fill
  intro dp un gd cn cs a ccd cl outer A₀ base h₀ L m s Q E B F X N T hk hP hdp hu hret
  refine wpAny_call ?_
  k_dflt (walk_at "my_enter")
  (repeat' (first | (k_unfold; (try dsimp only)) | (k_end; wrow_close) | ((try dsimp only); (first | (with_reducible show wpAny _ _ (exec _ _) _ _ _); (try k_fold); (try (with_reducible rename News _ _ _ _ => zN; dsimp only at zN)) | skip); walk1) | walk1 | (leave1; walk_say "STEP leave1"; try dsimp only) | fail "no step"))
  rename (∀ (b : Addr) (o : Obj), _ → ¬ _ → _) => hg9
  exact end2 (by assumption) hg9 (by assumption) (by assumption) (by k_mem) (by k_mem) RegP.mk
end

section
open PySem PySem.W PySem.Calls PySem.Spec PyProof.Rows
example : True := by
  w_top off
  k_with_none
  trivial
example : True := by
  k_with_none
  k_with "my_enter" => (refine' enterL ?k1 ?k2 ?k3 ?k4 ?k5 ?kA ?kF ?kK ?k6 ?k7 ?k8 ?k9 ?kB ?_ ?c2 ?c3 ?c4 ?c5; (case kA => exact rfl); (case kF => exact rfl); (case kK => assumption); (case k1 => k_asm); (case k2 => k_asm); (case k3 => k_asm); (case k4 => k_asm); (case k5 => k_asm); (case k6 => k_is); (case k7 => k_is); (case k8 => k_room); (case k9 => exact BindsTo.of_eq rfl); (case c5 => decide); (case kB => exact locs rfl); (case c2 => exact rfl); (case c3 => exact rfl); (case c4 => exact rfl); k_whole; intro g' L' h' hg' FG' F' N' B' X' T'; (try (refine anyTok ?_; intro tkz)); (try dsimp only); (let mz := frMap F'; have Fz : Fr _ _ _ mz := F'); (try k_lift B'); (try k_fold))
  k_with "my_use" => ((case k1 => k_asm); (case k2 => k_asm); (case k3 => k_asm); (case k4 => first | exact News.nil | k_asm); (case k5 => k_asm); (case kK => first | exact rfl | assumption); (case kp => first | trivial | assumption | exact IsetAt.keep (Fr.keep (by k_asm)) (by with_reducible assumption) | exact OpsAt.keep (Fr.keep (by k_asm)) (by with_reducible assumption)); (case kd => first | k_room | ktr_room); (case ku => ktr_units); (case k9 => k_asm))
  k_with "my_clr" => ((repeat (with_reducible rename Fr _ _ _ _ => z9; clear z9)); (repeat (with_reducible rename News _ _ _ _ => z9; clear z9)); (repeat (with_reducible rename Top _ _ _ _ _ _ => z9; clear z9)); (repeat (with_reducible rename Below _ _ _ _ => z9; clear z9)); (repeat (with_reducible rename Heap.StaysIn _ _ => z9; clear z9)); (repeat (with_reducible rename Frag.In _ _ => z9; clear z9)))
  k_with "my_next" => (refine' FPost.next ?_ ?F ?N ?hs; (case F => k_asm); (case N => k_asm); (case hs => lcg_sub))
  k_with "my_endH" => (rename (∀ (b : Addr) (o : Obj), _ → ¬ _ → _) => hg9; refine endH (by assumption) hg9 (by assumption) ?_)
  k_with "my_t3" => (refine ⟨_, rfl, IsT3.of_eq ?_ (IsT3.of_news (by assumption) (by k_mem))⟩)
  k_with "my_if" => ((repeat (with_reducible rename Fr _ _ _ _ => z9; clear z9)); (repeat (with_reducible rename News _ _ _ _ => z9; clear z9)); (repeat (with_reducible rename Top _ _ _ _ _ _ => z9; clear z9)); (repeat (with_reducible rename Below _ _ _ _ => z9; clear z9)); (repeat (with_reducible rename Heap.StaysIn _ _ => z9; clear z9)); (repeat (with_reducible first | (refine pos_eq (by assumption) ?_) | (refine neg_eqB (by assumption) ?_) | (refine neg_eq (by assumption) ?_))); try rfl)
  k_with "my_end1" => (rename (∀ (b : Addr) (o : Obj), _ → ¬ _ → _) => hg9; refine end1 (by assumption) hg9 (by first | exact (fun _ hp => absurd hp List.not_mem_nil) | assumption) (by assumption) (by assumption) (by first | exact (fun _ hp => absurd hp List.not_mem_nil) | k_all) (by k_mem) (by first | exact (fun _ hp => absurd hp List.not_mem_nil) | k_all) ?_)
  k_with "my_end0" => (rename (∀ (b : Addr) (o : Obj), _ → ¬ _ → _) => hg9; refine end0 (by assumption) hg9 (by first | exact (fun _ hp => absurd hp List.not_mem_nil) | assumption) (by assumption) (by assumption) (by first | exact (fun _ hp => absurd hp List.not_mem_nil) | k_all) ?_)
  trivial
local macro_rules | `(tactic| k_room) => `(tactic| ((try simp only [depth_under_make, depth_under_kw, depth_in1, depth_deeper]); (try dsimp only [ktrTop]); omega))
local macro_rules | `(tactic| k_inst) => `(tactic| (refine' instAt_base ?F ?h1 ?h2; (case F => k_asm); (case h1 => with_reducible assumption); (case h2 => with_reducible assumption)))
-- a test that the path has decided
theorem gpr2 (w : World) (mean mg mb) (t u : Tok) : FSpec 4 w mean mg mb 444 [] [.int 2 t, .int 32 u] (fun _ => True) (RegP (Str.ofString "gpr")) := by
  unfold FSpec TopP
  k_fill
  intro dp un gd cn cs a ccd cl outer A₀ base h₀ L m s Q E B F X N T hk hP hdp hu hret
  refine wpAny_call ?_
  k_dflt (walk_at "my_enter")
  (repeat' (first | (k_unfold; (try dsimp only)) | (k_end; wrow_close) | ((try dsimp only); (first | (with_reducible show wpAny _ _ (exec _ _) _ _ _); (try k_fold); (try (with_reducible rename News _ _ _ _ => zN; dsimp only at zN)) | skip); walk1) | walk1 | (leave1; walk_say "STEP leave1"; try dsimp only) | fail "no step"))
  rename (∀ (b : Addr) (o : Obj), _ → ¬ _ → _) => hg9
  exact end2 (by assumption) hg9 (by assumption) (by assumption) (by k_mem) (by k_mem) RegP.mk
end

section
open PySem PySem.W PySem.Calls PySem.Spec PyProof.Rows
example : True := by
  w_top off
  k_with_none
  trivial
example : True := by
  k_with_none
  k_with "my_enter" => (refine' enterL ?k1 ?k2 ?k3 ?k4 ?k5 ?kA ?kF ?kK ?k6 ?k7 ?k8 ?k9 ?kB ?_ ?c2 ?c3 ?c4 ?c5; (case kA => exact rfl); (case kF => exact rfl); (case kK => assumption); (case k1 => k_asm); (case k2 => k_asm); (case k3 => k_asm); (case k4 => k_asm); (case k5 => k_asm); (case k6 => k_is); (case k7 => k_is); (case k8 => k_room); (case k9 => exact BindsTo.of_eq rfl); (case c5 => decide); (case kB => exact locs rfl); (case c2 => exact rfl); (case c3 => exact rfl); (case c4 => exact rfl); k_whole; intro g' L' h' hg' FG' F' N' B' X' T'; (try (refine anyTok ?_; intro tkz)); (try dsimp only); (let mz := frMap F'; have Fz : Fr _ _ _ mz := F'); (try k_lift B'); (try k_fold))
  k_with "my_use" => ((case k1 => k_asm); (case k2 => k_asm); (case k3 => k_asm); (case k4 => first | exact News.nil | k_asm); (case k5 => k_asm); (case kK => first | exact rfl | assumption); (case kp => first | trivial | assumption | exact IsetAt.keep (Fr.keep (by k_asm)) (by with_reducible assumption) | exact OpsAt.keep (Fr.keep (by k_asm)) (by with_reducible assumption)); (case kd => first | k_room | ktr_room); (case ku => ktr_units); (case k9 => k_asm))
  k_with "my_clr" => ((repeat (with_reducible rename Fr _ _ _ _ => z9; clear z9)); (repeat (with_reducible rename News _ _ _ _ => z9; clear z9)); (repeat (with_reducible rename Top _ _ _ _ _ _ => z9; clear z9)); (repeat (with_reducible rename Below _ _ _ _ => z9; clear z9)); (repeat (with_reducible rename Heap.StaysIn _ _ => z9; clear z9)); (repeat (with_reducible rename Frag.In _ _ => z9; clear z9)))
  k_with "my_next" => (refine' FPost.next ?_ ?F ?N ?hs; (case F => k_asm); (case N => k_asm); (case hs => lcg_sub))
  k_with "my_endH" => (rename (∀ (b : Addr) (o : Obj), _ → ¬ _ → _) => hg9; refine endH (by assumption) hg9 (by assumption) ?_)
  k_with "my_t3" => (refine ⟨_, rfl, IsT3.of_eq ?_ (IsT3.of_news (by assumption) (by k_mem))⟩)
  k_with "my_if" => ((repeat (with_reducible rename Fr _ _ _ _ => z9; clear z9)); (repeat (with_reducible rename News _ _ _ _ => z9; clear z9)); (repeat (with_reducible rename Top _ _ _ _ _ _ => z9; clear z9)); (repeat (with_reducible rename Below _ _ _ _ => z9; clear z9)); (repeat (with_reducible rename Heap.StaysIn _ _ => z9; clear z9)); (repeat (with_reducible first | (refine pos_eq (by assumption) ?_) | (refine neg_eqB (by assumption) ?_) | (refine neg_eq (by assumption) ?_))); try rfl)
  k_with "my_end1" => (rename (∀ (b : Addr) (o : Obj), _ → ¬ _ → _) => hg9; refine end1 (by assumption) hg9 (by first | exact (fun _ hp => absurd hp List.not_mem_nil) | assumption) (by assumption) (by assumption) (by first | exact (fun _ hp => absurd hp List.not_mem_nil) | k_all) (by k_mem) (by first | exact (fun _ hp => absurd hp List.not_mem_nil) | k_all) ?_)
  k_with "my_end0" => (rename (∀ (b : Addr) (o : Obj), _ → ¬ _ → _) => hg9; refine end0 (by assumption) hg9 (by first | exact (fun _ hp => absurd hp List.not_mem_nil) | assumption) (by assumption) (by assumption) (by first | exact (fun _ hp => absurd hp List.not_mem_nil) | k_all) ?_)
  trivial
local macro_rules | `(tactic| k_room) => `(tactic| ((try simp only [depth_under_make, depth_under_kw, depth_in1, depth_deeper]); (try dsimp only [ktrTop]); omega))
local macro_rules | `(tactic| k_inst) => `(tactic| (refine' instAt_base ?F ?h1 ?h2; (case F => k_asm); (case h1 => with_reducible assumption); (case h2 => with_reducible assumption)))
-- a test that the path has decided
theorem xmm1 (w : World) (mean mg mb) (t : Tok) : FSpec 4 w mean mg mb 451 [] [.int 1 t] (fun _ => True) (RegP (Str.ofString "xmm")) := by
  unfold FSpec TopP
  k_fill
  intro dp un gd cn cs a ccd cl outer A₀ base h₀ L m s Q E B F X N T hk hP hdp hu hret
  refine wpAny_call ?_
  k_dflt (walk_at "my_enter")
  (repeat' (first | (k_unfold; (try dsimp only)) | (k_end; wrow_close) | ((try dsimp only); (first | (with_reducible show wpAny _ _ (exec _ _) _ _ _); (try k_fold); (try (with_reducible rename News _ _ _ _ => zN; dsimp only at zN)) | skip); walk1) | walk1 | (leave1; walk_say "STEP leave1"; try dsimp only) | fail "no step"))
  rename (∀ (b : Addr) (o : Obj), _ → ¬ _ → _) => hg9
  exact end2 (by assumption) hg9 (by assumption) (by assumption) (by k_mem) (by k_mem) RegP.mk
end

section
open PySem PySem.W PySem.Calls PySem.Spec PyProof.Rows
example : True := by
  w_top off
  k_with_none
  trivial
example : True := by
  k_with_none
  k_with "my_enter" => (refine' enterL ?k1 ?k2 ?k3 ?k4 ?k5 ?kA ?kF ?kK ?k6 ?k7 ?k8 ?k9 ?kB ?_ ?c2 ?c3 ?c4 ?c5; (case kA => exact rfl); (case kF => exact rfl); (case kK => assumption); (case k1 => k_asm); (case k2 => k_asm); (case k3 => k_asm); (case k4 => k_asm); (case k5 => k_asm); (case k6 => k_is); (case k7 => k_is); (case k8 => k_room); (case k9 => exact BindsTo.of_eq rfl); (case c5 => decide); (case kB => exact locs rfl); (case c2 => exact rfl); (case c3 => exact rfl); (case c4 => exact rfl); k_whole; intro g' L' h' hg' FG' F' N' B' X' T'; (try (refine anyTok ?_; intro tkz)); (try dsimp only); (let mz := frMap F'; have Fz : Fr _ _ _ mz := F'); (try k_lift B'); (try k_fold))
  k_with "my_use" => ((case k1 => k_asm); (case k2 => k_asm); (case k3 => k_asm); (case k4 => first | exact News.nil | k_asm); (case k5 => k_asm); (case kK => first | exact rfl | assumption); (case kp => first | trivial | assumption | exact IsetAt.keep (Fr.keep (by k_asm)) (by with_reducible assumption) | exact OpsAt.keep (Fr.keep (by k_asm)) (by with_reducible assumption)); (case kd => first | k_room | ktr_room); (case ku => ktr_units); (case k9 => k_asm))
  k_with "my_clr" => ((repeat (with_reducible rename Fr _ _ _ _ => z9; clear z9)); (repeat (with_reducible rename News _ _ _ _ => z9; clear z9)); (repeat (with_reducible rename Top _ _ _ _ _ _ => z9; clear z9)); (repeat (with_reducible rename Below _ _ _ _ => z9; clear z9)); (repeat (with_reducible rename Heap.StaysIn _ _ => z9; clear z9)); (repeat (with_reducible rename Frag.In _ _ => z9; clear z9)))
  k_with "my_next" => (refine' FPost.next ?_ ?F ?N ?hs; (case F => k_asm); (case N => k_asm); (case hs => lcg_sub))
  k_with "my_endH" => (rename (∀ (b : Addr) (o : Obj), _ → ¬ _ → _) => hg9; refine endH (by assumption) hg9 (by assumption) ?_)
  k_with "my_t3" => (refine ⟨_, rfl, IsT3.of_eq ?_ (IsT3.of_news (by assumption) (by k_mem))⟩)
  k_with "my_if" => ((repeat (with_reducible rename Fr _ _ _ _ => z9; clear z9)); (repeat (with_reducible rename News _ _ _ _ => z9; clear z9)); (repeat (with_reducible rename Top _ _ _ _ _ _ => z9; clear z9)); (repeat (with_reducible rename Below _ _ _ _ => z9; clear z9)); (repeat (with_reducible rename Heap.StaysIn _ _ => z9; clear z9)); (repeat (with_reducible first | (refine pos_eq (by assumption) ?_) | (refine neg_eqB (by assumption) ?_) | (refine neg_eq (by assumption) ?_))); try rfl)
  k_with "my_end1" => (rename (∀ (b : Addr) (o : Obj), _ → ¬ _ → _) => hg9; refine end1 (by assumption) hg9 (by first | exact (fun _ hp => absurd hp List.not_mem_nil) | assumption) (by assumption) (by assumption) (by first | exact (fun _ hp => absurd hp List.not_mem_nil) | k_all) (by k_mem) (by first | exact (fun _ hp => absurd hp List.not_mem_nil) | k_all) ?_)
  k_with "my_end0" => (rename (∀ (b : Addr) (o : Obj), _ → ¬ _ → _) => hg9; refine end0 (by assumption) hg9 (by first | exact (fun _ hp => absurd hp List.not_mem_nil) | assumption) (by assumption) (by assumption) (by first | exact (fun _ hp => absurd hp List.not_mem_nil) | k_all) ?_)
  trivial
local macro_rules | `(tactic| k_room) => `(tactic| ((try simp only [depth_under_make, depth_under_kw, depth_in1, depth_deeper]); (try dsimp only [ktrTop]); omega))
local macro_rules | `(tactic| k_inst) => `(tactic| (refine' instAt_base ?F ?h1 ?h2; (case F => k_asm); (case h1 => with_reducible assumption); (case h2 => with_reducible assumption)))
-- a test that the path has decided
theorem pick0 (a b : Value) : slicePick #[a, b] none (some ((0 : Nat) : Int)) none = #[] := rfl
theorem pick1 (a b : Value) : slicePick #[a, b] none (some ((1 : Nat) : Int)) none = #[a] := rfl
theorem pick2 (a b : Value) : slicePick #[a, b] none (some ((2 : Nat) : Int)) none = #[a, b] := rfl
theorem ops_lt {h₀ h : Heap} {L l r q : Addr} {news : Led} {sort : Nat} (N : News h₀ L h news) (hlt : (sort : Int) < 3) (hm : (l, ({ cls := .type "list", data := .seq (slicePick #[.ref r, .ref q] none (some (sort : Int)) none) } : Obj)) ∈ news)
    (hr : RegIn h r (Str.ofString "gpr")) (hq : RegIn h q (Str.ofString "gpr")) : OpsAt h l (if sort < 3 then sort else 2) (sort == 3) := by
  have hm' := (N _ hm).1
  match sort, hlt with
  | 0, _ => exact .inl ⟨rfl, rfl, hm'⟩
  | 1, _ => exact .inr (.inl ⟨rfl, rfl, r, hm', hr⟩)
  | 2, _ => exact .inr (.inr (.inl ⟨rfl, rfl, r, q, hm', hr, hq⟩))
  | n + 3, h => exact absurd h (by omega)
theorem ops_ge {h₀ h : Heap} {L l r q : Addr} {news : Led} {sort : Nat} (N : News h₀ L h news) (hge : ¬ (sort : Int) < 3) (hs : sort ≤ 3) (hm : (l, W.listOf #[.ref r, .ref q] 0) ∈ news)
    (hr : RegIn h r (Str.ofString "xmm")) (hq : RegIn h q (Str.ofString "gpr")) : OpsAt h l (if sort < 3 then sort else 2) (sort == 3) := by
  have e : sort = 3 := by omega
  subst e
  exact .inr (.inr (.inr ⟨rfl, rfl, r, q, (N _ hm).1, hr, hq⟩))
theorem item_list0 {w : World} {A : Around} {E : Value → Shared → Prop} {s : Shared} {h₀ : Heap} {L l : Addr} {news : Led} {vs : List Value} {n : Nat} {v : Value} {u : Tok} {value slice : Expr} {Q : Value → Shared → Prop} (N : News h₀ L s.heap news) (hm : (l, W.listOf (v :: vs).toArray n) ∈ news) (h : Q v s)
    (hs : subscripted slice false (.ref l) (.int 0 u) = operate [.ref l, .int 0 u] (getItem (.ref l) (.int 0 u)) := by with_unfolding_all rfl) : wpAny (model PySem.Challenge.rw_nz0170_01.row.prog w) A (subscriptTail value slice (.ref l) (.int 0 u)) Q E s :=
  tail_any (list_baseN (N _ hm).1).typeIs slot_list_getitem.lookup (wpAny_getItem_list (list_baseN (N _ hm).1) (by decide) (by decide) (by simp) h) hs
end

section
open PySem PySem.W PySem.Calls PySem.Spec PyProof.Rows
example : True := by
  w_top off
  k_with_none
  trivial
local macro_rules | `(tactic| walk_at "call ref") => `(tactic| k_extra "z call ref")
local macro_rules | `(tactic| walk_at "subscriptTail Name Constant ref int") => `(tactic| k_extra "z subscriptTail Name Constant ref int")
local macro_rules | `(tactic| walk_at "subscriptTail Name Slice ref ref") => `(tactic| k_extra "z subscriptTail Name Slice ref ref")
example : True := by
  k_with_none
  k_with "my_enter" => (refine' enterL ?k1 ?k2 ?k3 ?k4 ?k5 ?kA ?kF ?kK ?k6 ?k7 ?k8 ?k9 ?kB ?_ ?c2 ?c3 ?c4 ?c5; (case kA => exact rfl); (case kF => exact rfl); (case kK => assumption); (case k1 => k_asm); (case k2 => k_asm); (case k3 => k_asm); (case k4 => k_asm); (case k5 => k_asm); (case k6 => k_is); (case k7 => k_is); (case k8 => k_room); (case k9 => exact BindsTo.of_eq rfl); (case c5 => decide); (case kB => exact locs rfl); (case c2 => exact rfl); (case c3 => exact rfl); (case c4 => exact rfl); k_whole; intro g' L' h' hg' FG' F' N' B' X' T'; (try (refine anyTok ?_; intro tkz)); (try dsimp only); (let mz := frMap F'; have Fz : Fr _ _ _ mz := F'); (try k_lift B'); (try k_fold))
  k_with "my_use" => ((case k1 => k_asm); (case k2 => k_asm); (case k3 => k_asm); (case k4 => first | exact News.nil | k_asm); (case k5 => k_asm); (case kK => first | exact rfl | assumption); (case kp => first | trivial | assumption | exact IsetAt.keep (Fr.keep (by k_asm)) (by with_reducible assumption) | exact OpsAt.keep (Fr.keep (by k_asm)) (by with_reducible assumption)); (case kd => first | k_room | ktr_room); (case ku => ktr_units); (case k9 => k_asm))
  k_with "my_clr" => ((repeat (with_reducible rename Fr _ _ _ _ => z9; clear z9)); (repeat (with_reducible rename News _ _ _ _ => z9; clear z9)); (repeat (with_reducible rename Top _ _ _ _ _ _ => z9; clear z9)); (repeat (with_reducible rename Below _ _ _ _ => z9; clear z9)); (repeat (with_reducible rename Heap.StaysIn _ _ => z9; clear z9)); (repeat (with_reducible rename Frag.In _ _ => z9; clear z9)))
  k_with "my_next" => (refine' FPost.next ?_ ?F ?N ?hs; (case F => k_asm); (case N => k_asm); (case hs => lcg_sub))
  k_with "my_endH" => (rename (∀ (b : Addr) (o : Obj), _ → ¬ _ → _) => hg9; refine endH (by assumption) hg9 (by assumption) ?_)
  k_with "my_t3" => (refine ⟨_, rfl, IsT3.of_eq ?_ (IsT3.of_news (by assumption) (by k_mem))⟩)
  k_with "my_if" => ((repeat (with_reducible rename Fr _ _ _ _ => z9; clear z9)); (repeat (with_reducible rename News _ _ _ _ => z9; clear z9)); (repeat (with_reducible rename Top _ _ _ _ _ _ => z9; clear z9)); (repeat (with_reducible rename Below _ _ _ _ => z9; clear z9)); (repeat (with_reducible rename Heap.StaysIn _ _ => z9; clear z9)); (repeat (with_reducible first | (refine pos_eq (by assumption) ?_) | (refine neg_eqB (by assumption) ?_) | (refine neg_eq (by assumption) ?_))); try rfl)
  k_with "my_end1" => (rename (∀ (b : Addr) (o : Obj), _ → ¬ _ → _) => hg9; refine end1 (by assumption) hg9 (by first | exact (fun _ hp => absurd hp List.not_mem_nil) | assumption) (by assumption) (by assumption) (by first | exact (fun _ hp => absurd hp List.not_mem_nil) | k_all) (by k_mem) (by first | exact (fun _ hp => absurd hp List.not_mem_nil) | k_all) ?_)
  k_with "my_end0" => (rename (∀ (b : Addr) (o : Obj), _ → ¬ _ → _) => hg9; refine end0 (by assumption) hg9 (by first | exact (fun _ hp => absurd hp List.not_mem_nil) | assumption) (by assumption) (by assumption) (by first | exact (fun _ hp => absurd hp List.not_mem_nil) | k_all) ?_)
  k_with "z call ref" => (k_here; (with_reducible show wpAny _ _ (call (Value.ref 444) [Value.int 1 _, Value.int 32 _]) _ _ _); k_dflt (refine' useReg (gpr1 _ _ _ _ _ _) ?k1 ?k2 ?k3 ?k4 ?k5 ?kK ?kp ?kd ?ku ?k9 ?_); (walk_at "my_use"); k_whole; intro ra9 dra9 od9 h9 tk9 hd9 st9 F9 N9; (try dsimp only); (try k_fold))
  k_with "z call ref" => (k_here; (with_reducible show wpAny _ _ (call (Value.ref 444) [Value.int 2 _, Value.int 32 _]) _ _ _); k_dflt (refine' useReg (gpr2 _ _ _ _ _ _) ?k1 ?k2 ?k3 ?k4 ?k5 ?kK ?kp ?kd ?ku ?k9 ?_); (walk_at "my_use"); k_whole; intro ra9 dra9 od9 h9 tk9 hd9 st9 F9 N9; (try dsimp only); (try k_fold))
  k_with "z call ref" => (k_here; (with_reducible show wpAny _ _ (call (Value.ref 451) [Value.int 1 _]) _ _ _); k_dflt (refine' useReg (xmm1 _ _ _ _ _) ?k1 ?k2 ?k3 ?k4 ?k5 ?kK ?kp ?kd ?ku ?k9 ?_); (walk_at "my_use"); k_whole; intro ra9 dra9 od9 h9 tk9 hd9 st9 F9 N9; (try dsimp only); (try k_fold))
  k_with "z subscriptTail Name Constant ref int" => (k_here; k_dflt (refine' item_list0 ?k1 ?k2 ?_; (case k1 => k_asm); (case k2 => k_mem)))
  k_with "z subscriptTail Name Slice ref ref" => (k_here; k_dflt (refine slice_list (by assumption) (by assumption) (by exact News.isList (by assumption) (by k_mem)) (by first | exact .none | exact .int _ _) (by first | exact .none | exact .int _ _) ?_; intro _ _ _))
  trivial
local macro_rules | `(tactic| k_room) => `(tactic| ((try simp only [depth_under_make, depth_under_kw, depth_in1, depth_deeper]); (try dsimp only [ktrTop]); omega))
local macro_rules | `(tactic| k_inst) => `(tactic| (refine' instAt_base ?F ?h1 ?h2; (case F => k_asm); (case h1 => with_reducible assumption); (case h2 => with_reducible assumption)))
-- a test that the path has decided
theorem law_operands (w : World) (mean mg mb) (sort : Nat) (t : Tok) (hs : sort ≤ 3) : FSpecH 6 w mean mg mb 506 [.int (sort : Int) t] (fun _ => True) (fun h v => ∃ l, v = .ref l ∧ OpsAt h l (if sort < 3 then sort else 2) (sort == 3)) := by
  unfold FSpecH TopP
  k_fill
  intro dp un gd cn cs a ccd cl outer A₀ base h₀ L m s Q E B F X N T hk hP hdp hu hret
  refine wpAny_call ?_
  k_dflt (walk_at "my_enter")
  (repeat' (first | (k_unfold; (try dsimp only)) | (k_end; wrow_close) | ((try dsimp only); (first | (with_reducible show wpAny _ _ (exec _ _) _ _ _); (try k_fold); (try (with_reducible rename News _ _ _ _ => zN; dsimp only at zN)) | skip); walk1) | walk1 | (leave1; walk_say "STEP leave1"; try dsimp only) | fail "no step"))
  all_goals (walk_at "my_endH")
  · exact ⟨_, rfl, ops_lt (by assumption) (by assumption) (by k_mem) (RegIn.of_news (by assumption) (by k_mem) (by k_mem) (by k_mem) (by k_mem) (by assumption)) (RegIn.of_news (by assumption) (by k_mem) (by k_mem) (by k_mem) (by k_mem) (by assumption))⟩
  · exact ⟨_, rfl, ops_ge (by assumption) (by first | assumption | omega) hs (by k_mem) (RegIn.of_news (by assumption) (by k_mem) (by k_mem) (by k_mem) (by k_mem) (by assumption)) (RegIn.of_news (by assumption) (by k_mem) (by k_mem) (by k_mem) (by k_mem) (by assumption))⟩
end

section
open PySem PySem.W PySem.Calls PySem.Spec PyProof.Rows PyProof.Rows.LCg
example : True := by
  w_top off
  k_with_none
  trivial
/-- the end of an element: what stood stays, own are new -/
def EEnd (s₁ : Shared) (R : Value → Led → Prop) (y : Value) (s₂ : Shared) : Prop := ∃ h' tk' own, s₂ = { s₁ with heap := h', toks := tk' } ∧ s₁.heap.StaysIn h' ∧ (∀ p ∈ own, h'.get? p.1 = some p.2 ∧ s₁.heap.get? p.1 = none) ∧ R y own
section
variable {prog : Program} {w : World} {A : Around} {E : Value → Shared → Prop} {s : Shared} {h₀ : Heap} {L : Addr} {m : Str → Option Value} {env : Env}
inductive EInv (s₂ : Shared) (vs : List Value) (e it ax D0 C0 : Addr) (h₀ : Heap) (L : Addr) (m : Str → Option Value) (news : Led) (Inv : Nat → List Value → Led → Prop) (k : Nat) (s' : Shared) : Prop
  | mk (h' : Heap) (tk i : Nat) (ys : List Value) (m' : Str → Option Value) (news' : Led) (eo : Value) : s' = { s₂ with heap := h', toks := tk } →
    i ≤ vs.length →
    k = vs.length + 1 - i →
    ys.length = i →
    IsEnum h' e it ((i : Nat) : Int) eo →
    h'.IsListIter it ax i →
    Fr h₀ L h' m →
    h'.Ns C0 m' →
    News h₀ L h' ((D0, lst ys) :: news') →
    (∀ p ∈ news', p.1 ≠ e ∧ p.1 ≠ it ∧ p.1 ≠ C0 ∧ p.1 ≠ D0) →
    (∀ p ∈ news, p ∈ news') →
    Inv i ys news' → EInv s₂ vs e it ax D0 C0 h₀ L m news Inv k s'
theorem block_E {elt iter : Expr} {xa xn xk xz : Str} {pa pn pk pz tp tp2 : Pos} {tk1 tk2} {scope : Scope} {cl : List (Str × Addr)} {pos : Pos} {s₂ : Shared} {e it ax : Addr} {vs : List Value} {rows : List FR} {nl : Nat} {news T : Led}
    {Inv : Nat → List Value → Led → Prop} {RR : Value → Addr → Result → Shared → Prop}
    (hsz : vs.length ≤ 1000) (hei : e ≠ it) (he : IsEnum s₂.heap e it 0 .none) (hit : s₂.heap.IsListIter it ax 0)
    (hcell : ∀ y ∈ scope.names, y.2 ≠ .cell) (hkind : scope.kind = .function) (hxa : scope.names.lookup xa = some .local) (hxn : scope.names.lookup xn = some .local) (hxk : scope.names.lookup xk = some .local) (hxz : scope.names.lookup xz = some .local)
    (nan : xa ≠ xn) (nak : xa ≠ xk) (naz : xa ≠ xz) (nnk : xn ≠ xk) (nnz : xn ≠ xz) (nkz : xk ≠ xz) (hh : A.handled = none)
    (F : Fr h₀ L s₂.heap m) (N : News h₀ L s₂.heap news) (hax : (ax, W.listOf vs.toArray nl) ∈ news) (hT : ∀ p ∈ T, p ∈ news) (hR : ∀ g, Held T g → RowsAt g vs rows)
    (eL : e ≠ L) (iL : it ≠ L) (e₀ : h₀.get? e = none) (i₀ : h₀.get? it = none) (eN : ∀ p ∈ news, p.1 ≠ e ∧ p.1 ≠ it) (hI0 : Inv 0 [] news)
    (turn : ∀ i q r kt t0 t1 t2 ks ys news' C oC D m₂ h tk E', vs[i]? = some (.ref q) → rows[i]? = some r → Inv i ys news' → (∀ p ∈ news, p ∈ news') → (kt, ({ cls := .type "tuple", data := .seq ks.toArray } : Obj)) ∈ T → StrsAre ks r.kinds → NsObj oC m₂ → m₂ xa = some (.int (i : Nat) t0) → m₂ xn = some (.str r.name t1) → m₂ xk = some (.ref kt) → m₂ xz = some (.int r.size t2) →
      Fr h₀ L h m → News h₀ L h ((C, oC) :: (D, lst ys) :: news') →
      wpAny (model prog w) A (eval elt (compEnvC scope cl C env)) (EEnd { s₂ with heap := h, toks := tk } (fun y own => Inv (i + 1) (ys ++ [y]) (own ++ news'))) E' { s₂ with heap := h, toks := tk })
    (hRR : ∀ D C h tk m' ys news', Fr h₀ L h m → News h₀ L h ((D, lst ys) :: news') → (∀ p ∈ news', p.1 ≠ D) → h.Ns C m' → h₀.get? C = none → h₀.get? D = none → C ≠ L → D ≠ L → C ≠ D → (∀ p ∈ news', p.1 ≠ C) → (∀ p ∈ news, p ∈ news') → Inv vs.length ys news' → RR (.ref D) C (.ok .next) { s₂ with heap := h, toks := tk }) :
    wpAny (model prog w) A (newList []) (fun acc s₃ => wpAny (model prog w) A (newFunctionEnv scope env.globals cl [] env.qual none .none (some env)) (fun cenv s₄ =>
      codeAny (model prog w) A (.compStart (.ListComp elt [⟨.Tuple [.Name xa pa, .Tuple [.Name xn pn, .Name xk pk, .Name xz pz] tk2 tp2] tk1 tp, iter, [], 0⟩] scope pos) 0 (.ref e) acc { cenv with scope := relabel scope env }) (RR acc cenv.locals) s₄) E s₃) E s₂ := by
  refine wpAny_newObj_type (wpAny_newFunctionEnv hcell (by intro y hy; simp at hy) (fun h₁ hns₁ hsb₁ => ?_) hkind)
  dsimp only at hns₁ hsb₁ ⊢
  obtain ⟨H2, hH⟩ : ∃ H2, H2 = s₂.heap.push { cls := .type "list", dict := none, data := .seq ([] : List Value).toArray } := ⟨_, rfl⟩
  obtain ⟨C0, hC0⟩ : ∃ C0, C0 = H2.objs.size := ⟨_, rfl⟩
  obtain ⟨D0, hD0⟩ : ∃ D0, D0 = s₂.heap.objs.size := ⟨_, rfl⟩
  revert hns₁ hsb₁
  rw [← hH, ← hC0, ← hD0]
  intro hns₁ hsb₁
  have hH2 := hH.symm
  have hC : C0 = D0 + 1 := by rw [hC0, hD0, hH, Heap.size_push]
  have hDC : D0 ≠ C0 := by rw [hC]; exact Nat.ne_of_lt (Nat.lt_succ_self _)
  have below : ∀ b, b < D0 → b ≠ C0 ∧ b ≠ D0 := fun b hb => ⟨by rw [hC]; exact Nat.ne_of_lt (Nat.lt_succ_of_lt hb), Nat.ne_of_lt hb⟩
  have old : ∀ b o, s₂.heap.get? b = some o → h₁.get? b = some o := fun b o e => hsb₁.extBut b o (below b (hD0 ▸ Heap.lt_size e)).1 (Heap.get?_push_of_some _ (by rw [hH]; exact Heap.get?_push_of_some _ e))
  have hacc : h₁.get? D0 = some (lst []) := hsb₁.extBut _ _ hDC (Heap.get?_push_of_some _ (by rw [hH, hD0]; exact Heap.get?_push_size _ rfl))
  have elt_ : e < D0 := hD0 ▸ Heap.lt_size he
  have ilt_ : it < D0 := by obtain ⟨o, x, _⟩ := hit; rw [hD0]; exact Heap.lt_size x
  have fresh : ∀ a, D0 ≤ a → s₂.heap.get? a = none := fun a ha => by
    rw [hD0] at ha
    cases e : s₂.heap.get? a with
    | none => rfl
    | some o' => exact absurd (Heap.lt_size e) (Nat.not_lt.mpr ha)
  have fresh₀ : ∀ a, D0 ≤ a → h₀.get? a = none := fun a ha => by
    cases e : h₀.get? a with
    | none => rfl
    | some o' => have := F.keep a o' e; rw [fresh a ha] at this; cases this
  have hD₀ : h₀.get? D0 = none := fresh₀ _ (Nat.le_refl _)
  have hC₀ : h₀.get? C0 = none := fresh₀ _ (by rw [hC]; exact Nat.le_succ _)
  have hLlt : L < D0 := hD0 ▸ F.ns.lt
  have hDL : D0 ≠ L := Ne.symm (below L hLlt).2
  have hCL : C0 ≠ L := Ne.symm (below L hLlt).1
  have hCe : e ≠ C0 := (below e elt_).1
  have hDe : e ≠ D0 := (below e elt_).2
  have hCi : it ≠ C0 := (below it ilt_).1
  have hDi : it ≠ D0 := (below it ilt_).2
  have off₀ : ∀ p ∈ news, p.1 ≠ e ∧ p.1 ≠ it ∧ p.1 ≠ C0 ∧ p.1 ≠ D0 := fun p hp => ⟨(eN p hp).1, (eN p hp).2, (below _ (hD0 ▸ Heap.lt_size (N p hp).1)).1, (below _ (hD0 ▸ Heap.lt_size (N p hp).1)).2⟩
  have loop : ∀ s₃ : Shared, s₃ = { s₂ with heap := h₁, toks := s₂.toks + ([] : List (Str × Value)).length } →
      codeAny (model prog w) A (.compLoop (.ListComp elt [⟨.Tuple [.Name xa pa, .Tuple [.Name xn pn, .Name xk pk, .Name xz pz] tk2 tp2] tk1 tp, iter, [], 0⟩] scope pos) 0 (.ref e) (.ref D0) (compEnvC scope cl C0 env))
        (RR (.ref D0) C0) s₃ := by
    rintro s₃ rfl
    refine LCp.codeAny_compLoop_pair
      (EInv s₂ vs e it ax D0 C0 h₀ L m news Inv) ?_ (vs.length + 1)
      ⟨h₁, _, 0, [], _, news, _, rfl, Nat.zero_le _, rfl, rfl, old _ _ he, hit.at fun o x => old _ _ x, F.keeps old, hns₁, fun p hp => ?_, off₀, fun _ h => h, hI0⟩
    · rintro k s' ⟨h', tk, i, ys, m', news', eo, rfl, hi, rfl, hyl, he', hit', F', hn', N', off', sub', I'⟩
      have hl' : h'.IsList ax vs.toArray := list_baseN (N' _ (.tail _ (sub' _ hax))).1
      by_cases hlt : i < vs.length
      · have hx : vs.toArray[i]? = some vs[i] := by simp [hlt]
        have hx' : vs[i]? = some vs[i] := List.getElem?_eq_getElem hlt
        refine wpAny_pyNext_enum_item he' hit' hl' hx hei fun h₂ heo hit₂ ht₂ hz₂ hk₂ => ?_
        refine wpAny_letOwnedTupleGo_enum heo fun h₃ he₃ hs₃ => ?_
        replace hs₃ : Heap.SameBut e h₂ h₃ := hs₃
        have helt : e < h'.objs.size := Heap.lt_size he'
        have keep3 : ∀ b o, b ≠ e → b ≠ it → h'.get? b = some o → h₃.get? b = some o := fun b o hb hb2 x => hs₃.extBut b o hb (hk₂ b o hb hb2 x)
        have ht₃ : IsTup h₃ h'.objs.size #[.int i tk, vs[i]] := ⟨_, (hs₃.2 _ (Nat.ne_of_gt helt)).trans ht₂, rfl, _, rfl⟩
        have N₃ : News h₀ L h₃ ((D0, lst ys) :: news') := fun p hp => by
          refine ⟨keep3 _ _ ?_ ?_ (N' p hp).1, (N' p hp).2⟩
          · rcases List.mem_cons.mp hp with rfl | hp
            · exact Ne.symm hDe
            · exact (off' p hp).1
          · rcases List.mem_cons.mp hp with rfl | hp
            · exact Ne.symm hDi
            · exact (off' p hp).2.1
        obtain ⟨q, r, e1, hr, kt, t1, t2, ks, hq, hkt, hks⟩ := (hR (heapOf h₃ T) (heapOf_held fun p hp => (N₃ p (.tail _ (sub' p (hT p hp)))).1)).at hx'
        have mq := hT _ (heapOf_mem (fun p hp => (N₃ p (.tail _ (sub' p (hT p hp)))).1) hq)
        have mk := heapOf_mem (fun p hp => (N₃ p (.tail _ (sub' p (hT p hp)))).1) hkt
        rw [e1] at ht₃ hx'
        refine assign_Tuple_tuple hh ht₃ rfl rfl fun h₅ hx₅ => ?_
        have k5 : ∀ b o, h₃.get? b = some o → h₅.get? b = some o := fun b o x => hx₅ b o (Nat.ne_of_lt (Heap.lt_size x)) x
        refine assignInOrder_cons (wpAny_assign_Name (wpAny_storeName_local (lookup_relabel_local hxa) (((hn'.at fun o x => hk₂ _ o (Ne.symm hCe) (Ne.symm hCi) x).sameBut hs₃ (Ne.symm hCe)).at fun o x => k5 _ o x) (fun h₆ hn₆ hs₆ => ?_) (by simp [compEnvC, relabel, hkind])))
        replace hs₆ : Heap.SameBut C0 h₅ h₆ := hs₆
        have k6 : ∀ b o, b ≠ C0 → h₃.get? b = some o → h₆.get? b = some o := fun b o hb x => hs₆.extBut b o hb (k5 b o x)
        have hq6 : h₆.get? q = some _ := k6 _ _ (off' _ (sub' _ mq)).2.2.1 (N₃ _ (.tail _ (sub' _ mq))).1
        have htq : IsTup h₆ q #[.str r.name t1, .ref kt, .int r.size t2] := ⟨_, hq6, rfl, _, rfl⟩
        refine assignInOrder_cons (assign_Tuple_tuple (elts := [.Name xn pn, .Name xk pk, .Name xz pz]) (x1 := tk2) (pos := tp2) hh htq rfl rfl fun h₇ hx₇ => ?_)
        have k7 : ∀ b o, h₆.get? b = some o → h₇.get? b = some o := fun b o x => hx₇ b o (Nat.ne_of_lt (Heap.lt_size x)) x
        refine assignInOrder_cons (wpAny_assign_Name (wpAny_storeName_local (lookup_relabel_local hxn) (hn₆.at fun o x => k7 _ o x) (fun h₈ hn₈ hs₈ => ?_) (by simp [compEnvC, relabel, hkind])))
        refine assignInOrder_cons (wpAny_assign_Name (wpAny_storeName_local (lookup_relabel_local hxk) hn₈ (fun h₉ hn₉ hs₉ => ?_) (by simp [compEnvC, relabel, hkind])))
        refine assignInOrder_cons (wpAny_assign_Name (wpAny_storeName_local (lookup_relabel_local hxz) hn₉ (fun hz hnz hsz' => ?_) (by simp [compEnvC, relabel, hkind])))
        refine assignInOrder_nil (assignInOrder_nil ?_)
        replace hs₈ : Heap.SameBut C0 h₇ h₈ := hs₈
        replace hs₉ : Heap.SameBut C0 h₈ h₉ := hs₉
        replace hsz' : Heap.SameBut C0 h₉ hz := hsz'
        have kz : ∀ b o, b ≠ C0 → h₃.get? b = some o → hz.get? b = some o := fun b o hb x => hsz'.extBut b o hb (hs₉.extBut b o hb (hs₈.extBut b o hb (k7 b o (k6 b o hb x))))
        obtain ⟨oC, heC, hoC⟩ := ns_obj hnz
        have Fz : Fr h₀ L hz m := by
          have F₃ : Fr h₀ L h₃ m := ⟨(F'.ns.at fun o x => hk₂ _ o (Ne.symm eL) (Ne.symm iL) x).sameBut hs₃ (Ne.symm eL), fun b o x => keep3 b o (fun q => by rw [q, e₀] at x; cases x) (fun q => by rw [q, i₀] at x; cases x) (F'.keep b o x), F'.above⟩
          have F₅ := F₃.keeps k5
          have F₆ := F₅.change hs₆ hCL hC₀
          have F₇ := F₆.keeps k7
          exact ((F₇.change hs₈ hCL hC₀).change hs₉ hCL hC₀).change hsz' hCL hC₀
        have Nz : News h₀ L hz ((C0, oC) :: (D0, lst ys) :: news') := fun p hp => by
          rcases List.mem_cons.mp hp with rfl | hp
          · exact ⟨heC, hCL, hC₀⟩
          · refine ⟨kz _ _ ?_ (N₃ p hp).1, (N₃ p hp).2⟩
            rcases List.mem_cons.mp hp with rfl | hp
            · exact hDC
            · exact (off' p hp).2.2.1
        have hez := kz _ _ hCe he₃
        have hiz : hz.IsListIter it ax (i + 1) := (hit₂.at fun o x => (hs₃.2 it hei.symm).trans x).at fun o x => kz _ o hCi x
        refine wpAny_mono (turn i q r kt tk t1 t2 ks ys news' C0 oC D0 _ hz _ _ hx' hr I' sub' mk hks hoC (by simp [nan, nak, naz]) (by simp [nnk, nnz]) (by simp [nkz]) (by simp) Fz Nz) (fun y s₄ h₄ => ?_) fun _ _ x => x
        obtain ⟨h4, tk4, own, rfl, st4, ho4, I4⟩ := h₄
        have D4 : h4.get? D0 = some (lst ys) := st4 _ _ (Nz _ (.tail _ (.head _))).1
        have C4 : h4.get? C0 = some oC := st4 _ _ heC
        have own_ne : ∀ p ∈ own, ∀ b o, hz.get? b = some o → p.1 ≠ b := fun p hp b o x q => by rw [← q, (ho4 p hp).2] at x; cases x
        refine append_at (hsz := by show ys.toArray.size ≤ sizeLine; rw [List.size_toArray, hyl, sizeLine_eq]; omega) D4 fun h5 hs5 hD5 => ?_
        replace hs5 : Heap.SameBut D0 h4 h5 := hs5
        have F4 : Fr h₀ L h4 m := fr_stays Fz st4
        obtain ⟨iz, hizo, hizr⟩ := id hiz
        refine ⟨vs.length + 1 - (i + 1), by omega, h5, tk4, i + 1, ys ++ [y], _, own ++ news', _, rfl, hlt, rfl, by rw [List.length_append, List.length_singleton, hyl], hs5.extBut _ _ hDe (st4 _ _ hez), ?_, F4.change hs5 hDL hD₀,
          (hoC.ns C4).sameBut hs5 (Ne.symm hDC), fun p hp => ?_, fun p hp => ?_, fun p hp => List.mem_append_right _ (sub' p hp), I4⟩
        · exact ⟨iz, hs5.extBut _ _ hDi (st4 _ _ hizo), hizr⟩
        · rcases List.mem_cons.mp hp with rfl | hp
          · exact ⟨hD5.trans (congrArg some (lst_snoc ys y)), hDL, hD₀⟩
          · rcases List.mem_append.mp hp with hp | hp
            · have nD := own_ne p hp _ _ (Nz _ (.tail _ (.head _))).1
              obtain ⟨oL, _, _, hoL, _⟩ := Fz.ns
              refine ⟨hs5.extBut _ _ nD (ho4 p hp).1, own_ne p hp _ _ hoL, ?_⟩
              cases x : h₀.get? p.1 with
              | none => rfl
              | some o => exact absurd rfl (own_ne p hp _ _ (Fz.keep _ _ x))
            · exact ⟨hs5.extBut _ _ (off' p hp).2.2.2 (st4 _ _ (Nz _ (.tail _ (.tail _ hp))).1), (Nz _ (.tail _ (.tail _ hp))).2⟩
        · rcases List.mem_append.mp hp with hp | hp
          · exact ⟨own_ne p hp _ _ hez, own_ne p hp _ _ hizo, own_ne p hp _ _ heC, own_ne p hp _ _ (Nz _ (.tail _ (.head _))).1⟩
          · exact off' p hp
      · obtain rfl : i = vs.length := Nat.le_antisymm hi (Nat.not_lt.mp hlt)
        refine wpAny_pyNext_enum_end hh he' hit' hl' (by simp) fun h₂ hk₂ => ?_
        have up : ∀ b o, b ≠ it → h'.get? b = some o → h₂.get? b = some o := fun b o hb x => hk₂ b o hb x
        have F₂ : Fr h₀ L h₂ m := ⟨F'.ns.at fun o x => up _ o (Ne.symm iL) x, fun b o x => up b o (fun q => by rw [q, i₀] at x; cases x) (F'.keep b o x), F'.above⟩
        refine hRR _ _ h₂ _ _ ys news' F₂ (fun p hp => ⟨up _ _ ?_ (N' p hp).1, (N' p hp).2⟩) (fun p hp => (off' p hp).2.2.2) (hn'.at fun o x => up _ o (Ne.symm hCi) x) hC₀ hD₀ hCL hDL (Ne.symm hDC) (fun p hp => (off' p hp).2.2.1) sub' I'
        rcases List.mem_cons.mp hp with rfl | hp
        · exact Ne.symm hDi
        · exact (off' p hp).2.1
    · rcases List.mem_cons.mp hp with rfl | hp
      · exact ⟨hacc, hDL, hD₀⟩
      · exact ⟨old _ _ (N p hp).1, (N p hp).2⟩
  exact codeAny_compStart_list (loop _ rfl) (wpAny_pyIter_enum (old _ _ he) (loop _ rfl))
/-- the source: an enumerate of rows of the ledger -/
def SrcE (prog : Program) (w : World) (A : Around) (h₀ : Heap) (L : Addr) (m : Str → Option Value) (env : Env) (elt : Expr) (xa xn xk xz : Str) (scope : Scope) (cl : List (Str × Addr)) (Q : Value → Shared → Prop) (xv : Value) (s₁ : Shared) : Prop :=
  ∃ (e it ax : Addr) (vs : List Value) (rows : List FR) (nl : Nat) (news T : Led) (Inv : Nat → List Value → Led → Prop), xv = .ref e ∧ A.handled = none ∧ vs.length ≤ 1000 ∧ e ≠ it ∧ IsEnum s₁.heap e it 0 .none ∧ s₁.heap.IsListIter it ax 0 ∧ Fr h₀ L s₁.heap m ∧ News h₀ L s₁.heap news ∧ (ax, W.listOf vs.toArray nl) ∈ news ∧ (∀ p ∈ T, p ∈ news) ∧ (∀ g, Held T g → RowsAt g vs rows) ∧
    e ≠ L ∧ it ≠ L ∧ h₀.get? e = none ∧ h₀.get? it = none ∧ (∀ p ∈ news, p.1 ≠ e ∧ p.1 ≠ it) ∧ Inv 0 [] news ∧
    (∀ g i q r kt t0 t1 t2 ks ys news' C oC D m₂ h tk E', vs[i]? = some (.ref q) → rows[i]? = some r → Inv i ys news' → (∀ p ∈ news, p ∈ news') → (kt, ({ cls := .type "tuple", data := .seq ks.toArray } : Obj)) ∈ T → StrsAre ks r.kinds → NsObj oC m₂ → m₂ xa = some (.int (i : Nat) t0) → m₂ xn = some (.str r.name t1) → m₂ xk = some (.ref kt) → m₂ xz = some (.int r.size t2) →
      Fr h₀ L h m → News h₀ L h ((C, oC) :: (D, lst ys) :: news') →
      wpAny (model prog w) A (eval elt (compEnvC scope cl C env)) (EEnd { { s₁ with heap := g } with heap := h, toks := tk } (fun y own => Inv (i + 1) (ys ++ [y]) (own ++ news'))) E' { { s₁ with heap := g } with heap := h, toks := tk }) ∧
    (∀ D ys news' h tk, Fr h₀ L h m → News h₀ L h ((D, lst ys) :: news') → (∀ p ∈ news', p.1 ≠ D) → (∀ p ∈ news, p ∈ news') → Inv vs.length ys news' → Q (.ref D) { s₁ with heap := h, toks := tk })
theorem ListComp_E {elt iter : Expr} {xa xn xk xz : Str} {pa pn pk pz tp tp2 : Pos} {tk1 tk2} {scope : Scope} {cl : List (Str × Addr)} {pos : Pos} {Q : Value → Shared → Prop} (_F₀ : Fr h₀ L s.heap m)
    (hclos : closureFor scope env = pure cl) (hcell : ∀ y ∈ scope.names, y.2 ≠ .cell) (hkind : scope.kind = .function)
    (hnames : ∀ y ∈ scope.names, y.2 = .local → scope.names.lookup y.1 = some .local) (hxa : scope.names.lookup xa = some .local) (hxn : scope.names.lookup xn = some .local) (hxk : scope.names.lookup xk = some .local) (hxz : scope.names.lookup xz = some .local)
    (nan : xa ≠ xn) (nak : xa ≠ xk) (naz : xa ≠ xz) (nnk : xn ≠ xk) (nnz : xn ≠ xz) (nkz : xk ≠ xz)
    (h : wpAny (model prog w) A (eval iter env) (SrcE prog w A h₀ L m env elt xa xn xk xz scope cl Q) E s)
    (hs : ∀ x, foldedSetIterable iter env x = pure x := by intro _; rfl) :
    wpAny (model prog w) A (eval (.ListComp elt [⟨.Tuple [.Name xa pa, .Tuple [.Name xn pn, .Name xk pk, .Name xz pz] tk2 tp2] tk1 tp, iter, [], 0⟩] scope pos) env) Q E s := by
  rw [eval_ListComp]
  refine wpAny_comprehension_free (use := none) rfl hs hclos hkind hnames (wpAny_mono h (fun xv s₁ h₁ => ?_) fun _ _ e => e)
  obtain ⟨e, it, ax, vs, rows, nl, news, T, Inv, rfl, hh, hz, hei, he, hit, F, N, hax, hT, hR, eL, iL, e₀, i₀, eN, hI0, turn, fin⟩ := h₁
  refine wpAny_pyIter_enum he ?_
  refine block_E hz hei he hit hcell hkind hxa hxn hxk hxz nan nak naz nnk nnz nkz hh F N hax hT hR eL iL e₀ i₀ eN hI0 (turn s₁.heap) ?_
  intro D C h tk m' ys news' F' N' o1 hn hC₀ hD₀ hCL hDL hCD offC sub I'
  refine ⟨m', hn, fun h'' hs'' => fin D ys news' h'' tk (F'.change hs'' hCL hC₀) (fun p hp => ?_) o1 sub I'⟩
  refine ⟨hs''.extBut _ _ ?_ (N' p hp).1, (N' p hp).2⟩
  rcases List.mem_cons.mp hp with rfl | hp
  · exact Ne.symm hCD
  · exact offC p hp
theorem srcE_call {elt : Expr} {xa xn xk xz : Str} {scope : Scope} {cl : List (Str × Addr)} {Q : Value → Shared → Prop} {ax : Addr} {vs : List Value} {rows : List FR} {nl : Nat} {news T : Led} (Inv : Nat → List Value → Led → Prop)
    (hh : A.handled = none) (hz : vs.length ≤ 1000) (F : Fr h₀ L s.heap m) (N : News h₀ L s.heap news) (hax : (ax, W.listOf vs.toArray nl) ∈ news) (hT : ∀ p ∈ T, p ∈ news) (hR : ∀ g, Held T g → RowsAt g vs rows) (hI0 : Inv 0 [] news)
    (turn : ∀ i q r kt t0 t1 t2 ks ys news' C oC D m₂ h tk E', vs[i]? = some (.ref q) → rows[i]? = some r → Inv i ys news' → (∀ p ∈ news, p ∈ news') → (kt, ({ cls := .type "tuple", data := .seq ks.toArray } : Obj)) ∈ T → StrsAre ks r.kinds → NsObj oC m₂ → m₂ xa = some (.int (i : Nat) t0) → m₂ xn = some (.str r.name t1) → m₂ xk = some (.ref kt) → m₂ xz = some (.int r.size t2) →
      Fr h₀ L h m → News h₀ L h ((C, oC) :: (D, lst ys) :: news') →
      wpAny (model prog w) A (eval elt (compEnvC scope cl C env)) (EEnd { s with heap := h, toks := tk } (fun y own => Inv (i + 1) (ys ++ [y]) (own ++ news'))) E' { s with heap := h, toks := tk })
    (fin : ∀ D ys news' h tk, Fr h₀ L h m → News h₀ L h ((D, lst ys) :: news') → (∀ p ∈ news', p.1 ≠ D) → (∀ p ∈ news, p ∈ news') → Inv vs.length ys news' → Q (.ref D) { s with heap := h, toks := tk }) :
    wpAny (model prog w) A (call (.type "enumerate") [.ref ax]) (SrcE prog w A h₀ L m env elt xa xn xk xz scope cl Q) E s := by
  refine call_enumerate_list (list_baseN (N _ hax).1) fun h' he hit hsz hk => ?_
  have hLs : L < s.heap.objs.size := F.ns.lt
  have fresh₀ : ∀ a, s.heap.objs.size ≤ a → h₀.get? a = none := fun a ha => by
    cases e : h₀.get? a with
    | none => rfl
    | some o' => exact absurd (Heap.lt_size (F.keep a o' e)) (Nat.not_lt.mpr ha)
  refine ⟨_, _, ax, vs, rows, nl, news, T, Inv, rfl, hh, hz, Nat.succ_ne_self _, he, hit, F.keeps hk, N.grown hk, hax, hT, hR, Nat.ne_of_gt (Nat.lt_succ_of_lt hLs), Nat.ne_of_gt hLs, fresh₀ _ (Nat.le_succ _), fresh₀ _ (Nat.le_refl _), fun p hp => ?_, hI0, fun _ => turn, fin⟩
  have hq1 : p.1 < s.heap.objs.size := Heap.lt_size (N p hp).1
  exact ⟨Nat.ne_of_lt (Nat.lt_succ_of_lt hq1), Nat.ne_of_lt hq1⟩
end
end

section
open PySem PySem.W PySem.Calls PySem.Spec PyProof.Rows PyProof.Rows.LCg
example : True := by
  w_top off
  k_with_none
  trivial
abbrev tupK (ks : List Value) : Obj := { cls := .type "tuple", data := .seq ks.toArray }
/-- a Form by the members of a ledger -/
inductive FormM (news : Led) (v : Value) (r : FR) (op : Int) : Prop
  | mk (f fd pl kt : Addr) (q9 : FV) (u8 : Tok) (ks ps : List Value) (n : Nat) : v = .ref f →
    (f, instObj 248 fd) ∈ news →
    (fd, formD r kt op (-1) pl q9 u8) ∈ news →
    (pl, ({ cls := .type "tuple", data := .seq ps.toArray n } : Obj)) ∈ news →
    NoPlus ps →
    (kt, tupK ks) ∈ news →
    StrsAre ks r.kinds → FormM news v r op
theorem FormM.mono {a b : Led} {v : Value} {r : FR} {op : Int} (x : FormM a v r op) (h : ∀ p ∈ a, p ∈ b) : FormM b v r op := by
  obtain ⟨f, fd, pl, kt, q9, u8, ks, ps, n, e, p, q, r', s, t, u⟩ := x
  exact ⟨f, fd, pl, kt, q9, u8, ks, ps, n, e, h _ p, h _ q, h _ r', s, h _ t, u⟩
def boundL : Led → Nat
  | [] => 0
  | p :: r => p.1 + 1 + boundL r
theorem lt_boundL {p : Addr × Obj} {l : Led} (h : p ∈ l) : @LT.lt Nat _ p.1 (boundL l) := by
  induction l with
  | nil => cases h
  | cons q r ih =>
    have e : boundL (q :: r) = (q.1 : Nat) + 1 + boundL r := rfl
    rw [e]
    rcases List.mem_cons.mp h with h | h
    · rw [h]; exact Nat.lt_of_lt_of_le (Nat.lt_succ_self _) (Nat.le_add_right _ _)
    · exact Nat.lt_of_lt_of_le (ih h) (Nat.le_add_left _ _)
theorem FormM.formV {news : Led} {v : Value} {r : FR} {op : Int} (x : FormM news v r op) {g : Heap} (hg : Held news g) : FormV g v r op (-1) (boundL news) := by
  obtain ⟨f, fd, pl, kt, q9, u8, ks, ps, n, e, p, q, r', s, t, u⟩ := x
  exact ⟨f, fd, pl, kt, e, q9, u8, ks, ps, n, ⟨lt_boundL p, lt_boundL q, lt_boundL r', lt_boundL t⟩, hg _ p, hg _ q, hg _ r', s, hg _ t, u⟩
/-- the Forms made so far -/
def InvF (news T : Led) (rows : List FR) (i : Nat) (ys : List Value) (news' : Led) : Prop := ys.length = i ∧ ∃ o1, news' = o1 ++ news ∧ (∀ p ∈ o1, ∀ q ∈ news, p.1 ≠ q.1) ∧ ∀ j r, j < i → rows[j]? = some r → ∃ v, ys[j]? = some v ∧ FormM (o1 ++ T) v r (16 + (j : Int))
theorem InvF.zero {news T : Led} {rows : List FR} : InvF news T rows 0 [] news := ⟨rfl, [], rfl, fun _ h => absurd h List.not_mem_nil, fun _ _ h => absurd h (Nat.not_lt_zero _)⟩
theorem InvF.step {news T news' own : Led} {rows : List FR} {i : Nat} {ys : List Value} {r : FR} {kt : Addr} {ks : List Value} {v : Value} (I : InvF news T rows i ys news') (hr : rows[i]? = some r) (hk : (kt, tupK ks) ∈ T) (hks : StrsAre ks r.kinds)
    (hoff : ∀ p ∈ own, ∀ q ∈ news', p.1 ≠ q.1) (f : FormR r kt (16 + (i : Int)) v own) : InvF news T rows (i + 1) (ys ++ [v]) (own ++ news') := by
  obtain ⟨hl, o1, rfl, ho, hf⟩ := I
  refine ⟨by rw [List.length_append, List.length_singleton, hl], own ++ o1, (List.append_assoc _ _ _).symm, fun p hp => ?_, fun j r' hj hr' => ?_⟩
  · rcases List.mem_append.mp hp with h | h
    · exact fun q hq => hoff p h q (List.mem_append_right _ hq)
    · exact ho p h
  · by_cases e : j = i
    · subst e
      rw [hr] at hr'; cases hr'
      refine ⟨v, by rw [List.getElem?_append_right (by omega)]; simp [hl], ?_⟩
      obtain ⟨f, fd, pl, q9, u8, ps, n, rfl, rfl, np⟩ := f
      have mo : ∀ p, p ∈ [(f, instObj 248 fd), (fd, formD r kt (16 + (j : Int)) (-1) pl q9 u8), (pl, ({ cls := .type "tuple", data := .seq ps.toArray n } : Obj))] → p ∈ ([(f, instObj 248 fd), (fd, formD r kt (16 + (j : Int)) (-1) pl q9 u8), (pl, ({ cls := .type "tuple", data := .seq ps.toArray n } : Obj))] ++ o1) ++ T := fun p hp => List.mem_append_left _ (List.mem_append_left _ hp)
      exact ⟨f, fd, pl, kt, q9, u8, ks, ps, n, rfl, mo _ (.head _), mo _ (.tail _ (.head _)), mo _ (.tail _ (.tail _ (.head _))), np, List.mem_append_right _ hk, hks⟩
    · obtain ⟨v', a, b⟩ := hf j r' (by omega) hr'
      refine ⟨v', by rw [List.getElem?_append_left (by omega)]; exact a, b.mono fun p hp => ?_⟩
      rw [List.append_assoc]
      exact List.mem_append_right _ hp
theorem InvF.forms {T o1 : Led} {rows : List FR} {n : Nat} {ys : List Value} (hl : ys.length = n) (hf : ∀ j r, j < n → rows[j]? = some r → ∃ v, ys[j]? = some v ∧ FormM (o1 ++ T) v r (16 + (j : Int))) (hn : n = rows.length) {led : Led} (hs : ∀ p ∈ o1 ++ T, p ∈ led) (g : Heap) (hg : Held led g) : FormsV g ys rows (boundL led) := by
  subst hn
  refine ⟨hl, fun j r e => ?_⟩
  obtain ⟨v, a, b⟩ := hf j r (List.getElem?_eq_some_iff.mp e).1 e
  exact ⟨v, -1, a, (b.mono hs).formV hg⟩
/-- rows that the Forms take -/
def rowsOK (rows : List FR) : Prop := ∀ r ∈ rows, r.kinds.length ≤ 2 ∧ ∀ x ∈ r.kinds, (1 ≤ x.length ∧ x.length ≤ 100) ∧ (Txt.slice x none (some 1) == Str.ofString "o") = false
theorem rows16_ok : rowsOK rows16 := by unfold rowsOK; decide +kernel
theorem isD_list (x : Array Value) (n : Nat) : isD (W.listOf x n) = false := by simp [isD, W.listOf]
theorem offD {D : Addr} {o : Obj} {o1 T keep : Led} (hD : ∀ p ∈ o1 ++ (keep ++ T), p.1 ≠ D) (h1 : ∀ p ∈ o1, ∀ q ∈ keep ++ T, p.1 ≠ q.1) (h2 : ∀ p ∈ T, ∀ q ∈ keep, p.1 ≠ q.1) : ∀ p ∈ (D, o) :: (o1 ++ T), ∀ q ∈ keep, p.1 ≠ q.1 := fun p hp q hq => by
  rcases List.mem_cons.mp hp with rfl | hp
  · exact Ne.symm (hD q (List.mem_append_right _ (List.mem_append_left _ hq)))
  · rcases List.mem_append.mp hp with hp | hp
    · exact h1 p hp q (List.mem_append_left _ hq)
    · exact h2 p hp q hq
theorem newsSwap {g h : Heap} {L : Addr} {x : Addr × Obj} {o1 T keep : Led} (N : News g L h (x :: (o1 ++ (keep ++ T)))) : News g L h (x :: (keep ++ (o1 ++ T))) := fun p hp => N p (by
  simp only [List.mem_cons, List.mem_append] at hp ⊢
  rcases hp with h | h | h | h <;> simp [h])
theorem newsKeep {g h : Heap} {L : Addr} {x : Addr × Obj} {T keep : Led} (N : News g L h (x :: (keep ++ T))) : News g L h keep := fun p hp => N p (.tail _ (List.mem_append_left _ hp))
theorem rows16_len : rows16.length ≤ 16 := by decide
theorem newsLed {g h : Heap} {L : Addr} {x : Addr × Obj} {o1 T keep : Led} (N : News g L h (x :: (keep ++ (o1 ++ T)))) : News g L h (x :: (o1 ++ T)) := fun p hp => N p (by
  simp only [List.mem_cons, List.mem_append] at hp ⊢
  rcases hp with h | h | h <;> simp [h])
/-- what is told of a heap stands in one that keeps all but the dicts -/
theorem RowAt.keepD {h h' : Heap} {q : Addr} {r : FR} (k : ∀ b o, h.get? b = some o → isD o = false → h'.get? b = some o) (x : RowAt h q r) : RowAt h' q r := by
  obtain ⟨kt, t1, t2, ks, a, b, c⟩ := x
  exact ⟨kt, t1, t2, ks, k _ _ a (by simp [isD]), k _ _ b (by simp [isD]), c⟩
theorem RowsAt.keepD {h h' : Heap} {vs : List Value} {rs : List FR} (k : ∀ b o, h.get? b = some o → isD o = false → h'.get? b = some o) (x : RowsAt h vs rs) : RowsAt h' vs rs := by
  induction x with
  | nil => exact .nil
  | cons a b ih => exact .cons (a.keepD k) ih
theorem RowsAt.sub {T own : Led} {vs : List Value} {rs : List FR} (h : ∀ g, Held T g → RowsAt g vs rs) {h1 : Heap} (hT : Held T h1) (hs : ∀ p ∈ T, isD p.2 = false → p ∈ own) (g : Heap) (hg : Held own g) : RowsAt g vs rs :=
  (h _ (heapOf_held hT)).keepD fun _ _ e d => hg _ (hs _ (heapOf_mem hT e) d)
section
variable {mean : ExcName → Option Value} {mg mb : Str → Option Value} {w : World} {f : Addr} {led : Led} {vs : List Value} {P : Heap → Prop} {k : Nat}
    {dp un : Nat} {gd : Option (List Code)} {cn : Str} {cs : Scope} {a : Addr} {ccd : Value} {cl : List (Str × Addr)} {outer : List Env} {A₀ : Around} {base h₀ : Heap} {L : Addr} {m : Str → Option Value} {s : Shared} {Q E : Value → Shared → Prop} {news : Led}
/-- a call told by its objects -/
theorem useG {R : Value → Led → Prop} (S : FSpec k w mean mg mb f [] vs P R)
    (B : Below A₀ base outer h₀) (F : Fr h₀ L s.heap m) (X : (top.hd.heap_39 w.params).In h₀) (N : News h₀ L s.heap []) (T : TopP mean mg mb h₀) (hk : cs.kind = .function) (hp : P s.heap) (hdp : dp + k < recursionLimit) (hu : un + 20 * k < cLine) (N' : News h₀ L s.heap news)
    (ret : ∀ v own h' tk', R v own → s.heap.StaysIn h' → Fr h₀ L h' m → News h₀ L h' (news ++ own) → (∀ p ∈ own, ∀ q ∈ news, p.1 ≠ q.1) → Q v { s with heap := h', toks := tk' }) :
    wpAny (model PySem.Challenge.rw_nz0170_01.row.prog w) (ktrTop dp un gd cn cs L a ccd cl outer) (call (.ref f) vs) Q E s :=
  S _ _ _ _ _ _ _ _ _ _ _ _ _ _ _ _ _ B F X N T hk hp hdp hu fun v own h' tk' st ho r => ret v own h' tk' r st (fr_stays F st) (fun p hp => news_stays F N' st ho p (List.mem_append.mpr (List.mem_append.mp hp).symm)) fun p hp q hq e => by
    have := (ho p hp).2; rw [e, (N' q hq).1] at this; cases this
/-- the element of the Forms' list -/
theorem form_end {r : FR} {kt : Addr} {op : Int} {h : Heap} {tk tk0 : Nat} {R : Value → Led → Prop} (S : FSpec k w mean mg mb 248 [] vs P (FormR r kt op))
    (B : Below A₀ base outer h₀) (F : Fr h₀ L h m) (X : (top.hd.heap_39 w.params).In h₀) (T : TopP mean mg mb h₀) (hk : cs.kind = .function) (hp : P h) (hdp : dp + k < recursionLimit) (hu : un + 20 * k < cLine) (N' : News h₀ L h news)
    (ret : ∀ v own, FormR r kt op v own → (∀ p ∈ own, ∀ q ∈ news, p.1 ≠ q.1) → R v own) :
    wpAny (model PySem.Challenge.rw_nz0170_01.row.prog w) (ktrTop dp un gd cn cs L a ccd cl outer) (call (.ref 248) vs) (EEnd { s with heap := h, toks := tk0 } R) E { s with heap := h, toks := tk } :=
  S _ _ _ _ _ _ _ _ _ _ _ _ _ _ { s with heap := h, toks := tk } _ _ B F X News.nil T hk hp hdp hu fun v own h' tk' st ho r => ⟨h', tk', own, rfl, st, ho, ret v own r fun p hp q hq e => by
    have := (ho p hp).2
    rw [e] at this
    have z : h.get? q.1 = none := this
    rw [(N' q hq).1] at z; cases z⟩
/-- the call that makes the instruction set -/
theorem useIset {D : Addr} {rows : List FR} {keep : Led} (S : FSpecL k w mean mg mb 113 led [.ref D] (IsetR w led rows))
    (B : Below A₀ base outer h₀) (F : Fr h₀ L s.heap m) (X : (top.hd.heap_39 w.params).In h₀) (N : News h₀ L s.heap led) (T : TopP mean mg mb h₀) (hk : cs.kind = .function) (hdp : dp + k < recursionLimit) (hu : un + 20 * k < cLine) (N' : News h₀ L s.heap keep)
    (hoff : ∀ p ∈ led, ∀ q ∈ keep, p.1 ≠ q.1)
    (ret : ∀ ia fv own h' tk', Fr h₀ L h' m → News h₀ L h' (keep ++ own) → (∀ g, Held own g → IsetAt w g ia rows fv) → (∀ p ∈ led, isD p.2 = false → p ∈ own) → (∀ p ∈ own, ∀ q ∈ keep, p.1 ≠ q.1) → Q (.ref ia) { s with heap := h', toks := tk' }) :
    wpAny (model PySem.Challenge.rw_nz0170_01.row.prog w) (ktrTop dp un gd cn cs L a ccd cl outer) (call (.ref 113) [.ref D]) Q E s :=
  S _ _ _ _ _ _ _ _ _ _ _ _ _ _ _ _ _ B F X N T hk hdp hu fun v own h' tk' st ho hR => by
    obtain ⟨ia, fv, rfl, hI, hD⟩ := hR
    have nm : ∀ b o, h₀.get? b = some o → b ∉ led.map (·.1) := fun b o e hm => by
      obtain ⟨p, hp, rfl⟩ := List.mem_map.mp hm
      rw [(N p hp).2.2] at e; cases e
    have nL : L ∉ led.map (·.1) := fun hm => by
      obtain ⟨p, hp, e⟩ := List.mem_map.mp hm
      exact (N p hp).2.1 e
    have hne : ∀ p ∈ own, ∀ b o, s.heap.get? b = some o → b ∉ led.map (·.1) → p.1 ≠ b := fun p hp b o e hb q => by
      rcases (ho p hp).2 with h | h
      · rw [q, e] at h; cases h
      · exact hb (q ▸ h)
    obtain ⟨oL, es, ep, hoL, _⟩ := id F.ns
    have nk : ∀ q ∈ keep, q.1 ∉ led.map (·.1) := fun q hq hm => by
      obtain ⟨p, hp, e⟩ := List.mem_map.mp hm
      exact hoff p hp q hq e
    refine ret ia fv own h' tk' ⟨F.ns.at fun o e => st _ o e nL, fun b o e => st b o (F.keep b o e) (nm b o e), F.above⟩ (fun p hp => ?_) hI hD fun p hp q hq => hne p hp _ _ (N' q hq).1 (nk q hq)
    rcases List.mem_append.mp hp with hp | hp
    · exact ⟨st _ _ (N' p hp).1 (nk p hp), (N' p hp).2⟩
    · refine ⟨(ho p hp).1, hne p hp _ _ hoL nL, ?_⟩
      cases x : h₀.get? p.1 with
      | none => rfl
      | some o => exact absurd rfl (hne p hp _ _ (F.keep _ _ x) (nm _ _ x))
end
end

section
open PySem PySem.W PySem.Calls PySem.Spec PyProof.Rows
example : True := by
  w_top off
  k_with_none
  trivial
def opsN (n : Nat) : Nat := if n < 3 then n else 2
def menuW (i j : Nat) : Str := stemsL.getD i Str.empty ++ sufsL.getD j Str.empty
/-- what the words of the menu share -/
def wordOK (x : Str) : Bool := decide (x.length ≤ 90) && decide (wideF x = lwideF x) && decide (nameF x = (lk x alone_d).getD (Str.ofString ""))
def headOK (x : Str) (n : Nat) : Bool := (c1F x (opsN n) == d1F x n) && (c2F x (opsN n) (n == 3) == d2F x n) && (c3F x (opsN n) == d3F x n)
def canOK (x : Str) : Bool := decide (canonF x = plainF x) && (decide (sizeF (Txt.slice x (some (-1)) none) = 0) || decide (canonF (Txt.slice x none (some (-1))) = plainF (Txt.slice x none (some (-1))))) && decide (0 ≤ sizeF (Txt.slice x (some (-1)) none))
def menuOK (i j : Nat) : Bool := wordOK (menuW i j) && canOK (menuW i j) && (List.range 4).all fun n => headOK (menuW i j) n
theorem menu_all : ((List.range 16).all fun i => (List.range 7).all fun j => menuOK i j) = true := by decide +kernel
def writOK (e : Str × Nat × (Str × Int × Int)) : Bool := wordOK e.1 && decide (e.2.1 ≤ 3) && decide (toldF rows16 e.1 (opsN e.2.1) (e.2.1 == 3) = e.2.2) && decide (dueF rows16 e.1 e.2.1 = e.2.2)
theorem writ_all : written40.all writOK = true := by decide +kernel
theorem menu_one {i j : Nat} (hi : i < 16) (hj : j < 7) : menuOK i j = true := List.all_eq_true.mp (List.all_eq_true.mp menu_all i (List.mem_range.mpr hi)) j (List.mem_range.mpr hj)
theorem writ_one {e : Str × Nat × (Str × Int × Int)} (h : e ∈ written40) : writOK e = true := List.all_eq_true.mp writ_all e h
/-- the two tests of a row's kinds are one -/
theorem kind_eq : (rows16.all fun r => r.kinds.all fun k => (Txt.slice k none (some 1) == Str.ofString "x") == (Txt.item k 0 == Str.ofString "x")) = true := by decide +kernel
theorem tst_fit {r : FR} (h : r ∈ rows16) (sz : Int) : tstF sz r = fitD sz r := by
  have e := List.all_eq_true.mp kind_eq r h
  unfold tstF fitD
  congr 3
  have : ∀ ks : List Str, (ks.all fun k => (Txt.slice k none (some 1) == Str.ofString "x") == (Txt.item k 0 == Str.ofString "x")) = true → (ks.any fun k => Txt.slice k none (some 1) == Str.ofString "x") = ks.any fun k => Txt.item k 0 == Str.ofString "x" := by
    intro ks
    induction ks with
    | nil => intro _; rfl
    | cons k r ih =>
      intro hk
      rw [List.all_cons, Bool.and_eq_true] at hk
      rw [List.any_cons, List.any_cons, ih hk.2, eq_of_beq hk.1]
  exact this _ e
theorem any_fit {S : List FR} (hS : ∀ r ∈ S, r ∈ rows16) (y : Str) (sz : Int) : (S.filter fun r => r.name == y).any (tstF sz) = (S.filter fun r => r.name == y).any (fitD sz) := by
  have : ∀ l : List FR, (∀ r ∈ l, r ∈ rows16) → l.any (tstF sz) = l.any (fitD sz) := by
    intro l
    induction l with
    | nil => intro _; rfl
    | cons r l ih =>
      intro h
      rw [List.any_cons, List.any_cons, tst_fit (h r (.head _)), ih fun r hr => h r (.tail _ hr)]
  exact this _ fun r hr => hS r (List.mem_filter.mp hr).1
theorem tail_eq {S : List FR} (hS : ∀ r ∈ S, r ∈ rows16) (y : Str) (sz : Int) (n : Nat) (h0 : 0 ≤ sz) :
    (if 0 < sz then if takesF S y sz (opsN n) = true then (y, sz, 0) else (Str.ofString "", 0, 0) else (Str.ofString "", 0, 0)) = tailD S y sz n := by
  have hn : (((opsN n : Nat) : Int) = 0) ↔ ((n : Int) = 0) := by unfold opsN; split <;> omega
  unfold tailD takesF
  by_cases hz : sz = 0
  · subst hz
    simp [retD]
  · rw [if_pos (by omega : 0 < sz)]
    by_cases h1 : (y == Str.ofString "ret") = true
    · rw [if_pos h1, if_pos h1]
      unfold retF retD
      by_cases h64 : sz = 64
      · subst h64
        cases hh : ([Str.ofString "ret", Str.ofString "leave"].any fun z => z == y) <;> cases h2 : hasF S y <;> simp_all
      · simp [h64]
    · rw [if_neg h1, if_neg h1]
      by_cases h2 : (n : Int) = 0
      · rw [if_pos (hn.mpr h2), if_pos h2]
        unfold retF retD
        by_cases h64 : sz = 64
        · subst h64
          cases hh : ([Str.ofString "ret", Str.ofString "leave"].any fun z => z == y) <;> cases h2 : hasF S y <;> simp_all
        · simp [h64]
      · rw [if_neg (fun q => h2 (hn.mp q)), if_neg h2, if_neg hz, any_fit hS]
        by_cases h3 : ([Str.ofString "movzx", Str.ofString "movsx", Str.ofString "movsxd"].any fun z => z == y) = true
        · rw [if_pos (show (widenedL.any fun z => z == y) = true from h3), if_pos h3]; simp
        · rw [if_neg (show ¬ (widenedL.any fun z => z == y) = true from h3), if_neg h3]
/-- told_word's answer is the law's, over any of the rows -/
theorem told_due {S : List FR} (hS : ∀ r ∈ S, r ∈ rows16) {x : Str} {n : Nat} (hw : wordOK x = true) (hc : canOK x = true) (hh : headOK x n = true) : toldF S x (opsN n) (n == 3) = dueF S x n := by
  unfold wordOK at hw
  unfold canOK at hc
  unfold headOK at hh
  simp only [Bool.and_eq_true, decide_eq_true_eq, Bool.or_eq_true, beq_iff_eq] at hw hc hh
  obtain ⟨⟨_, w1⟩, w2⟩ := hw
  obtain ⟨⟨c1, c2⟩, c3⟩ := hc
  obtain ⟨⟨h1, h2⟩, h3⟩ := hh
  unfold toldF dueF
  rw [h1, h2, h3, w1, w2, c1]
  have e := tail_eq hS (canonF (Txt.slice x none (some (-1)))) (sizeF (Txt.slice x (some (-1)) none)) n c3
  rw [e]
  rcases c2 with z | z
  · rw [z]
    have t0 : ∀ y, tailD S y 0 n = (Str.ofString "", 0, 0) := fun y => by simp [tailD, retD]
    rw [t0, t0]
    rfl
  · rw [z]
    rfl
end

section
open PySem PySem.W PySem.Calls PySem.Spec PyProof.Rows PyProof.Rows.LCg
example : True := by
  w_top off
  k_with_none
  trivial
/-- the end of a turn that only makes things -/
def WEnd (h₀ : Heap) (L : Addr) (m : Str → Option Value) (I : Addr) (oI : Obj) (news : Led) (s₁ : Shared) (f : Flow) (s₂ : Shared) : Prop :=
  match f with
  | .next => ∃ h' tk', s₂ = { s₁ with heap := h', toks := tk' } ∧ Fr h₀ L h' m ∧ News h₀ L h' ((I, oI) :: news)
  | _ => False
theorem map3 {xa xb xc : Str} {a b c a' b' c' : Option Value} {m : Str → Option Value} : (fun y => if y = xc then c else if y = xb then b else if y = xa then a else (fun y => if y = xc then c' else if y = xb then b' else if y = xa then a' else m y) y) = fun y => if y = xc then c else if y = xb then b else if y = xa then a else m y := by
  funext y
  by_cases h1 : y = xc
  · simp [h1]
  by_cases h2 : y = xb
  · simp [h2]
  by_cases h3 : y = xa
  · simp [h3]
  simp [h1, h2, h3]
section
variable {prog : Program} {w : World} {A : Around} {E : Value → Shared → Prop} {s : Shared} {h₀ : Heap} {m : Str → Option Value} {env : Env}
theorem iter_W {R : Result → Shared → Prop} {xa xb xc : Str} {pa pb pc pt : Pos} {tk1} {body : List Stmt} {ax : Addr} {vs : List Value} {rs : List (Str × Nat × (Str × Int × Int))} {nl : Nat} {news T : Led}
    (hh : A.handled = none) (hxa : env.kindOf xa = some .local) (hxb : env.kindOf xb = some .local) (hxc : env.kindOf xc = some .local)
    (hp : (env.scope.kind == .class || (env.scope.kind == .module && env.locals != env.globals)) = false)
    (F : Fr h₀ env.locals s.heap m) (N : News h₀ env.locals s.heap news) (hax : (ax, W.listOf vs.toArray nl) ∈ news) (hT : ∀ p ∈ T, p ∈ news) (hW : ∀ g, Held T g → WrsAt g vs rs)
    (turn : ∀ x (n : Nat) r t1 t2 d I oI h tk E', (x, n, r) ∈ rs → (∀ g, Held T g → IsT3 g d r) → (∀ p ∈ news, p.1 < I) → oI.cls = .type "list_iterator" →
      Fr h₀ env.locals h (fun y => if y = xc then some (.ref d) else if y = xb then some (.int (n : Int) t2) else if y = xa then some (.str x t1) else m y) → News h₀ env.locals h ((I, oI) :: news) →
      wpAny (model prog w) A (execs body env) (WEnd h₀ env.locals (fun y => if y = xc then some (.ref d) else if y = xb then some (.int (n : Int) t2) else if y = xa then some (.str x t1) else m y) I oI news { s with heap := h, toks := tk }) E' { s with heap := h, toks := tk })
    (hR : ∀ h tk, (∃ u v z, Fr h₀ env.locals h (fun y => if y = xc then u else if y = xb then v else if y = xa then z else m y)) → News h₀ env.locals h news → R (.ok .next) { s with heap := h, toks := tk }) :
    wpAny (model prog w) A (pyIter (.ref ax)) (fun it s₂ => codeAny (model prog w) A (.forLoop (.Tuple [.Name xa pa, .Name xb pb, .Name xc pc] tk1 pt) it body [] env) R s₂) E s := by
  have hl : s.heap.IsList ax vs.toArray := list_baseN (N _ hax).1
  refine wpAny_pyIter_list hl ?_
  generalize hI : s.heap.objs.size = I
  generalize hG : s.heap.push { cls := .type "list_iterator", data := .fields #[.ref ax, .int 0 0] } = G
  have up : ∀ b o, s.heap.get? b = some o → G.get? b = some o := fun b o e => hG ▸ Heap.get?_push_of_some _ e
  have hIn : ∀ b o, s.heap.get? b = some o → b ≠ I := fun b o e => hI ▸ Nat.ne_of_lt (Heap.lt_size e)
  have hit0 : G.IsListIter I ax 0 := ⟨_, by rw [← hG, ← hI]; exact Heap.get?_push_size _ rfl, rfl, rfl⟩
  have hLI : env.locals ≠ I := hI ▸ Nat.ne_of_lt F.ns.lt
  have hI₀ : h₀.get? I = none := by
    cases e : h₀.get? I with
    | none => rfl
    | some o => exact absurd rfl (hIn _ _ (F.keep _ _ e))
  have offI : ∀ p ∈ news, p.1 ≠ I := fun p hp => hIn _ _ (N p hp).1
  have hsl : ∀ p ∈ news, p.1 < I := fun p hp => hI ▸ Heap.lt_size (N p hp).1
  refine codeAny_forLoop_any
    (fun k s' => ∃ h' tk i u v z, s' = { s with heap := h', toks := tk } ∧ i ≤ vs.length ∧ k = vs.length + 1 - i ∧ h'.IsListIter I ax i ∧ Fr h₀ env.locals h' (fun y => if y = xc then u else if y = xb then v else if y = xa then z else m y) ∧ News h₀ env.locals h' news) ?_ (vs.length + 1)
    ⟨G, s.toks, 0, m xc, m xb, m xa, rfl, Nat.zero_le _, rfl, hit0, ?_, N.grown up⟩
  · rintro k s' ⟨h', tk, i, u, v, z, rfl, hi, rfl, hit, F', N'⟩
    have hl' : h'.IsList ax vs.toArray := list_baseN (N' _ hax).1
    by_cases hlt : i < vs.length
    · refine wpAny_pyNext_list_item hit hl' (x := vs[i]) (by simp [hlt]) fun h₁ hit₁ hs₁ => ?_
      replace hs₁ : Heap.SameBut I h' h₁ := hs₁
      have hx' : vs[i]? = some vs[i] := List.getElem?_eq_getElem hlt
      have F₁ : Fr h₀ env.locals h₁ _ := F'.change hs₁ (Ne.symm hLI) hI₀
      have N₁ : News h₀ env.locals h₁ news := fun p hp => ⟨hs₁.extBut _ _ (offI p hp) (N' p hp).1, (N' p hp).2⟩
      have hTg : Held T h₁ := fun p hp => (N₁ p (hT p hp)).1
      obtain ⟨q, r, e1, hr, d, t1, t2, hq, hd⟩ := (hW _ (heapOf_held hTg)).at hx'
      have mq := heapOf_mem hTg hq
      have hd' : ∀ g, Held T g → IsT3 g d r.2.2 := fun g hg => by
        obtain ⟨a1, a2, a3, e⟩ := hd
        exact ⟨a1, a2, a3, hg _ (heapOf_mem hTg e)⟩
      have htq : IsTup h₁ q #[.str r.1 t1, .int (r.2.1 : Int) t2, .ref d] := ⟨_, hTg _ mq, rfl, _, rfl⟩
      rw [e1]
      refine wpAny_letOwnedTupleGo_listiter (s := { s with heap := h₁, toks := tk }) hit₁ ?_
      refine assign_Tuple_tuple hh htq rfl rfl fun h₂ hx₂ => ?_
      have k2 : ∀ b o, h₁.get? b = some o → h₂.get? b = some o := fun b o x => hx₂ b o (Nat.ne_of_lt (Heap.lt_size x)) x
      have F₂ := F₁.keeps k2
      refine assignInOrder_cons (wpAny_assign_Name (wpAny_storeName_local hxa F₂.ns (fun h₃ hn₃ hs₃ => ?_) hp))
      refine assignInOrder_cons (wpAny_assign_Name (wpAny_storeName_local hxb hn₃ (fun h₄ hn₄ hs₄ => ?_) hp))
      refine assignInOrder_cons (wpAny_assign_Name (wpAny_storeName_local hxc hn₄ (fun h₅ hn₅ hs₅ => ?_) hp))
      refine assignInOrder_nil ?_
      replace hs₃ : Heap.SameBut env.locals h₂ h₃ := hs₃
      replace hs₄ : Heap.SameBut env.locals h₃ h₄ := hs₄
      replace hs₅ : Heap.SameBut env.locals h₄ h₅ := hs₅
      have k5 : ∀ b o, b ≠ env.locals → h₁.get? b = some o → h₅.get? b = some o := fun b o hb x => hs₅.extBut b o hb (hs₄.extBut b o hb (hs₃.extBut b o hb (k2 b o x)))
      have L₀ : h₀.get? env.locals = none := by
        cases e : h₀.get? env.locals with
        | none => rfl
        | some o => exact absurd (Heap.lt_size e) (Nat.not_lt.mpr F.above)
      have F₅ : Fr h₀ env.locals h₅ (fun y => if y = xc then some (.ref d) else if y = xb then some (.int (r.2.1 : Int) t2) else if y = xa then some (.str r.1 t1) else m y) := by
        have := map3 (xa := xa) (xb := xb) (xc := xc) (a := some (.str r.1 t1)) (b := some (.int (r.2.1 : Int) t2)) (c := some (.ref d)) (a' := z) (b' := v) (c' := u) (m := m)
        rw [← this]
        exact ⟨hn₅, fun b o e => k5 b o (fun q => by rw [q, L₀] at e; cases e) (F₁.keep b o e), F.above⟩
      obtain ⟨oI, hoI, hrI⟩ := id hit₁
      have nL : ∀ p ∈ news, p.1 ≠ env.locals := fun p hp => (N₁ p hp).2.1
      have N₅ : News h₀ env.locals h₅ ((I, oI) :: news) := fun p hp => by
        rcases List.mem_cons.mp hp with rfl | hp
        · exact ⟨k5 _ _ (Ne.symm hLI) hoI, Ne.symm hLI, hI₀⟩
        · exact ⟨k5 _ _ (nL p hp) (N₁ p hp).1, (N₁ p hp).2⟩
      refine wpAny_mono (turn r.1 r.2.1 r.2.2 t1 t2 d I oI h₅ _ _ (List.mem_of_getElem? hr) hd' hsl hrI.1 F₅ N₅) (fun f s₂ hf => ?_) fun _ _ x => x
      cases f with
      | next =>
        obtain ⟨h6, tk6, rfl, F6, N6⟩ := hf
        exact ⟨vs.length + 1 - (i + 1), by omega, h6, tk6, i + 1, _, _, _, rfl, hlt, rfl, ⟨oI, (N6 _ (.head _)).1, hrI⟩, F6, fun p hp => N6 p (.tail _ hp)⟩
      | ret _ => exact absurd hf id
      | brk => exact absurd hf id
      | cont => exact absurd hf id
    · obtain rfl : i = vs.length := Nat.le_antisymm hi (Nat.not_lt.mp hlt)
      refine wpAny_pyNext_list_end hh hit hl' (by simp) fun h₁ hk => wpAny_execs_nil ?_
      have up1 : ∀ b o, b ≠ I → h'.get? b = some o → h₁.get? b = some o := fun b o hb x => hk b o hb x
      exact hR h₁ _ ⟨u, v, z, F'.ns.at fun o x => up1 _ o hLI x, fun b o e => up1 b o (fun q => by rw [q, hI₀] at e; cases e) (F'.keep b o e), F'.above⟩ fun p hp => ⟨up1 _ _ (offI p hp) (N' p hp).1, (N' p hp).2⟩
  · have e : (fun y => if y = xc then m xc else if y = xb then m xb else if y = xa then m xa else m y) = m := by
      funext y
      by_cases h1 : y = xc
      · rw [if_pos h1, h1]
      rw [if_neg h1]
      by_cases h2 : y = xb
      · rw [if_pos h2, h2]
      rw [if_neg h2]
      by_cases h3 : y = xa
      · rw [if_pos h3, h3]
      rw [if_neg h3]
    rw [e]
    exact F.keeps up
end
end

section
open PySem PySem.W PySem.Calls PySem.Spec PyProof.Rows
example : True := by
  w_top off
  k_with_none
  trivial
section
variable {mean : ExcName → Option Value} {mg mb : Str → Option Value} {w : World} {f : Addr} {led : Led} {vs : List Value} {P : Heap → Prop} {k : Nat}
    {dp un : Nat} {gd : Option (List Code)} {cn : Str} {cs : Scope} {a : Addr} {ccd : Value} {cl : List (Str × Addr)} {outer : List Env} {A₀ : Around} {base h₀ : Heap} {L : Addr} {m : Str → Option Value} {s : Shared} {Q E : Value → Shared → Prop} {news : Led}
theorem useTH {r r' : Str × Int × Int} (hr : r = r') (S : FSpec k w mean mg mb f [] vs P (T3 r))
    (B : Below A₀ base outer h₀) (F : Fr h₀ L s.heap m) (X : (top.hd.heap_39 w.params).In h₀) (N : News h₀ L s.heap []) (T : TopP mean mg mb h₀) (hk : cs.kind = .function) (hp : P s.heap) (hdp : dp + k < recursionLimit) (hu : un + 20 * k < cLine) (N' : News h₀ L s.heap news)
    (ret : ∀ q h' tk', IsT3 h' q r' → s.heap.StaysIn h' → Fr h₀ L h' m → News h₀ L h' news → Q (.ref q) { s with heap := h', toks := tk' }) :
    wpAny (model PySem.Challenge.rw_nz0170_01.row.prog w) (ktrTop dp un gd cn cs L a ccd cl outer) (call (.ref f) vs) Q E s :=
  S _ _ _ _ _ _ _ _ _ _ _ _ _ _ _ _ _ B F X N T hk hp hdp hu fun v own h' tk' st ho rr => by
    obtain ⟨q, t1, t2, t3, rfl, rfl⟩ := rr
    exact ret q h' tk' ⟨t1, t2, t3, hr ▸ (ho _ (.head _)).1⟩ st (fr_stays F st) fun p hp => news_stays F N' st ho p (List.mem_append_right _ hp)
theorem useDH {D : List (Str × Str)} (S : FSpec k w mean mg mb f [] vs P (fun v own => ∃ d o, v = .ref d ∧ own = [(d, o)] ∧ TabS w d o D))
    (B : Below A₀ base outer h₀) (F : Fr h₀ L s.heap m) (X : (top.hd.heap_39 w.params).In h₀) (N : News h₀ L s.heap []) (T : TopP mean mg mb h₀) (hk : cs.kind = .function) (hp : P s.heap) (hdp : dp + k < recursionLimit) (hu : un + 20 * k < cLine) (N' : News h₀ L s.heap news)
    (ret : ∀ d h' tk', StrTab PySem.Challenge.rw_nz0170_01.row.prog w h' d (encS D) → s.heap.StaysIn h' → Fr h₀ L h' m → News h₀ L h' news → Q (.ref d) { s with heap := h', toks := tk' }) :
    wpAny (model PySem.Challenge.rw_nz0170_01.row.prog w) (ktrTop dp un gd cn cs L a ccd cl outer) (call (.ref f) vs) Q E s :=
  S _ _ _ _ _ _ _ _ _ _ _ _ _ _ _ _ _ B F X N T hk hp hdp hu fun v own h' tk' st ho rr => by
    obtain ⟨d, o, rfl, rfl, lo, kvs, hd, hf⟩ := rr
    exact ret d h' tk' ⟨lo, kvs, Heap.dictOf_iff.mpr ⟨o, (ho _ (.head _)).1, hd⟩, hf⟩ st (fr_stays F st) fun p hp => news_stays F N' st ho p (List.mem_append_right _ hp)
end
section
variable {w : World} {A : Around} {E : Value → Shared → Prop} {s : Shared} {g h : Heap} {L : Addr}
theorem ne_same {prog : Program} {p q : Addr} {r : Str × Int × Int} {Q : Value → Shared → Prop} (x : IsT3 s.heap p r) (y : IsT3 s.heap q r) (hu : A.units < cLine) (h : Q (.bool false) s) : wpAny (model prog w) A (compareOp .NotEq (.ref p) (.ref q)) Q E s :=
  ne_t3 x y hu (by rw [decide_eq_true rfl]; exact h)
theorem ne_strS {prog : Program} {x : Str} {t u : Tok} {Q : Value → Shared → Prop} (h : Q (.bool false) s) : wpAny (model prog w) A (compareOp .NotEq (.str x t) (.str x u)) Q E s := by
  refine PyProof.Rows.ne_str ?_
  rw [bne_self_eq_false]; exact h
theorem get_alone {x : Str} {t t0 : Tok} {d : Addr} {D : List (Str × Str)} {y : Str} {Q : Value → Shared → Prop} (T : StrTab PySem.Challenge.rw_nz0170_01.row.prog w s.heap d (encS D)) (hy : y = (lk x D).getD (Str.ofString ""))
    (h : ∀ t', Q (.str y t') { s with toks := s.toks + 1 }) : wpAny (model PySem.Challenge.rw_nz0170_01.row.prog w) A (call (.builtin "dict.get") [.ref d, .str x t, .str (Str.ofString "") t0]) Q E s := by
  refine call_get2_strTab (dd := .str (Str.ofString "")) T (PyProof.V.Flat.str _ _) fun v hv => ?_
  rw [lookup_lk] at hv
  have : ((lk x D).map PyData.str).getD (PyData.str (Str.ofString "")) = PyData.str y := by
    subst hy
    cases lk x D <;> rfl
  rw [this] at hv
  obtain ⟨t', rfl⟩ := hv.str_inv
  exact h t'
theorem held3 {a b c : Addr × Obj} {T2 T3 : Led} (N : News g L h (a :: b :: c :: (T2 ++ T3))) : Held T2 h ∧ Held T3 h :=
  ⟨fun p hp => (N p (.tail _ (.tail _ (.tail _ (List.mem_append_left _ hp))))).1, fun p hp => (N p (.tail _ (.tail _ (.tail _ (List.mem_append_right _ hp))))).1⟩
theorem held4 {a b c e : Addr × Obj} {T2 T3 : Led} (N : News g L h (a :: b :: c :: e :: (T2 ++ T3))) : Held T2 h ∧ Held T3 h :=
  ⟨fun p hp => (N p (.tail _ (.tail _ (.tail _ (.tail _ (List.mem_append_left _ hp)))))).1, fun p hp => (N p (.tail _ (.tail _ (.tail _ (.tail _ (List.mem_append_right _ hp)))))).1⟩
end
theorem offApp {a b c : Addr × Obj} {T2 T3 : Led} (h2 : ∀ p ∈ T2, ∀ q ∈ [a, b, c], p.1 ≠ q.1) (h3 : ∀ p ∈ T3, ∀ q ∈ a :: b :: c :: T2, p.1 ≠ q.1) : ∀ p ∈ T2 ++ T3, ∀ q ∈ [a, b, c], p.1 ≠ q.1 := fun p hp q hq => by
  rcases List.mem_append.mp hp with h | h
  · exact h2 p h q hq
  · refine h3 p h q ?_
    simp only [List.mem_cons, List.not_mem_nil, or_false] at hq ⊢
    rcases hq with e | e | e <;> simp [e]
theorem rows16_k : ∀ r ∈ rows16, r.kinds.length ≤ 2 ∧ ∀ k ∈ r.kinds, k.length ≤ 100 := fun r hr => ⟨(rows16_ok r hr).1, fun k hk => ((rows16_ok r hr).2 k hk).1.2⟩
theorem rows16_d : ∀ r ∈ rows16, r.kinds.length ≤ 2 ∧ ∀ k ∈ r.kinds, 1 ≤ k.length ∧ k.length ≤ 100 := fun r hr => ⟨(rows16_ok r hr).1, fun k hk => ((rows16_ok r hr).2 k hk).1⟩
end

section
open PySem PySem.W PySem.Calls PySem.Spec PyProof.Rows PyProof.Rows.LCg PyProof.Rows.LCt
example : True := by
  w_top off
  k_with_none
  trivial
/-- the hand after so many draws -/
abbrev handE (hl sl : Addr) (i : Nat) (t : Tok) : Addr × Obj := (hl, W.listOf #[.ref sl, .int (i : Int) t] 0)
section
variable {mean : ExcName → Option Value} {mg mb : Str → Option Value} {w : World} {f : Addr} {vs : List Value} {k : Nat}
    {dp un : Nat} {gd : Option (List Code)} {cn : Str} {cs : Scope} {a : Addr} {ccd : Value} {cl : List (Str × Addr)} {outer : List Env} {A₀ : Around} {base h₀ : Heap} {L : Addr} {m : Str → Option Value} {s : Shared} {Q E : Value → Shared → Prop}
theorem useDrN {hl sl : Addr} {xs : List Value} {d i : Nat} {S : Value → Prop} {t0 : Tok} {pre rest : Led} (C : DSpec k w mean mg mb f hl sl xs vs d S)
    (B : Below A₀ base outer h₀) (F : Fr h₀ L s.heap m) (X : (top.hd.heap_39 w.params).In h₀) (T : TopP mean mg mb h₀) (hk : cs.kind = .function)
    (hxi : IntsL xs) (hxl : xs.length ≤ 40) (hat : i + d ≤ 1000) (hdp : dp + k < recursionLimit) (hu : un + 20 * k < cLine) (N : News h₀ L s.heap (pre ++ handE hl sl i t0 :: (sl, W.listOf xs.toArray 0) :: rest)) (hn : ∀ p ∈ pre ++ (sl, W.listOf xs.toArray 0) :: rest, p.1 ≠ hl)
    (ret : ∀ v h' tk' t', S v → Fr h₀ L h' m → News h₀ L h' (pre ++ handE hl sl (i + d) t' :: (sl, W.listOf xs.toArray 0) :: rest) → Q v { s with heap := h', toks := tk' }) :
    wpAny (model PySem.Challenge.rw_nz0170_01.row.prog w) (ktrTop dp un gd cn cs L a ccd cl outer) (call (.ref f) (.ref hl :: vs)) Q E s := by
  have N1 : News h₀ L s.heap [handE hl sl i t0] := fun p hp => N p (List.mem_append_right _ ((List.mem_singleton.mp hp) ▸ .head _))
  have hm : ∀ p, p ∈ pre ++ handE hl sl i t0 :: (sl, W.listOf xs.toArray 0) :: rest → p = handE hl sl i t0 ∨ p ∈ pre ++ (sl, W.listOf xs.toArray 0) :: rest := fun p hp => by
    simp only [List.mem_append, List.mem_cons] at hp ⊢
    rcases hp with h | h | h | h <;> simp [h]
  have hm2 : ∀ p (z : Addr × Obj), p ∈ pre ++ z :: (sl, W.listOf xs.toArray 0) :: rest → p = z ∨ p ∈ pre ++ (sl, W.listOf xs.toArray 0) :: rest := fun p z hp => by
    simp only [List.mem_append, List.mem_cons] at hp ⊢
    rcases hp with h | h | h | h <;> simp [h]
  have hm3 : ∀ p ∈ pre ++ (sl, W.listOf xs.toArray 0) :: rest, p ∈ pre ++ handE hl sl i t0 :: (sl, W.listOf xs.toArray 0) :: rest := fun p hp => by
    simp only [List.mem_append, List.mem_cons] at hp ⊢
    rcases hp with h | h | h <;> simp [h]
  have hsl : s.heap.get? sl = some (W.listOf xs.toArray 0) := (N _ (hm3 _ (List.mem_append_right _ (.head _)))).1
  refine C _ _ _ _ _ _ _ _ _ _ _ _ _ _ _ _ _ i t0 B F X N1 T hk ⟨hsl, hxi, hxl⟩ hat hdp hu fun v h' tk' t' st ho hS => ret v h' tk' t' hS (Mine.fr_but F N1 st) fun p hp => ?_
  rcases hm2 p _ hp with rfl | hp
  · exact ⟨ho, (N1 _ (.head _)).2⟩
  · exact ⟨st _ _ (hn p hp) (N p (hm3 p hp)).1, (N p (hm3 p hp)).2⟩
end
theorem intsL_of {vs : List Value} {ns : List Int} (x : IntsAre vs ns) : IntsL vs := by
  induction x with
  | nil => exact fun v h => absurd h List.not_mem_nil
  | cons n t r ih => exact fun v hv => (List.mem_cons.mp hv).elim (fun e => ⟨n, t, e⟩) (ih v)
theorem intsL_len {vs : List Value} {ns : List Int} (x : IntsAre vs (ns.take 40)) (hc : (ns.take 40).length = min 40 ns.length) : vs.length ≤ 40 := by
  have e : vs.length = (ns.take 40).length := by
    generalize ns.take 40 = l at x
    induction x with
    | nil => rfl
    | cons n t r ih => simp [ih]
  rw [e, hc]; exact Nat.min_le_left _ _
theorem offH {cell sl hl : Addr} {co o1 o2 : Obj} {o3 : Obj} {T : Led} (h1 : @LT.lt Nat _ cell sl) (h2 : @LT.lt Nat _ sl hl ∧ @LT.lt Nat _ cell hl) (h : ∀ p ∈ T, ∀ q ∈ [(hl, o1), (sl, o2), (cell, o3)], p.1 ≠ q.1) : ∀ p ∈ (sl, o2) :: (cell, co) :: T, p.1 ≠ hl := fun p hp => by
  rcases List.mem_cons.mp hp with rfl | hp
  · exact Nat.ne_of_lt h2.1
  · rcases List.mem_cons.mp hp with rfl | hp
    · exact Nat.ne_of_lt h2.2
    · exact h p hp _ (.head _)
theorem offH2 {I C D hl sl : Addr} {oI oC oD o2 : Obj} {x : Addr × Obj} {rest : Led} (h : ∀ p ∈ (sl, o2) :: rest, p.1 ≠ hl) (off : Off3 I C D (x :: (sl, o2) :: rest)) (e : x.1 = hl := by rfl) : ∀ p ∈ [(I, oI), (C, oC), (D, oD)] ++ (sl, o2) :: rest, p.1 ≠ hl := fun p hp => by
  have z := off.1
  rw [e] at z
  rcases List.mem_cons.mp hp with rfl | hp
  · exact Ne.symm z.1
  · rcases List.mem_cons.mp hp with rfl | hp
    · exact Ne.symm z.2.1
    · rcases List.mem_cons.mp hp with rfl | hp
      · exact Ne.symm z.2.2
      · exact h p hp
theorem newsD {g h : Heap} {L : Addr} {d a b c : Addr × Obj} {T : Led} (N : News g L h (d :: a :: b :: c :: T)) : News g L h (a :: b :: c :: (d :: T)) := fun p hp => N p (by
  simp only [List.mem_cons] at hp ⊢
  rcases hp with h | h | h | h | h <;> simp [h])
theorem offD2 {D hl sl cell : Addr} {o oh os oc oh' : Obj} {oc' : Obj} {T : Led} (o1 : Off1 D ((hl, oh') :: (sl, os) :: (cell, oc') :: T)) (h : ∀ p ∈ T, ∀ q ∈ [(hl, oh), (sl, os), (cell, oc)], p.1 ≠ q.1) : ∀ p ∈ (D, o) :: T, ∀ q ∈ [(hl, oh'), (sl, os), (cell, oc')], p.1 ≠ q.1 := fun p hp q hq => by
  obtain ⟨a1, a2, a3, _⟩ := o1
  simp only [List.mem_cons, List.not_mem_nil, or_false] at hq
  rcases List.mem_cons.mp hp with rfl | hp
  · rcases hq with rfl | rfl | rfl
    · exact Ne.symm a1
    · exact Ne.symm a2
    · exact Ne.symm a3
  · rcases hq with rfl | rfl | rfl
    · exact h p hp (hl, oh) (.head _)
    · exact h p hp (sl, os) (.tail _ (.head _))
    · exact h p hp (cell, oc) (.tail _ (.tail _ (.head _)))
/-- some of the rows -/
def GoodS (T : Led) (i : Nat) (ys : List Value) : Prop := ∃ S : List FR, S.length ≤ i ∧ (∀ r ∈ S, r ∈ rows16) ∧ ∀ g, Held T g → RowsAt g ys S
theorem GoodS.zero {T : Led} : GoodS T 0 [] := ⟨[], Nat.le_refl _, fun _ h => absurd h List.not_mem_nil, fun _ _ => .nil⟩
theorem RowsAt.snoc {h : Heap} {vs : List Value} {rs : List FR} {q : Addr} {r : FR} (x : RowsAt h vs rs) (y : RowAt h q r) : RowsAt h (vs ++ [.ref q]) (rs ++ [r]) := by
  induction x with
  | nil => exact .cons y .nil
  | cons a b ih => exact .cons a ih
theorem GoodS.step {T : Led} {i : Nat} {ys rvs : List Value} {v : Value} (hR : ∀ g, Held T g → RowsAt g rvs rows16) {h : Heap} (hT : Held T h) (hv : rvs[i]? = some v) (x : GoodS T i ys) : GoodS T (i + 1) (ys ++ [v]) := by
  obtain ⟨S, h1, h2, h3⟩ := x
  obtain ⟨q, r, rfl, hr, ra⟩ := (hR _ (heapOf_held hT)).at hv
  refine ⟨S ++ [r], by rw [List.length_append, List.length_singleton]; omega, fun r' hr' => ?_, fun g hg => (h3 g hg).snoc (ra.keep fun b o e => hg _ (heapOf_mem hT e))⟩
  rcases List.mem_append.mp hr' with z | z
  · exact h2 _ z
  · rw [List.mem_singleton.mp z]; exact List.mem_of_getElem? hr
theorem GoodS.skip {T : Led} {i : Nat} {ys : List Value} (x : GoodS T i ys) : GoodS T (i + 1) ys := by
  obtain ⟨S, h1, h2, h3⟩ := x
  exact ⟨S, Nat.le_succ_of_le h1, h2, h3⟩
/-- the end of a test that draws -/
def DEnd (h₀ : Heap) (L : Addr) (m : Str → Option Value) (led : Tok → Led) (s : Shared) (_ : Bool) (s₂ : Shared) : Prop := ∃ h' tk' t', s₂ = { s with heap := h', toks := tk' } ∧ Fr h₀ L h' m ∧ News h₀ L h' (led t')
theorem DEnd.mk {h₀ h' : Heap} {L : Addr} {m : Str → Option Value} (led : Tok → Led) {s : Shared} {b : Bool} {tk' : Nat} (t' : Tok) (F : Fr h₀ L h' m) (N : News h₀ L h' (led t')) : DEnd h₀ L m led s b { s with heap := h', toks := tk' } := ⟨h', tk', t', rfl, F, N⟩
section
variable {prog : Program} {w : World} {A : Around} {E : Value → Shared → Prop} {s : Shared} {h₀ : Heap} {L : Addr} {m : Str → Option Value} {env : Env}
theorem comp_draw {ct : Expr} {px : Pos} {x : Str} {scope : Scope} {cl : List (Str × Addr)} {S : Led → Prop} {rvs : List Value} {Fin : List Value → Led → Prop} {hl sl : Addr} {rest T : Led} (hR : ∀ g, Held T g → RowsAt g rvs rows16) (hT : ∀ p ∈ T, p ∈ rest) (hS : ∀ i t, S (handE hl sl i t :: rest))
    (elt : ∀ v (ys : List Value) I oI C oC D m₂ h tk nw (E' : Value → Shared → Prop) (Q : Value → Shared → Prop), NsObj oC m₂ → m₂ x = some v → Fr h₀ L h m → News h₀ L h ((I, oI) :: (C, oC) :: (D, lst ys) :: nw) → (∀ tk', Q v { s with heap := h, toks := tk' }) →
      wpAny (model prog w) A (eval (.Name x px) (compEnvC scope cl C env)) Q E' { s with heap := h, toks := tk })
    (turn : ∀ (i : Nat) v (ys : List Value) I oI C oC D m₂ h tk t (E' : Value → Shared → Prop), i < rvs.length → NsObj oC m₂ → m₂ x = some v → Fr h₀ L h m → News h₀ L h ((I, oI) :: (C, oC) :: (D, lst ys) :: handE hl sl i t :: rest) → Off3 I C D (handE hl sl i t :: rest) → ((@Ne Nat I C) ∧ (@Ne Nat I D) ∧ (@Ne Nat C D)) →
      wpAny (model prog w) A (isTrue ct (compEnvC scope cl C env) (eval ct (compEnvC scope cl C env))) (DEnd h₀ L m (fun t' => (I, oI) :: (C, oC) :: (D, lst ys) :: handE hl sl (i + 1) t' :: rest) s) E' { s with heap := h, toks := tk })
    (fin : ∀ ys t, GoodS T rvs.length ys → Fin ys (handE hl sl rvs.length t :: rest)) (t : Tok) : CompRestT prog w A h₀ L m env ct (.Name x px) x scope cl s S (fun i v => rvs.toArray[i]? = some v) Fin rvs.toArray.size 0 [] (handE hl sl 0 t :: rest) := by
  have key : ∀ (j i : Nat) (ys : List Value) t, i + j = rvs.length → GoodS T i ys → CompRestT prog w A h₀ L m env ct (.Name x px) x scope cl s S (fun i v => rvs.toArray[i]? = some v) Fin j i ys (handE hl sl i t :: rest) := by
    intro j
    induction j with
    | zero =>
      intro i ys t hi hy
      have : i = rvs.length := by omega
      subst this
      exact CompRestT.zero (fin ys t hy)
    | succ j ih =>
      intro i ys t hi hy
      refine CompRestT.succ fun v I oI C oC D m₂ h tk E' hv hC hx F N off ne => ?_
      have hv' : rvs[i]? = some v := by simpa using hv
      have hTh : Held T h := fun p hp => (N p (.tail _ (.tail _ (.tail _ (.tail _ (hT p hp)))))).1
      refine wpAny_mono (turn i v ys I oI C oC D m₂ h tk t E' (by omega) hC hx F N off ne) (fun b s₂ hp => ?_) fun _ _ e => e
      obtain ⟨h', tk', t', rfl, F', N'⟩ := hp
      have off' : Off3 I C D (handE hl sl (i + 1) t' :: rest) := ⟨off.1, off.2⟩
      by_cases hb : b = true
      · rw [if_pos hb]
        refine elt v ys I oI C oC D m₂ h' tk' _ E' _ hC hx F' N' fun tk'' => ?_
        exact ⟨h', tk'', _, rfl, F', N', off', hS _ _, ih (i + 1) (ys ++ [v]) t' (by omega) (hy.step hR hTh hv')⟩
      · rw [if_neg hb]
        exact ⟨h', tk', _, rfl, F', N', off', hS _ _, ih (i + 1) ys t' (by omega) hy.skip⟩
  have e : rvs.toArray.size = rvs.length := by simp
  rw [e]
  exact key rvs.length 0 [] t (by omega) GoodS.zero
end
end

section
open PySem PySem.W PySem.Calls PySem.Spec PyProof.Rows
example : True := by
  w_top off
  k_with_none
  trivial
/-- the end of a turn that draws three times -/
def TEnd3 (h₀ : Heap) (L : Addr) (m : Str → Option Value) (xt xw xs : Str) (I : Addr) (it : Obj) (hl sl : Addr) (c : Nat) (rest : Led) (s₁ : Shared) (f : Flow) (s₂ : Shared) : Prop :=
  match f with
  | .next => ∃ h' tk' m' c' t', s₂ = { s₁ with heap := h', toks := tk' } ∧ c' = c ∧ Fr h₀ L h' m' ∧ (∀ y, y ≠ xt → y ≠ xw → y ≠ xs → m' y = m y) ∧ News h₀ L h' ((I, it) :: handE hl sl c' t' :: rest)
  | _ => False
theorem TEnd3.mk {h₀ h' : Heap} {L : Addr} {m m' : Str → Option Value} {xt xw xs : Str} {I hl sl : Addr} {it : Obj} {c c' : Nat} {t' : Tok} {rest : Led} {s₁ : Shared} {tk' : Nat} {z : Addr × Obj} (F : Fr h₀ L h' m') (N : News h₀ L h' (z :: (I, it) :: handE hl sl c' t' :: rest)) (hc : c' = c)
    (hm : ∀ y, y ≠ xt → y ≠ xw → y ≠ xs → m' y = m y) : TEnd3 h₀ L m xt xw xs I it hl sl c rest s₁ .next { s₁ with heap := h', toks := tk' } := ⟨h', tk', m', c', t', rfl, hc, F, hm, fun p hp => N p (.tail _ hp)⟩
section
variable {w : World} {A : Around} {E : Value → Shared → Prop} {s : Shared} {h₀ : Heap} {m : Str → Option Value} {env : Env}
theorem iter_T {body : List Stmt} {Q : Flow → Shared → Prop} {hl sl : Addr} {i0 n : Nat} {t : Tok} {rest : Led} {r0 : Addr} {t0 u0 v0 : Tok} {xt xw xs : Str} (hn : n ≤ 1000)
    (hh : A.handled = none) (hr : IsRange s.heap r0 0 (n : Int) 1 t0 u0 v0) (F : Fr h₀ env.locals s.heap m) (N : News h₀ env.locals s.heap (handE hl sl i0 t :: rest))
    (turn : ∀ (i : Nat) t t' I it h tk u v, i < n → @LT.lt Nat _ hl I → (∀ p ∈ rest, p.1 < I) →
      Fr h₀ env.locals h (fun y => if y = xt then some (.int (0 + (i : Int)) t') else if y = xs then u else if y = xw then v else m y) → News h₀ env.locals h ((I, it) :: handE hl sl (i0 + 3 * i) t :: rest) →
      wpAny (model PRG w) A (execs body env) (TEnd3 h₀ env.locals m xt xw xs I it hl sl (i0 + 3 * (i + 1)) rest { s with heap := h, toks := tk }) E { s with heap := h, toks := tk })
    (done : ∀ h tk c t z u v, Fr h₀ env.locals h (fun y => if y = xt then z else if y = xs then u else if y = xw then v else m y) → News h₀ env.locals h (handE hl sl c t :: rest) → Q .next { s with heap := h, toks := tk }) :
    wpAny (model PRG w) A (pyIter (.ref r0)) (fun it s₂ => LoopAtV PRG w A h₀ env xt body Q E it s₂) E s := by
  refine iter_rangeUnr (n := n) hh hr (small0 hn) (size0 n) F N fun I lI => ?_
  have lH : @LT.lt Nat _ hl I := lI _ (.head _)
  have e4 : ∀ (m' : Str → Option Value) (z : Option Value), (∀ y, y ≠ xt → y ≠ xw → y ≠ xs → m' y = m y) → (fun y => if y = xt then z else m' y) = fun y => if y = xt then z else if y = xs then m' xs else if y = xw then m' xw else m y := fun m' z hm => by
    funext y
    by_cases h1 : y = xt
    · rw [if_pos h1, if_pos h1]
    rw [if_neg h1, if_neg h1]
    by_cases h2 : y = xs
    · rw [if_pos h2, h2]
    rw [if_neg h2]
    by_cases h3 : y = xw
    · rw [if_pos h3, h3]
    rw [if_neg h3]
    exact hm y h1 h3 h2
  have key : ∀ (k i : Nat) (m' : Str → Option Value) t, i + k = n → (∀ y, y ≠ xt → y ≠ xw → y ≠ xs → m' y = m y) → RangeRest PRG w A E h₀ env xt body Q s I 0 n k i m' (handE hl sl (i0 + 3 * i) t :: rest) := by
    intro k
    induction k with
    | zero =>
      intro i m' t hi hm
      refine RangeRest.zero fun h tk F' N' => done h tk _ t (m' xt) (m' xs) (m' xw) ?_ N'
      have := e4 m' (m' xt) hm
      rw [← this]
      have e5 : (fun y => if y = xt then m' xt else m' y) = m' := by
        funext y
        by_cases h1 : y = xt
        · rw [if_pos h1, h1]
        · rw [if_neg h1]
      rw [e5]; exact F'
    | succ k ih =>
      intro i m' t hi hm
      refine RangeRest.succ fun t' h tk F' N' => ?_
      rw [e4 m' _ hm] at F'
      refine wpAny_mono (turn i t t' I _ h tk _ _ (by omega) lH (fun p hp => lI p (.tail _ hp)) F' N') (fun f s₂ hp => ?_) fun _ _ y => y
      cases f with
      | next =>
        obtain ⟨h', tk', m2, c', t2, rfl, rfl, F2, hm2, N2⟩ := hp
        refine ⟨h', tk', m2, handE hl sl (i0 + 3 * (i + 1)) t2 :: rest, rfl, F2, N2, fun p hp => ?_, ih (i + 1) m2 t2 (by omega) hm2⟩
        rcases List.mem_cons.mp hp with rfl | hp
        · exact Nat.ne_of_lt lH
        · exact Nat.ne_of_lt (lI p (.tail _ hp))
      | ret _ => exact absurd hp id
      | brk => exact absurd hp id
      | cont => exact absurd hp id
  exact key n 0 m t (by omega) fun _ _ _ _ => rfl
end
theorem offI3 {I hl sl : Addr} {it o : Obj} {rest : Led} (h1 : @LT.lt Nat _ hl I) (h : ∀ p ∈ (sl, o) :: rest, p.1 ≠ hl) : ∀ p ∈ [(I, it)] ++ (sl, o) :: rest, p.1 ≠ hl := fun p hp => by
  rcases List.mem_cons.mp hp with rfl | hp
  · exact Nat.ne_of_gt h1
  · exact h p hp
theorem heldT {g h : Heap} {L : Addr} {a b c d : Addr × Obj} {T : Led} (N : News g L h (a :: b :: c :: d :: T)) : Held T h := fun p hp => (N p (.tail _ (.tail _ (.tail _ (.tail _ hp))))).1
theorem heldT5 {g h : Heap} {L : Addr} {z a b c d : Addr × Obj} {T : Led} (N : News g L h (z :: a :: b :: c :: d :: T)) : Held T h := heldT fun p hp => N p (.tail _ hp)
theorem menu_facts {v : Value} (h : ∃ (i j : Nat) (t : Tok), v = .str (stemsL.getD i Str.empty ++ sufsL.getD j Str.empty) t ∧ i < 16 ∧ j < 7) : ∃ (x : Str) (t : Tok), v = .str x t ∧ x.length ≤ 90 ∧ wideF x = lwideF x ∧ nameF x = (lk x alone_d).getD (Str.ofString "") ∧
    ∀ S : List FR, (∀ r ∈ S, r ∈ rows16) → ∀ n, n < 4 → toldF S x (opsN n) (n == 3) = dueF S x n := by
  obtain ⟨i, j, t, rfl, hi, hj⟩ := h
  have hm := menu_one hi hj
  unfold menuOK at hm
  rw [Bool.and_eq_true, Bool.and_eq_true] at hm
  obtain ⟨⟨h1, h2⟩, h3⟩ := hm
  have h1' := h1
  unfold wordOK at h1'
  simp only [Bool.and_eq_true, decide_eq_true_eq] at h1'
  obtain ⟨⟨a, b⟩, c⟩ := h1'
  exact ⟨_, t, rfl, a, b, c, fun S hS n hn => told_due hS h1 h2 (List.all_eq_true.mp h3 n (List.mem_range.mpr hn))⟩
end

section
open PySem PySem.W PySem.Calls PySem.Spec PyProof.Rows
example : True := by
  w_top off
  k_with_none
  trivial
local macro_rules | `(tactic| walk_at "execs cons") => `(tactic| k_extra "z execs cons")
local macro_rules | `(tactic| walk_at "CompSrcT") => `(tactic| k_extra "z CompSrcT")
local macro_rules | `(tactic| walk_at "compareOp NotEq ref ref") => `(tactic| k_extra "z compareOp NotEq ref ref")
local macro_rules | `(tactic| walk_at "compareOp NotEq str str") => `(tactic| k_extra "z compareOp NotEq str str")
local macro_rules | `(tactic| walk_at "getMethod ref") => `(tactic| k_extra "z getMethod ref")
local macro_rules | `(tactic| walk_at "call builtin:dict.get") => `(tactic| k_extra "z call builtin:dict.get")
local macro_rules | `(tactic| walk_at "pyIter ref") => `(tactic| k_extra "z pyIter ref")
local macro_rules | `(tactic| walk_at "call ref") => `(tactic| k_extra "z call ref")
local macro_rules | `(tactic| walk_at "call type:enumerate") => `(tactic| k_extra "z call type:enumerate")
local macro_rules | `(tactic| walk_at "eval ListComp") => `(tactic| k_extra "z eval ListComp")
local macro_rules | `(tactic| walk_at "exec Assign") => `(tactic| k_extra "z exec Assign")
local macro_rules | `(tactic| walk_at "exec For") => `(tactic| k_extra "z exec For")
example : True := by
  k_with_none
  k_with "my_enter" => (refine' enterL ?k1 ?k2 ?k3 ?k4 ?k5 ?kA ?kF ?kK ?k6 ?k7 ?k8 ?k9 ?kB ?_ ?c2 ?c3 ?c4 ?c5; (case kA => exact rfl); (case kF => exact rfl); (case kK => assumption); (case k1 => k_asm); (case k2 => k_asm); (case k3 => k_asm); (case k4 => k_asm); (case k5 => k_asm); (case k6 => k_is); (case k7 => k_is); (case k8 => k_room); (case k9 => exact BindsTo.of_eq rfl); (case c5 => decide); (case kB => exact locs rfl); (case c2 => exact rfl); (case c3 => exact rfl); (case c4 => exact rfl); k_whole; intro g' L' h' hg' FG' F' N' B' X' T'; (try (refine anyTok ?_; intro tkz)); (try dsimp only); (let mz := frMap F'; have Fz : Fr _ _ _ mz := F'); (try k_lift B'); (try k_fold))
  k_with "my_use" => ((case k1 => k_asm); (case k2 => k_asm); (case k3 => k_asm); (case k4 => first | exact News.nil | k_asm); (case k5 => k_asm); (case kK => first | exact rfl | assumption); (case kp => first | trivial | assumption | exact IsetAt.keep (Fr.keep (by k_asm)) (by with_reducible assumption) | exact OpsAt.keep (Fr.keep (by k_asm)) (by with_reducible assumption)); (case kd => first | k_room | ktr_room); (case ku => ktr_units); (case k9 => k_asm))
  k_with "my_clr" => ((repeat (with_reducible rename Fr _ _ _ _ => z9; clear z9)); (repeat (with_reducible rename News _ _ _ _ => z9; clear z9)); (repeat (with_reducible rename Top _ _ _ _ _ _ => z9; clear z9)); (repeat (with_reducible rename Below _ _ _ _ => z9; clear z9)); (repeat (with_reducible rename Heap.StaysIn _ _ => z9; clear z9)); (repeat (with_reducible rename Frag.In _ _ => z9; clear z9)))
  k_with "my_next" => (refine' FPost.next ?_ ?F ?N ?hs; (case F => k_asm); (case N => k_asm); (case hs => lcg_sub))
  k_with "my_endH" => (rename (∀ (b : Addr) (o : Obj), _ → ¬ _ → _) => hg9; refine endH (by assumption) hg9 (by assumption) ?_)
  k_with "my_t3" => (refine ⟨_, rfl, IsT3.of_eq ?_ (IsT3.of_news (by assumption) (by k_mem))⟩)
  k_with "my_if" => ((repeat (with_reducible rename Fr _ _ _ _ => z9; clear z9)); (repeat (with_reducible rename News _ _ _ _ => z9; clear z9)); (repeat (with_reducible rename Top _ _ _ _ _ _ => z9; clear z9)); (repeat (with_reducible rename Below _ _ _ _ => z9; clear z9)); (repeat (with_reducible rename Heap.StaysIn _ _ => z9; clear z9)); (repeat (with_reducible first | (refine pos_eq (by assumption) ?_) | (refine neg_eqB (by assumption) ?_) | (refine neg_eq (by assumption) ?_))); try rfl)
  k_with "my_end1" => (rename (∀ (b : Addr) (o : Obj), _ → ¬ _ → _) => hg9; refine end1 (by assumption) hg9 (by first | exact (fun _ hp => absurd hp List.not_mem_nil) | assumption) (by assumption) (by assumption) (by first | exact (fun _ hp => absurd hp List.not_mem_nil) | k_all) (by k_mem) (by first | exact (fun _ hp => absurd hp List.not_mem_nil) | k_all) ?_)
  k_with "my_end0" => (rename (∀ (b : Addr) (o : Obj), _ → ¬ _ → _) => hg9; refine end0 (by assumption) hg9 (by first | exact (fun _ hp => absurd hp List.not_mem_nil) | assumption) (by assumption) (by assumption) (by first | exact (fun _ hp => absurd hp List.not_mem_nil) | k_all) ?_)
  k_with "z execs cons" => (k_here; (with_reducible show wpAny _ _ (execs (Stmt.Assign [Expr.Name _ _] (Expr.ListComp _ _ _ _) _ :: _) _) _ _ _); with_reducible refine stopAt3 ?_)
  k_with "z CompSrcT" => (k_here; with_reducible refine stopAt3 ?_)
  k_with "z compareOp NotEq ref ref" => (k_here; with_reducible refine stopAt3 ?_)
  k_with "z compareOp NotEq str str" => (k_here; with_reducible refine stopAt3 ?_)
  k_with "z getMethod ref" => (k_here; with_reducible refine stopAt3 ?_)
  k_with "z call builtin:dict.get" => (k_here; with_reducible refine stopAt3 ?_)
  k_with "z pyIter ref" => (k_here; with_reducible refine stopAt3 ?_)
  k_with "z execs cons" => (k_here; (with_reducible show wpAny _ _ (execs (Stmt.For _ _ _ _ _ :: _) _) _ _ _); with_reducible refine stopAt3 ?_)
  k_with "z call ref" => (k_here; with_reducible refine stopAt3 ?_)
  k_with "z call type:enumerate" => (k_here; with_reducible refine stopAt3 ?_)
  k_with "z eval ListComp" => (k_here; with_reducible refine stopAt3 ?_)
  k_with "z exec Assign" => (k_here; (with_reducible show wpAny _ _ (exec (Stmt.Assign [_] (Expr.ListComp _ _ _ _) _) _) _ _ _); with_reducible refine stopAt3 ?_)
  k_with "z exec For" => (k_here; with_reducible refine stopAt3 ?_)
  trivial
local macro_rules | `(tactic| k_room) => `(tactic| ((try simp only [depth_under_make, depth_under_kw, depth_in1, depth_deeper]); (try dsimp only [ktrTop]); omega))
local macro_rules | `(tactic| k_inst) => `(tactic| (refine' instAt_base ?F ?h1 ?h2; (case F => k_asm); (case h1 => with_reducible assumption); (case h2 => with_reducible assumption)))
local macro_rules | `(tactic| ktr_units) => `(tactic| (have hcL9 := cLine_is; (try simp only [units_in1, units_deeper, units_under_make, Around.mark_units, units_caller]); (try dsimp only [ktrTop]); omega))
-- a test that the path has decided
theorem lawT : PySem.Challenge.rw_nz0170_01.Holds := by
  refine top.hd ?_
  k_go0
  all_goals (try k_fold)
  k_steps
  unfold Stop3
  rename_i sl xs hs1 hxs hxc hxl lt1 hl hs2 lt2 hs3 co FF NN dco
  let mz := frMap FF
  have Fz : Fr _ _ _ mz := FF
  refine anyTok ?_
  intro tkz
  (try dsimp only)
  k_dflt (refine' useG (law_rows _ _ _ _) ?k1 ?k2 ?k3 ?k4 ?k5 ?kK ?kp ?kd ?ku ?k9 ?_)
  (walk_at "my_use")
  k_whole
  intro v1 T1 h1 tk1 hR1 st1 F1 N1 off1
  obtain ⟨rq, rvs, rfl, hrm, hRw⟩ := hR1
  have hvl : rvs.length = rows16.length := (hRw _ (heapOf_held fun p hp => (N1 p (List.mem_append_right _ hp)).1)).length
  simp only [List.cons_append, List.nil_append] at N1
  (try dsimp only)
  (try k_fold)
  k_steps
  unfold Stop3
  k_dflt (refine ListComp_E (_F₀ := by k_asm) (by rfl) (by decide) (by rfl) (by decide) (by rfl) (by rfl) (by rfl) (by rfl) (by decide) (by decide) (by decide) (by decide) (by decide) (by decide) ?_)
  k_steps
  unfold Stop3
  k_dflt (refine' srcE_call (T := T1) (rows := rows16) (vs := rvs) (nl := 0) (InvF _ T1 rows16) (by rfl) ?hz ?kF ?kN ?hax ?hT ?hR InvF.zero ?turn ?fin)
  case kF => k_asm
  case kN => k_asm
  case hz => rw [hvl]; decide
  case hax => exact List.mem_cons_of_mem _ (List.mem_cons_of_mem _ (List.mem_cons_of_mem _ hrm))
  case hT => intro p hp; repeat (first | exact hp | apply List.mem_cons_of_mem)
  case hR => intro g hg; exact hRw g hg
  case turn =>
    intro i q r kt t0 t1 t2 ks ys news' C oC D m₂ h tk E' hv hr hI hsub hkt hks hoC z1 z2 z3 z4 F2 N2
    k_steps
    unfold Stop3
    k_dflt (refine' form_end (new_form _ _ _ _ _ kt _ _ _ _ _ _ _ _ ks r.kinds hks (rows16_ok r (List.mem_of_getElem? hr)).1 (rows16_ok r (List.mem_of_getElem? hr)).2) ?k1 ?k2 ?k3 ?k5 ?kK ?kp ?kd ?ku ?k9 ?ret)
    case k1 => k_asm
    case k2 => k_asm
    case k3 => k_asm
    case k5 => k_asm
    case kK => first | exact rfl | assumption
    case kp => exact (N2 _ (.tail _ (.tail _ (hsub _ (by repeat (first | exact hkt | apply List.mem_cons_of_mem)))))).1
    case kd => first | k_room | ktr_room
    case ku => ktr_units
    case k9 => k_asm
    case ret =>
      intro v own f off
      exact hI.step hr hkt hks (fun p hp q hq => off p hp q (.tail _ (.tail _ hq))) f
  case fin =>
    intro D ys news' h tk F3 N3 oD hsub hI
    obtain ⟨hyl, o1, rfl, ho1, hf⟩ := hI
    have N4 := newsSwap (keep := [_, _, _]) N3
    have hoff := offD (o := LCg.lst ys) (keep := [_, _, _]) oD ho1 off1
    clear N3
    simp only [List.cons_append, List.nil_append] at N4
    (try dsimp only)
    (try k_fold)
    k_steps
    unfold Stop3
    k_dflt (refine' useIset (new_iset _ _ _ _ D ys ys.length rows16 (boundL ((D, LCg.lst ys) :: (o1 ++ T1))) ((D, LCg.lst ys) :: (o1 ++ T1)) rows16_len (.head _) (fun g hg => InvF.forms (n := rvs.length) hyl hf hvl (fun p hp => .tail _ hp) g hg)) ?sk1 ?sk2 ?sk3 ?sk4 ?sk5 ?skK ?skd ?sku ?sk9 hoff ?sret)
    case sk1 => k_asm
    case sk2 => k_asm
    case sk3 => k_asm
    case sk4 => exact newsLed (keep := [_, _, _]) N4
    case sk5 => k_asm
    case skK => first | exact rfl | assumption
    case skd => first | k_room | ktr_room
    case sku => ktr_units
    case sk9 => exact newsKeep (keep := [_, _, _]) N4
    case sret =>
      intro ia fv T2 h5 tk5 F5 N5 hI2 hD2 off5
      have hT1 : Held T1 h := fun p hp => (N4 p (.tail _ (.tail _ (.tail _ (.tail _ (List.mem_append_right _ hp)))))).1
      have hRw2 : ∀ g, Held T2 g → RowsAt g rvs rows16 := RowsAt.sub hRw hT1 fun p hp d => hD2 p (.tail _ (List.mem_append_right _ hp)) d
      have hrm2 := hD2 _ (.tail _ (List.mem_append_right _ hrm)) (isD_list _ _)
      (try clear hf); (try clear hoff); (try clear hD2); (try clear hT1); (try clear off1); (try clear ho1); (try clear hRw); (try clear hrm); (try clear hsub); (try clear N4); (try clear oD)
      simp only [List.cons_append, List.nil_append] at N5
      (try dsimp only)
      (try k_fold)
      k_steps
      unfold Stop3
      k_dflt (refine wpAny_execs_cons ?_)
      k_dflt (refine wpAny_For ?_)
      k_steps
      unfold Stop3
      k_dflt (refine' useG (law_written _ _ _ _) ?k1 ?k2 ?k3 ?k4 ?k5 ?kK ?kp ?kd ?ku ?k9 ?_)
      (walk_at "my_use")
      k_whole
      intro v6 T3 h6 tk6 hR6 st6 F6 N6 off6
      obtain ⟨wq, wvs, rfl, hwm, hWr⟩ := hR6
      simp only [List.cons_append, List.nil_append] at N6
      have off7 := offApp off5 off6
      clear off6
      (try dsimp only)
      (try k_fold)
      k_steps
      unfold Stop3
      k_dflt (refine' iter_W (T := T3) (rs := written40) (nl := 0) (vs := wvs) (by rfl) (by rfl) (by rfl) (by rfl) (by rfl) ?wF ?wN ?wax ?wT ?wW ?wturn ?wR)
      case wF => k_asm
      case wN => k_asm
      case wax => exact List.mem_cons_of_mem _ (List.mem_cons_of_mem _ (List.mem_cons_of_mem _ (List.mem_append_right _ hwm)))
      case wT => exact fun p hp => List.mem_cons_of_mem _ (List.mem_cons_of_mem _ (List.mem_cons_of_mem _ (List.mem_append_right _ hp)))
      case wW => exact hWr
      case wturn =>
        intro x n r t1 t2 d I oI h tk E' hmem hd3 hIlt hcl F N
        have hw := writ_one hmem
        unfold writOK wordOK at hw
        simp only [Bool.and_eq_true, decide_eq_true_eq] at hw
        obtain ⟨⟨⟨⟨⟨hx, hw1⟩, hw2⟩, hn⟩, ht⟩, hdu⟩ := hw
        (try k_fold)
        k_steps
        unfold Stop3
        k_dflt (refine' useH (law_operands _ _ _ _ n _ hn) ?k1 ?k2 ?k3 ?k4 ?k5 ?kK ?kp ?kd ?ku ?k9 ?_)
        (walk_at "my_use")
        k_whole
        intro v1 h1 tk1 r1 st1 F1 N1
        obtain ⟨l1, rfl, hop⟩ := r1
        have hP : IsetAt _ h1 ia rows16 fv ∧ OpsAt h1 l1 (opsN n) (n == 3) := ⟨hI2 h1 (held4 N1).1, hop⟩
        (try dsimp only)
        (try k_fold)
        k_steps
        unfold Stop3
        k_dflt (refine' useTH ht (told_word _ _ _ _ ia l1 rows16 fv x _ (opsN n) (n == 3) hx rows16_k) ?k1 ?k2 ?k3 ?k4 ?k5 ?kK ?kp ?kd ?ku ?k9 ?_)
        (walk_at "my_use")
        k_whole
        intro q2 h2 tk2 e2 st2 F2 N2
        have hN2 := held4 N2
        (try dsimp only)
        (try k_fold)
        k_steps
        unfold Stop3
        k_dflt (refine' ne_same (e2) (hd3 h2 hN2.2) ?ku ?_)
        case ku => ktr_units
        (try dsimp only)
        (try k_fold)
        k_steps
        have hP2 : h2.IsList rq rvs.toArray ∧ RowsAt h2 rvs rows16 := ⟨list_base (hN2.1 _ hrm2), hRw2 h2 hN2.1⟩
        unfold Stop3
        k_dflt (refine' useH (law_due _ _ _ _ rq rvs rows16 x _ n _ hx hn rows16_len rows16_d) ?k1 ?k2 ?k3 ?k4 ?k5 ?kK ?kp ?kd ?ku ?k9 ?_)
        (walk_at "my_use")
        k_whole
        intro v3 h3 tk3 r3 st3 F3 N3
        obtain ⟨q3, rfl, e3⟩ := r3
        rw [hdu] at e3
        have hN3 := held4 N3
        (try dsimp only)
        (try k_fold)
        k_steps
        unfold Stop3
        k_dflt (refine' ne_same (e3) (hd3 h3 hN3.2) ?ku ?_)
        case ku => ktr_units
        (try dsimp only)
        (try k_fold)
        k_steps
        unfold Stop3
        k_dflt (refine' useTH hw1 (widened_word _ _ _ _ x _ (Nat.le_trans hx (by decide))) ?k1 ?k2 ?k3 ?k4 ?k5 ?kK ?kp ?kd ?ku ?k9 ?_)
        (walk_at "my_use")
        k_whole
        intro q4 h4 tk4 e4 st4 F4 N4
        (try dsimp only)
        (try k_fold)
        k_steps
        unfold Stop3
        k_dflt (refine' useH (law_wide _ _ _ _ x _ hx) ?k1 ?k2 ?k3 ?k4 ?k5 ?kK ?kp ?kd ?ku ?k9 ?_)
        (walk_at "my_use")
        k_whole
        intro v5 h5' tk5' r5 st5 F5' N5'
        obtain ⟨q5, rfl, e5⟩ := r5
        (try dsimp only)
        (try k_fold)
        k_steps
        unfold Stop3
        k_dflt (refine' ne_same (e4.keep st5) (e5) ?ku ?_)
        case ku => ktr_units
        (try dsimp only)
        (try k_fold)
        k_steps
        unfold Stop3
        k_dflt (refine' useS (name_alone _ _ _ _ x _ (Nat.le_trans hx (by decide))) ?k1 ?k2 ?k3 ?k4 ?k5 ?kK ?kp ?kd ?ku ?k9 ?_)
        (walk_at "my_use")
        k_whole
        intro t7 h7 tk7 st7 F7 N7
        (try dsimp only)
        (try k_fold)
        k_steps
        unfold Stop3
        k_dflt (refine' useDH (law_alone _ _ _ _) ?k1 ?k2 ?k3 ?k4 ?k5 ?kK ?kp ?kd ?ku ?k9 ?_)
        (walk_at "my_use")
        k_whole
        intro d8 h8 tk8 e8 st8 F8 N8
        (try dsimp only)
        (try k_fold)
        k_steps
        unfold Stop3
        k_dflt (refine getMethod_strTab_get e8 ?_)
        (try dsimp only)
        (try k_fold)
        k_steps
        unfold Stop3
        k_dflt (refine' get_alone (y := nameF x) e8 hw2 ?_)
        intro t9
        (try dsimp only)
        (try k_fold)
        k_steps
        unfold Stop3
        k_dflt (refine ne_strS ?_)
        (try dsimp only)
        (try k_fold)
        k_steps
        exact ⟨_, _, rfl, by assumption, by assumption⟩
      case wR =>
        intro h tk hF N
        obtain ⟨u, v, z, F⟩ := hF
        (try dsimp only)
        (try k_fold)
        k_steps
        unfold Stop3
        k_dflt (refine wpAny_execs_cons ?_)
        k_dflt (refine LCt.Assign_ListComp_T (F₀ := by k_asm) (by rfl) (by with_unfolding_all rfl) (by rfl) (by decide) (by rfl) (by decide) (by rfl) (by rfl) (by rfl) ?_)
        k_steps
        unfold Stop3
        k_dflt (refine' LCt.CompSrcT.ledger (its := rvs.toArray) (k := 0) (by rfl) ?gF ?gN ?gm ?gz ?_)
        case gF => k_asm
        case gN => k_asm
        case gm => exact List.mem_cons_of_mem _ (List.mem_cons_of_mem _ (List.mem_cons_of_mem _ (List.mem_append_left _ hrm2)))
        case gz => rw [List.size_toArray, hvl, sizeLine_eq]; decide
        intro g'
        have hxi : IntsL xs := intsL_of hxs
        have hxl2 : xs.length ≤ 40 := intsL_len hxs hxc
        have hno : ∀ p ∈ (sl, W.listOf xs.toArray 0) :: (_, co) :: (T2 ++ T3), p.1 ≠ hl := offH lt1 lt2 off7
        refine' comp_draw (hl := hl) (sl := sl) (T := T2) (rest := (sl, W.listOf xs.toArray 0) :: (_, co) :: (T2 ++ T3)) hRw2 (fun p hp => .tail _ (.tail _ (List.mem_append_left _ hp))) (fun i t => .inr ⟨_, .tail _ (.tail _ (.tail _ (List.mem_append_left _ hrm2))), rfl, _, rfl⟩) ?gelt ?gturn ?gfin _
        case gelt =>
          intro v ys I oI C oC D m₂ h tk nw E' Q hoC hx F N hq
          k_steps
          exact hq _
        case gturn =>
          intro i v ys I oI C oC D m₂ h tk t E' hi hoC hx F N off ne
          k_steps
          unfold Stop3
          k_dflt (refine' useDrN (pre := [(I, oI), (C, oC), (D, LCg.lst ys)]) (law_draw _ _ _ _ hl sl xs 4 _ (by decide)) ?k1 ?k2 ?k3 ?k5 ?kK hxi hxl2 ?kat ?kd ?ku N (offH2 hno off) ?_)
          case k1 => k_asm
          case k2 => k_asm
          case k3 => k_asm
          case k5 => k_asm
          case kK => first | exact rfl | assumption
          case kat => rw [hvl] at hi; have h16 : rows16.length = 16 := rfl; omega
          case kd => first | k_room | ktr_room
          case ku => ktr_units
          k_whole
          intro v2 h2 tk2 t2 hv2 F2 N2
          obtain ⟨r2, t3, rfl, hr2⟩ := hv2
          simp only [List.cons_append, List.nil_append] at N2
          (try dsimp only)
          (try k_fold)
          k_steps
          all_goals exact DEnd.mk _ t2 (by assumption) (by assumption)
        case gfin =>
          intro ys t hg
          obtain ⟨S, hS1, hS2, hS3⟩ := hg
          unfold LCg.FinA
          intro D h tk F N o1
          have N2 := newsD N
          have off8 := offD2 (o := LCg.lst ys) o1 off7
          generalize hT4 : (D, LCg.lst ys) :: (T2 ++ T3) = T4 at N2 off8
          have hR4 : ∀ g, Held T4 g → RowsAt g ys S := fun g hg => hS3 g fun p hp => hg p (hT4 ▸ .tail _ (List.mem_append_left _ hp))
          have hD4 : (D, LCg.lst ys) ∈ T4 := hT4 ▸ .head _
          have hyl : ys.length = S.length := (hR4 _ (heapOf_held fun p hp => (N2 p (.tail _ (.tail _ (.tail _ hp)))).1)).length
          have hS16 : S.length ≤ 16 := Nat.le_trans hS1 (by rw [hvl]; exact rows16_len)
          clear hT4 N o1 hS3
          (try dsimp only)
          (try k_fold)
          k_steps
          unfold Stop3
          k_dflt (refine ListComp_E (_F₀ := by k_asm) (by rfl) (by decide) (by rfl) (by decide) (by rfl) (by rfl) (by rfl) (by rfl) (by decide) (by decide) (by decide) (by decide) (by decide) (by decide) ?_)
          k_steps
          unfold Stop3
          k_dflt (refine' srcE_call (T := T4) (rows := S) (vs := ys) (nl := ys.length) (InvF _ T4 S) (by rfl) ?bz ?bF ?bN ?bax ?bT ?bR InvF.zero ?bturn ?bfin)
          case bF => k_asm
          case bN => k_asm
          case bz => rw [hyl]; exact Nat.le_trans hS1 (by rw [hvl]; decide)
          case bax => exact .tail _ (.tail _ (.tail _ hD4))
          case bT => exact fun p hp => .tail _ (.tail _ (.tail _ hp))
          case bR => exact hR4
          case bturn =>
            intro i q r kt t0 t1 t2 ks ys2 news' C oC D2 m₂ h tk E' hv hr hI hsub hkt hks hoC z1 z2 z3 z4 F2 N2
            k_steps
            unfold Stop3
            have hrS := rows16_ok r (hS2 r (List.mem_of_getElem? hr))
            k_dflt (refine' form_end (new_form _ _ _ _ _ kt _ _ _ _ _ _ _ _ ks r.kinds hks hrS.1 hrS.2) ?k1 ?k2 ?k3 ?k5 ?kK ?kp ?kd ?ku ?k9 ?ret)
            case k1 => k_asm
            case k2 => k_asm
            case k3 => k_asm
            case k5 => k_asm
            case kK => first | exact rfl | assumption
            case kp => exact (N2 _ (.tail _ (.tail _ (hsub _ (.tail _ (.tail _ (.tail _ hkt))))))).1
            case kd => first | k_room | ktr_room
            case ku => ktr_units
            case k9 => k_asm
            case ret =>
              intro v own f off
              exact hI.step hr hkt hks (fun p hp q hq => off p hp q (.tail _ (.tail _ hq))) f
          case bfin =>
            intro D2 ys2 news' h tk F3 N3 oD hsub hI
            obtain ⟨hyl2, o1, rfl, ho1, hf⟩ := hI
            have N4 := newsSwap (keep := [_, _, _]) N3
            have hoff := offD (o := LCg.lst ys2) (keep := [_, _, _]) oD ho1 off8
            clear N3
            simp only [List.cons_append, List.nil_append] at N4
            (try dsimp only)
            (try k_fold)
            k_steps
            unfold Stop3
            k_dflt (refine' useIset (new_iset _ _ _ _ D2 ys2 ys2.length S (boundL ((D2, LCg.lst ys2) :: (o1 ++ T4))) ((D2, LCg.lst ys2) :: (o1 ++ T4)) hS16 (.head _) (fun g hg => InvF.forms (n := ys.length) hyl2 hf hyl (fun p hp => .tail _ hp) g hg)) ?sk1 ?sk2 ?sk3 ?sk4 ?sk5 ?skK ?skd ?sku ?sk9 hoff ?sret)
            case sk1 => k_asm
            case sk2 => k_asm
            case sk3 => k_asm
            case sk5 => k_asm
            case sk4 => exact newsLed (keep := [_, _, _]) N4
            case skK => first | exact rfl | assumption
            case skd => first | k_room | ktr_room
            case sku => ktr_units
            case sk9 => exact newsKeep (keep := [_, _, _]) N4
            case sret =>
              intro ia2 fv2 T5 h5 tk5 F5 N5 hI5 hD5 off9
              have hT4h : Held T4 h := fun p hp => (N4 p (.tail _ (.tail _ (.tail _ (.tail _ (List.mem_append_right _ hp)))))).1
              have hR5 : ∀ g, Held T5 g → RowsAt g ys S := RowsAt.sub hR4 hT4h fun p hp d => hD5 p (.tail _ (List.mem_append_right _ hp)) d
              have hD6 := hD5 _ (.tail _ (List.mem_append_right _ hD4)) (isD_list _ _)
              (try clear hf)
              (try clear hoff)
              (try clear hD5)
              (try clear hT4h)
              (try clear off8)
              (try clear ho1)
              (try clear hR4)
              (try clear hD4)
              (try clear hsub)
              (try clear N4)
              (try clear oD)
              (try clear off7)
              simp only [List.cons_append, List.nil_append] at N5
              (try dsimp only)
              (try k_fold)
              k_steps
              unfold Stop3
              k_dflt (refine wpAny_execs_cons ?_)
              k_steps
              unfold Stop3
              have hnoR : ∀ p ∈ (sl, W.listOf xs.toArray 0) :: (_, co) :: T5, p.1 ≠ hl := offH lt1 lt2 off9
              k_dflt (refine' iter_T (hl := hl) (sl := sl) (i0 := rvs.length) (n := 12) (xt := Str.ofString "turn") (xw := Str.ofString "word") (xs := Str.ofString "sort") (by decide) (by rfl) ?rr ?rF ?rN ?rturn ?rdone)
              case rr => (rename IsRange _ _ _ _ _ _ _ _ => rg); exact rg
              case rF => k_asm
              case rN => k_asm
              case rturn =>
                intro i t t' I it h tk u v hi lH lR F N
                (try k_fold)
                k_steps
                unfold Stop3
                k_dflt (refine' useDrN (pre := [(I, it)]) (law_word _ _ _ _ hl sl xs) ?k1 ?k2 ?k3 ?k5 ?kK hxi hxl2 ?kat ?kd ?ku N (offI3 lH hnoR) ?_)
                case k1 => k_asm
                case k2 => k_asm
                case k3 => k_asm
                case k5 => k_asm
                case kK => first | exact rfl | assumption
                case kat => rw [hvl]; have h16 : rows16.length = 16 := rfl; omega
                case kd => first | k_room | ktr_room
                case ku => ktr_units
                k_whole
                intro v2 h2 tk2 t2 hv2 F2 N2
                obtain ⟨x, t4, rfl, hx, hw1, hw2, htd⟩ := menu_facts hv2
                simp only [List.cons_append, List.nil_append] at N2
                have N2' := N2
                (try dsimp only)
                (try k_fold)
                k_steps
                unfold Stop3
                k_dflt (refine' useDrN (pre := [(I, it)]) (law_draw _ _ _ _ hl sl xs 4 _ (by decide)) ?k1 ?k2 ?k3 ?k5 ?kK hxi hxl2 ?kat ?kd ?ku N2' (offI3 lH hnoR) ?_)
                case k1 => k_asm
                case k2 => k_asm
                case k3 => k_asm
                case k5 => k_asm
                case kK => first | exact rfl | assumption
                case kat => rw [hvl]; have h16 : rows16.length = 16 := rfl; omega
                case kd => first | k_room | ktr_room
                case ku => ktr_units
                k_whole
                intro v3 h3 tk3 t3 hv3 F3 N3
                obtain ⟨r, t6, rfl, hr4⟩ := hv3
                have hr3 : r ≤ 3 := Nat.le_of_lt_succ hr4
                simp only [List.cons_append, List.nil_append] at N3
                (try dsimp only)
                (try k_fold)
                k_steps
                unfold Stop3
                k_dflt (refine' useH (law_operands _ _ _ _ r _ hr3) ?k1 ?k2 ?k3 ?k4 ?k5 ?kK ?kp ?kd ?ku ?k9 ?_)
                (walk_at "my_use")
                k_whole
                intro v1 h1' tk1' r1 st1' F1' N1'
                obtain ⟨l1, rfl, hop⟩ := r1
                have hP : IsetAt _ h1' ia2 S fv2 ∧ OpsAt h1' l1 (opsN r) (r == 3) := ⟨hI5 h1' (heldT5 N1'), hop⟩
                (try dsimp only)
                (try k_fold)
                k_steps
                unfold Stop3
                k_dflt (refine' useTH (htd S hS2 r hr4) (told_word _ _ _ _ ia2 l1 S fv2 x _ (opsN r) (r == 3) hx (fun r hr => rows16_k r (hS2 r hr))) ?k1 ?k2 ?k3 ?k4 ?k5 ?kK ?kp ?kd ?ku ?k9 ?_)
                (walk_at "my_use")
                k_whole
                intro q2 h2' tk2' e2 st2' F2' N2''
                have hP2 : h2'.IsList D ys.toArray ∧ RowsAt h2' ys S := ⟨list_baseN (heldT5 N2'' _ hD6), hR5 h2' (heldT5 N2'')⟩
                (try dsimp only)
                (try k_fold)
                k_steps
                unfold Stop3
                k_dflt (refine' useH (law_due _ _ _ _ D ys S x _ r _ hx hr3 hS16 (fun r hr => rows16_d r (hS2 r hr))) ?k1 ?k2 ?k3 ?k4 ?k5 ?kK ?kp ?kd ?ku ?k9 ?_)
                (walk_at "my_use")
                k_whole
                intro v3 h3' tk3' r3 st3' F3' N3'
                obtain ⟨q3, rfl, e3⟩ := r3
                (try dsimp only)
                (try k_fold)
                k_steps
                unfold Stop3
                k_dflt (refine' ne_same (e2.keep st3') (e3) ?ku ?_)
                case ku => ktr_units
                (try dsimp only)
                (try k_fold)
                k_steps
                unfold Stop3
                k_dflt (refine' useTH hw1 (widened_word _ _ _ _ x _ (Nat.le_trans hx (by decide))) ?k1 ?k2 ?k3 ?k4 ?k5 ?kK ?kp ?kd ?ku ?k9 ?_)
                (walk_at "my_use")
                k_whole
                intro q4 h4 tk4 e4 st4 F4 N4
                (try dsimp only)
                (try k_fold)
                k_steps
                unfold Stop3
                k_dflt (refine' useH (law_wide _ _ _ _ x _ hx) ?k1 ?k2 ?k3 ?k4 ?k5 ?kK ?kp ?kd ?ku ?k9 ?_)
                (walk_at "my_use")
                k_whole
                intro v5 h5' tk5' r5 st5 F5' N5'
                obtain ⟨q5, rfl, e5⟩ := r5
                (try dsimp only)
                (try k_fold)
                k_steps
                unfold Stop3
                k_dflt (refine' ne_same (e4.keep st5) (e5) ?ku ?_)
                case ku => ktr_units
                (try dsimp only)
                (try k_fold)
                k_steps
                unfold Stop3
                k_dflt (refine' useS (name_alone _ _ _ _ x _ (Nat.le_trans hx (by decide))) ?k1 ?k2 ?k3 ?k4 ?k5 ?kK ?kp ?kd ?ku ?k9 ?_)
                (walk_at "my_use")
                k_whole
                intro t7 h7 tk7 st7 F7 N7
                (try dsimp only)
                (try k_fold)
                k_steps
                unfold Stop3
                k_dflt (refine' useDH (law_alone _ _ _ _) ?k1 ?k2 ?k3 ?k4 ?k5 ?kK ?kp ?kd ?ku ?k9 ?_)
                (walk_at "my_use")
                k_whole
                intro d8 h8 tk8 e8 st8 F8 N8
                (try dsimp only)
                (try k_fold)
                k_steps
                unfold Stop3
                k_dflt (refine getMethod_strTab_get e8 ?_)
                (try dsimp only)
                (try k_fold)
                k_steps
                unfold Stop3
                k_dflt (refine' get_alone (y := nameF x) e8 hw2 ?_)
                intro t9
                (try dsimp only)
                (try k_fold)
                k_steps
                unfold Stop3
                k_dflt (refine ne_strS ?_)
                (try dsimp only)
                (try k_fold)
                k_steps
                refine' TEnd3.mk ?eF ?eN ?ec ?em
                case eF => assumption
                case eN => assumption
                case ec => omega
                case em => (intro y h1 h2 h3; simp only [if_neg h1, if_neg h2, if_neg h3])
              case rdone =>
                intro h tk c t z u v F N
                (try dsimp only)
                (try k_fold)
                k_steps
  all_goals fail "left"
end

end Mine
theorem PySem.Challenge.cw_nz0170_01_holds : PySem.Challenge.rw_nz0170_01.Holds :=
  Mine.lawT
#print axioms PySem.Challenge.cw_nz0170_01_holds
