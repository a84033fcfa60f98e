import PyProof.Rows.All
import Wide.All
import OpenK.AllK
import Wide.FinOn
import PySem.Challenge.RW_or0056_01
open PySem PySem.W PyProof.Rows
set_option Elab.async false
set_option maxRecDepth 100000
set_option maxHeartbeats 8000000
namespace Mine
theorem top.tw10023818074659062010 : True := trivial
theorem top.tw10064567891944019422 : True := trivial
theorem top.tw10094127352394778022 : True := trivial
theorem top.tw10094775956839617091 : True := trivial
theorem top.tw10113966705711667590 : True := trivial
theorem top.tw10116607050267877661 : True := trivial
theorem top.tw10125694090793629789 : True := trivial
theorem top.tw10185157870882700685 : True := trivial
theorem top.tw10216438505340515243 : True := trivial
theorem top.tw10252250511457427941 : True := trivial
theorem top.tw10266395040114263243 : True := trivial
theorem top.tw10269832723537093154 : True := trivial
theorem top.tw10301480805130757123 : True := trivial
theorem top.tw10315134021498988727 : True := trivial
theorem top.tw10344659599643834844 : True := trivial
theorem top.tw10353023159210366363 : True := trivial
theorem top.tw10372316881680602888 : True := trivial
theorem top.tw10413641080735490514 : True := trivial
theorem top.tw10446462859148636201 : True := trivial
theorem top.tw10490925522621987433 : True := trivial
theorem top.tw1057471147340941411 : True := trivial
theorem top.tw10575976825882404800 : True := trivial
theorem top.tw10637111002932187237 : True := trivial
theorem top.tw10683072833917976555 : True := trivial
theorem top.tw10683872573383578423 : True := trivial
theorem top.tw10746717241127337953 : True := trivial
theorem top.tw1076204760519074908 : True := trivial
theorem top.tw10830453342527196332 : True := trivial
theorem top.tw10872677623182028877 : True := trivial
theorem top.tw10878784321510476451 : True := trivial
theorem top.tw10879392622915422139 : True := trivial
theorem top.tw10899546732053312582 : True := trivial
theorem top.tw11049975453304834691 : True := trivial
theorem top.tw1107975661235413375 : True := trivial
theorem top.tw11151382553424251829 : True := trivial
theorem top.tw11168335882710346419 : True := trivial
theorem top.tw11205408938705365373 : True := trivial
theorem top.tw11295624337867842641 : True := trivial
theorem top.tw11397530902666755759 : True := trivial
theorem top.tw11441350044921911558 : True := trivial
theorem top.tw11464853819268194884 : True := trivial
theorem top.tw1151513650246637528 : True := trivial
theorem top.tw11558108120824163172 : True := trivial
theorem top.tw11590033786329360419 : True := trivial
theorem top.tw11689098537348711015 : True := trivial
theorem top.tw11740605671245408464 : True := trivial
theorem top.tw11750636446007010667 : True := trivial
theorem top.tw11755210646492608419 : True := trivial
theorem top.tw11764059753427524206 : True := trivial
theorem top.tw11772068763412144030 : True := trivial
theorem top.tw11772760410728972569 : True := trivial
theorem top.tw11799956174659642157 : True := trivial
theorem top.tw11809375909107177527 : True := trivial
theorem top.tw11840879517427688753 : True := trivial
theorem top.tw11862941994232050270 : True := trivial
theorem top.tw11983075495106319775 : True := trivial
theorem top.tw1199007276324587460 : True := trivial
theorem top.tw12057949763279724330 : True := trivial
theorem top.tw1206244698954701235 : True := trivial
theorem top.tw12100972986506586518 : True := trivial
theorem top.tw12127893188606231988 : True := trivial
theorem top.tw12130658692478505421 : True := trivial
theorem top.tw12153740154942875073 : True := trivial
theorem top.tw12164147836124403651 : True := trivial
theorem top.tw12306389523577530880 : True := trivial
theorem top.tw12472922532343263186 : True := trivial
theorem top.tw12478470824336903353 : True := trivial
theorem top.tw12516235423898869633 : True := trivial
theorem top.tw12548123292145046942 : True := trivial
theorem top.tw12573065508217699205 : True := trivial
theorem top.tw12574539665024604865 : True := trivial
theorem top.tw12659968313517964609 : True := trivial
theorem top.tw12697307447024912965 : True := trivial
theorem top.tw12704732604636651920 : True := trivial
theorem top.tw12787960464215440692 : True := trivial
theorem top.tw12793767779293054935 : True := trivial
theorem top.tw12937238703331561037 : True := trivial
theorem top.tw12970044609634164584 : True := trivial
theorem top.tw13068721794362507485 : True := trivial
theorem top.tw13072405209208779801 : True := trivial
theorem top.tw13101068184568954145 : True := trivial
theorem top.tw13219275894170161656 : True := trivial
theorem top.tw13255016901085245058 : True := trivial
theorem top.tw13271789955828322381 : True := trivial
theorem top.tw13300107460247189200 : True := trivial
theorem top.tw13321388925346258302 : True := trivial
theorem top.tw13386326636096728404 : True := trivial
theorem top.tw13422980662291186692 : True := trivial
theorem top.tw1342423796911883442 : True := trivial
theorem top.tw13424323386225855305 : True := trivial
theorem top.tw13450452731448687968 : True := trivial
theorem top.tw13464878084468846640 : True := trivial
theorem top.tw13501122532101169793 : True := trivial
theorem top.tw13520229997553339254 : True := trivial
theorem top.tw13571577913516018960 : True := trivial
theorem top.tw13627346679956439724 : True := trivial
theorem top.tw13636224859202960548 : True := trivial
theorem top.tw13651525255792016430 : True := trivial
theorem top.tw13689420564748906846 : True := trivial
theorem top.tw13729261848128444832 : True := trivial
theorem top.tw13748384880462992304 : True := trivial
theorem top.tw13926188149175630409 : True := trivial
theorem top.tw13977682410841325953 : True := trivial
theorem top.tw14010603644607402287 : True := trivial
theorem top.tw14016498332541871313 : True := trivial
theorem top.tw14033434718358240927 : True := trivial
theorem top.tw14064232673624872926 : True := trivial
theorem top.tw14094822746306891185 : True := trivial
theorem top.tw14099976408035168563 : True := trivial
theorem top.tw14216771134277992127 : True := trivial
theorem top.tw1421760677092936799 : True := trivial
theorem top.tw14289524842787218356 : True := trivial
theorem top.tw14342109938030741215 : True := trivial
theorem top.tw14371435436696713502 : True := trivial
theorem top.tw14478450459955060945 : True := trivial
theorem top.tw14577877229707739750 : True := trivial
theorem top.tw14655818552109145097 : True := trivial
theorem top.tw14662890846660783354 : True := trivial
theorem top.tw14695908875703101673 : True := trivial
theorem top.tw14777441287662360050 : True := trivial
theorem top.tw1483352278270511012 : True := trivial
theorem top.tw14845389947700653181 : True := trivial
theorem top.tw14846515932413606841 : True := trivial
theorem top.tw14879723315750836159 : True := trivial
theorem top.tw14890772188223647889 : True := trivial
theorem top.tw14922861112683784817 : True := trivial
theorem top.tw14927557008961811335 : True := trivial
theorem top.tw149359795532308849 : True := trivial
theorem top.tw14936008195319440449 : True := trivial
theorem top.tw14945664044275154535 : True := trivial
theorem top.tw14958260452775158468 : True := trivial
theorem top.tw14974696544624393764 : True := trivial
theorem top.tw14985602954288780464 : True := trivial
theorem top.tw15010492188614157639 : True := trivial
theorem top.tw15025058144227051984 : True := trivial
theorem top.tw15130247113678638360 : True := trivial
theorem top.tw1513451477387618871 : True := trivial
theorem top.tw15170452248111968637 : True := trivial
theorem top.tw15196609684749482546 : True := trivial
theorem top.tw15222774118181000969 : True := trivial
theorem top.tw15289214000352292420 : True := trivial
theorem top.tw15325725582500904479 : True := trivial
theorem top.tw15343576557154706307 : True := trivial
theorem top.tw15379203083316285735 : True := trivial
theorem top.tw15399128692764829101 : True := trivial
theorem top.tw1549498835118122739 : True := trivial
theorem top.tw15565090170751649979 : True := trivial
theorem top.tw15582810551144962103 : True := trivial
theorem top.tw15599604829002248002 : True := trivial
theorem top.tw15758672991602865490 : True := trivial
theorem top.tw15772300165772501877 : True := trivial
theorem top.tw15821210999257935946 : True := trivial
theorem top.tw15910831484182612966 : True := trivial
theorem top.tw15939565867637931402 : True := trivial
theorem top.tw15958745492137340101 : True := trivial
theorem top.tw16021447913844595605 : True := trivial
theorem top.tw16112017829633521661 : True := trivial
theorem top.tw16116155655272585901 : True := trivial
theorem top.tw16163669297360412805 : True := trivial
theorem top.tw16174617771981550087 : True := trivial
theorem top.tw16211781796649945314 : True := trivial
theorem top.tw16275252184621502098 : True := trivial
theorem top.tw16329681757468571779 : True := trivial
theorem top.tw16360720512230040619 : True := trivial
theorem top.tw1651036560984277217 : True := trivial
theorem top.tw16520384516384949453 : True := trivial
theorem top.tw16550225107361554897 : True := trivial
theorem top.tw16606637367755523077 : True := trivial
theorem top.tw16653037511519064832 : True := trivial
theorem top.tw16695472142079130851 : True := trivial
theorem top.tw1671735434632393726 : True := trivial
theorem top.tw16737428120552173829 : True := trivial
theorem top.tw16760232231118547535 : True := trivial
theorem top.tw16768898306379534405 : True := trivial
theorem top.tw16784256948165222576 : True := trivial
theorem top.tw16793712697543626159 : True := trivial
theorem top.tw16826448670776688622 : True := trivial
theorem top.tw16835871174150145657 : True := trivial
theorem top.tw17063713123442346526 : True := trivial
theorem top.tw1706842095784090058 : True := trivial
theorem top.tw1711236486065477726 : True := trivial
theorem top.tw17144995644571443998 : True := trivial
theorem top.tw17147219934553587404 : True := trivial
theorem top.tw17214107612004072782 : True := trivial
theorem top.tw17324626741769402485 : True := trivial
theorem top.tw1732822212921388411 : True := trivial
theorem top.tw17365072644657827768 : True := trivial
theorem top.tw17485772660776365674 : True := trivial
theorem top.tw17538580352498159460 : True := trivial
theorem top.tw17648600266314843059 : True := trivial
theorem top.tw17666542892246825471 : True := trivial
theorem top.tw17682342079625204377 : True := trivial
theorem top.tw17766811063973313072 : True := trivial
theorem top.tw17800885236249473401 : True := trivial
theorem top.tw17831851951975936584 : True := trivial
theorem top.tw17883141194614918969 : True := trivial
theorem top.tw179025824724705497 : True := trivial
theorem top.tw17917109272019007936 : True := trivial
theorem top.tw1794533964175381633 : True := trivial
theorem top.tw18007407999109220502 : True := trivial
theorem top.tw18046067639150654112 : True := trivial
theorem top.tw18075393656390974030 : True := trivial
theorem top.tw18103928409814552729 : True := trivial
theorem top.tw18114194110962828757 : True := trivial
theorem top.tw18139277535151724120 : True := trivial
theorem top.tw18143724594246033138 : True := trivial
theorem top.tw18154281326688299016 : True := trivial
theorem top.tw18168632057575294206 : True := trivial
theorem top.tw1823835924044929606 : True := trivial
theorem top.tw18258167792334484509 : True := trivial
theorem top.tw183275020382157588 : True := trivial
theorem top.tw18352863314509411511 : True := trivial
theorem top.tw185666983695434800 : True := trivial
theorem top.tw1892582927896556908 : True := trivial
theorem top.tw1930753910741467332 : True := trivial
theorem top.tw1988402608144907684 : True := trivial
theorem top.tw2027225552370902312 : True := trivial
theorem top.tw2029482456618982893 : True := trivial
theorem top.tw2181019853573968915 : True := trivial
theorem top.tw2191880870492926132 : True := trivial
theorem top.tw2236921909704525570 : True := trivial
theorem top.tw2241391650033199151 : True := trivial
theorem top.tw2266132144794048648 : True := trivial
theorem top.tw2311410861510010758 : True := trivial
theorem top.tw2315312193960313265 : True := trivial
theorem top.tw2384065042957494254 : True := trivial
theorem top.tw2425211933658263570 : True := trivial
theorem top.tw2440431444771154000 : True := trivial
theorem top.tw2452485115184198840 : True := trivial
theorem top.tw2521698325115618641 : True := trivial
theorem top.tw2682673337185283240 : True := trivial
theorem top.tw2695214149996350245 : True := trivial
theorem top.tw2752072764377643160 : True := trivial
theorem top.tw275846519125344057 : True := trivial
theorem top.tw2797365027233119236 : True := trivial
theorem top.tw280164494673769641 : True := trivial
theorem top.tw2801878416450277322 : True := trivial
theorem top.tw2809060864796552764 : True := trivial
theorem top.tw2867611196979017238 : True := trivial
theorem top.tw2910584641731191253 : True := trivial
theorem top.tw2920342317405542028 : True := trivial
theorem top.tw2951897051852756878 : True := trivial
theorem top.tw2956702293460366024 : True := trivial
theorem top.tw3180407423802442954 : True := trivial
theorem top.tw3191899913097709853 : True := trivial
theorem top.tw3209213651011471527 : True := trivial
theorem top.tw3287432149399408392 : True := trivial
theorem top.tw3309727541757648368 : True := trivial
theorem top.tw3353231343088588329 : True := trivial
theorem top.tw3402869771943903221 : True := trivial
theorem top.tw3455154623454801855 : True := trivial
theorem top.tw3508647736234723856 : True := trivial
theorem top.tw352292288757885249 : True := trivial
theorem top.tw3586766802130009805 : True := trivial
theorem top.tw3619260133633007601 : True := trivial
theorem top.tw3637407560739501602 : True := trivial
theorem top.tw3664467170328025040 : True := trivial
theorem top.tw3665414808364594430 : True := trivial
theorem top.tw3685630038301317828 : True := trivial
theorem top.tw3688376145456673580 : True := trivial
theorem top.tw3741676147689664242 : True := trivial
theorem top.tw3776294187397042802 : True := trivial
theorem top.tw3796244021294292880 : True := trivial
theorem top.tw383025253336472607 : True := trivial
theorem top.tw3831524267348243001 : True := trivial
theorem top.tw3843376071341738953 : True := trivial
theorem top.tw3852656686966103221 : True := trivial
theorem top.tw4028321991173639969 : True := trivial
theorem top.tw406875958476590516 : True := trivial
theorem top.tw4084916208488737296 : True := trivial
theorem top.tw408990028562774510 : True := trivial
theorem top.tw4123909307250169414 : True := trivial
theorem top.tw4139480144655709072 : True := trivial
theorem top.tw4214232419395857879 : True := trivial
theorem top.tw4255241139974763217 : True := trivial
theorem top.tw426863033190839976 : True := trivial
theorem top.tw4358205214569608661 : True := trivial
theorem top.tw4416799564132192727 : True := trivial
theorem top.tw4508567299986049931 : True := trivial
theorem top.tw4522212957597209986 : True := trivial
theorem top.tw4525933729342753379 : True := trivial
theorem top.tw4564356342489742802 : True := trivial
theorem top.tw4572488665029357801 : True := trivial
theorem top.tw4621351600349503368 : True := trivial
theorem top.tw462610060872826127 : True := trivial
theorem top.tw4679277303125203374 : True := trivial
theorem top.tw4683997843967391512 : True := trivial
theorem top.tw4730633924038612677 : True := trivial
theorem top.tw4749231712789258598 : True := trivial
theorem top.tw4779785710940815293 : True := trivial
theorem top.tw4943039756635696131 : True := trivial
theorem top.tw4950133103464178499 : True := trivial
theorem top.tw4986846814000716233 : True := trivial
theorem top.tw5005801379097483014 : True := trivial
theorem top.tw5079763037612295364 : True := trivial
theorem top.tw5082598384989711338 : True := trivial
theorem top.tw508885227101991762 : True := trivial
theorem top.tw5146496850023015414 : True := trivial
theorem top.tw5154055346104468672 : True := trivial
theorem top.tw5178635925454558381 : True := trivial
theorem top.tw5192089888052727710 : True := trivial
theorem top.tw52061882145203251 : True := trivial
theorem top.tw5219105075599462062 : True := trivial
theorem top.tw529513953842698610 : True := trivial
theorem top.tw5353462750931653692 : True := trivial
theorem top.tw542170699395766178 : True := trivial
theorem top.tw5498339873828681155 : True := trivial
theorem top.tw5505065662657509134 : True := trivial
theorem top.tw5548281345936151342 : True := trivial
theorem top.tw5568560378518637217 : True := trivial
theorem top.tw5662946755359122336 : True := trivial
theorem top.tw5728271315705703594 : True := trivial
theorem top.tw5737281625479121069 : True := trivial
theorem top.tw5769004878370311991 : True := trivial
theorem top.tw5920778012179170427 : True := trivial
theorem top.tw5976834729595378235 : True := trivial
theorem top.tw6005948727298620519 : True := trivial
theorem top.tw6046990336204646576 : True := trivial
theorem top.tw6059609868454149758 : True := trivial
theorem top.tw6098375387699134171 : True := trivial
theorem top.tw6150606570583219751 : True := trivial
theorem top.tw6182488239488374414 : True := trivial
theorem top.tw6190924425384258061 : True := trivial
theorem top.tw6295133969260993224 : True := trivial
theorem top.tw6297832785626498593 : True := trivial
theorem top.tw6339904844525011998 : True := trivial
theorem top.tw6353244835197395680 : True := trivial
theorem top.tw637280053992466584 : True := trivial
theorem top.tw637797095876802216 : True := trivial
theorem top.tw6409404894225712546 : True := trivial
theorem top.tw6423259651972170407 : True := trivial
theorem top.tw6440995846615590171 : True := trivial
theorem top.tw6443905064233194984 : True := trivial
theorem top.tw6490125557980178309 : True := trivial
theorem top.tw6536501985447075396 : True := trivial
theorem top.tw6541750589833601232 : True := trivial
theorem top.tw6575784210154809083 : True := trivial
theorem top.tw6591047369792434800 : True := trivial
theorem top.tw6598422890692862084 : True := trivial
theorem top.tw6628569398598015177 : True := trivial
theorem top.tw6646663964172439597 : True := trivial
theorem top.tw6667628039916486969 : True := trivial
theorem top.tw6747308149561895520 : True := trivial
theorem top.tw675077253962027742 : True := trivial
theorem top.tw6805131962324956894 : True := trivial
theorem top.tw6832294905438789578 : True := trivial
theorem top.tw6884482687721452562 : True := trivial
theorem top.tw6927100017027548546 : True := trivial
theorem top.tw6939325617184942268 : True := trivial
theorem top.tw6956828031273020711 : True := trivial
theorem top.tw7028492660618871856 : True := trivial
theorem top.tw7028793783468953155 : True := trivial
theorem top.tw7092507168976708779 : True := trivial
theorem top.tw7112397520519986384 : True := trivial
theorem top.tw7152739109140741552 : True := trivial
theorem top.tw7186631317436968675 : True := trivial
theorem top.tw7219786114333419545 : True := trivial
theorem top.tw7226648882496947356 : True := trivial
theorem top.tw731193698657744651 : True := trivial
theorem top.tw7332474730392440328 : True := trivial
theorem top.tw7399828339447463699 : True := trivial
theorem top.tw7407027647098308468 : True := trivial
theorem top.tw7430335275161205157 : True := trivial
theorem top.tw7475401889144176376 : True := trivial
theorem top.tw7511427495810782309 : True := trivial
theorem top.tw7638097222780265517 : True := trivial
theorem top.tw77249872647676419 : True := trivial
theorem top.tw7791322203180925110 : True := trivial
theorem top.tw7816910272019392847 : True := trivial
theorem top.tw7877756520068503121 : True := trivial
theorem top.tw7894701984180422987 : True := trivial
theorem top.tw7908190486044430832 : True := trivial
theorem top.tw7910050821868928888 : True := trivial
theorem top.tw7917069649277977847 : True := trivial
theorem top.tw7990288452948593272 : True := trivial
theorem top.tw8028053817621801920 : True := trivial
theorem top.tw8073031381631738330 : True := trivial
theorem top.tw8140873123128150402 : True := trivial
theorem top.tw8203816499804837257 : True := trivial
theorem top.tw8203822980389149546 : True := trivial
theorem top.tw8231969350796476245 : True := trivial
theorem top.tw8258729205755659224 : True := trivial
theorem top.tw8258894060185524102 : True := trivial
theorem top.tw8266731419363026121 : True := trivial
theorem top.tw8296947588445355997 : True := trivial
theorem top.tw8315417632429616861 : True := trivial
theorem top.tw8357844287138951621 : True := trivial
theorem top.tw840995296942997719 : True := trivial
theorem top.tw8437273895218399743 : True := trivial
theorem top.tw8437835124937751269 : True := trivial
theorem top.tw8494643281246341598 : True := trivial
theorem top.tw8498670853947458069 : True := trivial
theorem top.tw8504315288640908444 : True := trivial
theorem top.tw85222257755031417 : True := trivial
theorem top.tw8525089967495478407 : True := trivial
theorem top.tw8548112208207899350 : True := trivial
theorem top.tw8564091407197625372 : True := trivial
theorem top.tw8607620008181260354 : True := trivial
theorem top.tw8618071764090850245 : True := trivial
theorem top.tw8688323045339486568 : True := trivial
theorem top.tw8711429920195474986 : True := trivial
theorem top.tw8766436578924122262 : True := trivial
theorem top.tw8817318196899505584 : True := trivial
theorem top.tw8843962029259265116 : True := trivial
theorem top.tw8871344646458058910 : True := trivial
theorem top.tw888932713508188656 : True := trivial
theorem top.tw8901580284038164772 : True := trivial
theorem top.tw8917946682252227627 : True := trivial
theorem top.tw8937864085960431399 : True := trivial
theorem top.tw8940603498665734798 : True := trivial
theorem top.tw9070504951750910394 : True := trivial
theorem top.tw9079462902029970129 : True := trivial
theorem top.tw9102093042435549141 : True := trivial
theorem top.tw9149184335975310922 : True := trivial
theorem top.tw916069828339881017 : True := trivial
theorem top.tw9186592549226600977 : True := trivial
theorem top.tw9198297423434369899 : True := trivial
theorem top.tw9203977392666424997 : True := trivial
theorem top.tw9299649485883558107 : True := trivial
theorem top.tw9395008986203344068 : True := trivial
theorem top.tw9418389719374317458 : True := trivial
theorem top.tw9433901638527149036 : True := trivial
theorem top.tw9501001602130117210 : True := trivial
theorem top.tw9636821566701565739 : True := trivial
theorem top.tw968755383849041601 : True := trivial
theorem top.tw9687752958218475674 : True := trivial
theorem top.tw9755643710369634387 : True := trivial
theorem top.tw9843969962099249254 : True := trivial
theorem top.tw9899774923764055371 : True := trivial
theorem top.tw9910268135016127745 : True := trivial
theorem top.tw9961153035494529380 : True := trivial
set_option Elab.async true in
theorem top : True := by
  first
  | (set_option Elab.async false in
     have h := (with_decl_name% Mine.top.hd (show PySem.Challenge.rw_or0056_01.Holds from by (w_on; o_law; k_head; fail) :))
     trivial)
  | trivial
#print axioms top
open_top top.hd for PySem.Challenge.rw_or0056_01
end Mine
open PySem PySem.W PySem.Calls PyProof.Rows PySem.Spec
set_option Elab.async false
set_option compiler.extract_closed false
set_option maxRecDepth 100000
set_option maxHeartbeats 4000000
namespace Mine
variable {w : World} {p : Program} {loose : List Str} {mean : ExcName → Option Value} {mg mb : Str → Option Value}
abbrev Led := List (Addr × Obj)
theorem mem_of {α : Type} {a : α} {l : List α} (h : a ∈ l) : List.Mem a l := h
def Stop (P : Prop) : Prop := P
theorem Stop.out {P : Prop} (h : Stop P) : P := h
theorem un_le {un a k N : Nat} (h : un + a < N) (hk : k ≤ a) : un + k < N := Nat.lt_of_le_of_lt (Nat.add_le_add_left hk un) h
theorem un_le0 {un a N : Nat} (h : un + a < N) : un < N := Nat.lt_of_le_of_lt (Nat.le_add_right un a) h
theorem stop_ref {w : World} {prog : Program} {A : Around} {E Q : Value → Shared → Prop} {s : Shared} {f : Nat} {args : List Value} {kw : List (Str × Value)} (_ : ([26, 94, 150, 155, 174, 181, 188, 193, 200, 207, 221, 269, 281, 296, 307, 314, 321, 326, 331, 343, 348, 355, 362, 369, 376, 383, 390] : List Nat).contains f = true)
    (h : Stop (wpAny (model prog w) A (call (.ref f) args kw) Q E s)) : wpAny (model prog w) A (call (.ref f) args kw) Q E s := h

/-- what a call of the def at f does: the caller's ledger «news», the answer and the ledger behind it -/
def Does (w : World) (p : Program) (loose : List Str) (mean : ExcName → Option Value) (mg mb : Str → Option Value) (need : Nat) (f : Addr) (args : List Value) (news : Led) (post : Value → Led → Prop) : Prop :=
  ∀ (dp un : Nat) (gd : Option (List Code)) (cn : Str) (cs : Scope) (a : Addr) (ccd : Value) (cl : List (Str × Addr)) (outer : List Env) (A₀ : Around) (base h₀ : Heap) (L : Addr) (m : Str → Option Value) (s : Shared) (Q E : Value → Shared → Prop),
    Below A₀ base outer h₀ → Fr h₀ L s.heap m → (top.hd.heap_39 w.params).In h₀ → News h₀ L s.heap news → Top p loose mean mg mb h₀ → cs.kind = .function →
    dp + need < recursionLimit → un + 8 * need < cLine →
    (∀ v news' h' tk', Fr h₀ L h' m → News h₀ L h' news' → post v news' → Q v { s with heap := h', toks := tk' }) →
    wpAny (model PySem.Challenge.rw_or0056_01.row.prog w) (ktrTop dp un gd cn cs L a ccd cl outer) (call (.ref f) args) Q E s

set_option genInjectivity false in
/-- a box's dict: what is not looked at -/
structure BoxE where
  mk ::
  (h0 : Int) (t0 : Tok) (v0 : Value) (h1 : Int) (t1 : Tok) (v1 : Value) (h2 : Int) (t2 u2 : Tok) (h3 : Int) (t3 u3 : Tok) (h4 : Int) (t4 : Tok) (v4 : Value) (h5 : Int) (t5 : Tok) (h6 : Int) (t6 : Tok)
abbrev boxObj (e : BoxE) (nu top : Int) (ls gn : Addr) : Obj := dictOf [⟨e.h0, .str "name" e.t0, e.v0⟩, ⟨e.h1, .str "validity" e.t1, e.v1⟩, ⟨e.h2, .str "next_uid" e.t2, .int nu e.u2⟩, ⟨e.h3, .str "top" e.t3, .int top e.u3⟩,
    ⟨e.h4, .str "floor" e.t4, e.v4⟩, ⟨e.h5, .str "letters" e.t5, .ref ls⟩, ⟨e.h6, .str "gone" e.t6, .ref gn⟩] 7
/-- a box's dict -/
def BoxD (nu top : Int) (ls gn : Addr) (o : Obj) : Prop := ∃ e : BoxE, o = boxObj e nu top ls gn
theorem BoxD.of {h0 : Int} {t0 : Tok} {v0 : Value} {h1 : Int} {t1 : Tok} {v1 : Value} {h2 : Int} {t2 u2 : Tok} {h3 : Int} {t3 u3 : Tok} {h4 : Int} {t4 : Tok} {v4 : Value} {h5 : Int} {t5 : Tok} {h6 : Int} {t6 : Tok} {nu top : Int} {ls gn : Addr} :
    BoxD nu top ls gn (dictOf [⟨h0, .str "name" t0, v0⟩, ⟨h1, .str "validity" t1, v1⟩, ⟨h2, .str "next_uid" t2, .int nu u2⟩, ⟨h3, .str "top" t3, .int top u3⟩,
    ⟨h4, .str "floor" t4, v4⟩, ⟨h5, .str "letters" t5, .ref ls⟩, ⟨h6, .str "gone" t6, .ref gn⟩] 7) := ⟨⟨h0, t0, v0, h1, t1, v1, h2, t2, u2, h3, t3, u3, h4, t4, v4, h5, t5, h6, t6⟩, rfl⟩
abbrev tupOf (its : Array Value) (n : Nat) : Obj := { cls := .type "tuple", data := .seq its n }
set_option genInjectivity false in
structure LetE where
  mk ::
  (h0 : Int) (t0 tu : Tok) (h1 : Int) (t1 : Tok) (b1 : Array UInt8) (tb : Tok) (h2 : Int) (t2 : Tok) (h3 : Int) (t3 : Tok) (i3 : Int) (ti : Tok) (h4 : Int) (t4 : Tok) (ms : Int) (tm : Tok)
abbrev letObj (e : LetE) (u : Int) (fl : Addr) : Obj := dictOf [⟨e.h0, .str "uid" e.t0, .int u e.tu⟩, ⟨e.h1, .str "octets" e.t1, .bytes e.b1 e.tb⟩, ⟨e.h2, .str "flags" e.t2, .ref fl⟩, ⟨e.h3, .str "instant" e.t3, .int e.i3 e.ti⟩, ⟨e.h4, .str "modseq" e.t4, .int e.ms e.tm⟩] 5
/-- a letter's dict -/
def LetD (u : Int) (fl : Addr) (o : Obj) : Prop := ∃ e : LetE, o = letObj e u fl
theorem LetD.of {h0 : Int} {t0 tu : Tok} {h1 : Int} {t1 : Tok} {b1 : Array UInt8} {tb : Tok} {h2 : Int} {t2 : Tok} {h3 : Int} {t3 : Tok} {i3 : Int} {ti : Tok} {h4 : Int} {t4 : Tok} {ms : Int} {tm : Tok} {u : Int} {fl : Addr} :
    LetD u fl (dictOf [⟨h0, .str "uid" t0, .int u tu⟩, ⟨h1, .str "octets" t1, .bytes b1 tb⟩, ⟨h2, .str "flags" t2, .ref fl⟩, ⟨h3, .str "instant" t3, .int i3 ti⟩, ⟨h4, .str "modseq" t4, .int ms tm⟩] 5) := ⟨⟨h0, t0, tu, h1, t1, b1, tb, h2, t2, h3, t3, i3, ti, h4, t4, ms, tm⟩, rfl⟩
def LetAt (news : Led) (u : Int) (v : Value) : Prop := ∃ a d od fl nf, v = .ref a ∧ (a, instObj 125 d) ∈ news ∧ (d, od) ∈ news ∧ LetD u fl od ∧ (fl, tupOf #[] nf) ∈ news
/-- a list's items are letters with these uids -/
inductive Lets (news : Led) : List Value → List Int → Prop
  | nil : Lets news [] []
  | cons {v : Value} {u : Int} {vs : List Value} {us : List Int} : LetAt news u v → Lets news vs us → Lets news (v :: vs) (u :: us)
/-- the law's line of numbers: the cells, the place, the seed -/
def LineO (cl : Addr) (o : Obj) : Prop := ∃ pp tp q tq n, o = listOf #[.ref cl, .int pp tp, .int q tq] n ∧ 0 ≤ pp ∧ 0 ≤ q ∧ q < 2147483647
/-- a list of ints stands there -/
def IntL (news : Led) (a : Addr) (ns : List Int) : Prop := ∃ vs n, (a, listOf (List.toArray vs) n) ∈ news ∧ IntsAre vs ns

section
variable {prog : Program} {A : Around} {E : Value → Shared → Prop} {s : Shared} {env : Env} {h₀ : Heap} {x : Str} {body : List Stmt} {Q : Flow → Shared → Prop}

/-- a turn's end: the iterator stands, the word holds -/
def TEnd (h₀ : Heap) (L : Addr) (J : (Str → Option Value) → Led → Prop) (I : Addr) (io : Obj) (s₁ s₂ : Shared) : Prop :=
  ∃ h' tk m' nx, s₂ = { s₁ with heap := h', toks := tk } ∧ Fr h₀ L h' m' ∧ News h₀ L h' ((I, io) :: nx) ∧ (∀ p ∈ nx, p.1 ≠ I) ∧ J m' nx
def TPost (h₀ : Heap) (L : Addr) (J : (Str → Option Value) → Led → Prop) (I : Addr) (io : Obj) (s₁ : Shared) (Q : Flow → Shared → Prop) (f : Flow) (s₂ : Shared) : Prop :=
  match f with
  | .ret v => Q (.ret v) s₂
  | .brk => Q .next s₂
  | _ => TEnd h₀ L J I io s₁ s₂
theorem TEnd.intro {L I : Addr} {io : Obj} {J : (Str → Option Value) → Led → Prop} {m' : Str → Option Value} {nx : Led} {s₁ : Shared} {h' : Heap} {tk : Nat} (F : Fr h₀ L h' m') (N : News h₀ L h' ((I, io) :: nx)) (hn : ∀ p ∈ nx, p.1 ≠ I) (hj : J m' nx) :
    TEnd h₀ L J I io s₁ { s₁ with heap := h', toks := tk } := ⟨h', tk, m', nx, rfl, F, N, hn, hj⟩

theorem news_sub {h₀ h : Heap} {L : Addr} {l l' : Led} (N : News h₀ L h l) (hs : ∀ p ∈ l', p ∈ l) : News h₀ L h l' := fun p hp => N p (hs p hp)

theorem iter_led {l : Addr} {vs : List Value} {n : Nat} {m₀ : Str → Option Value} {news : Led} (J : Nat → (Str → Option Value) → Led → Prop)
    (hh : A.handled = none) (F : Fr h₀ env.locals s.heap m₀) (N : News h₀ env.locals s.heap news) (hl : (l, listOf vs.toArray n) ∈ news) (hj : J 0 m₀ news) (hJ : ∀ i m nx, J i m nx → (l, listOf vs.toArray n) ∈ nx)
    (turn : ∀ i v m₁ nx h tk I io, vs[i]? = some v → (∀ p ∈ news, p.1 < I) → (∀ p ∈ nx, p.1 ≠ I) → J i m₁ nx → Fr h₀ env.locals h (fun y => if y = x then some v else m₁ y) → News h₀ env.locals h ((I, io) :: nx) →
      wpAny (model prog w) A (execs body env) (TPost h₀ env.locals (J (i + 1)) I io { s with heap := h, toks := tk } Q) E { s with heap := h, toks := tk })
    (done : ∀ m₁ nx h tk, J vs.length m₁ nx → Fr h₀ env.locals h m₁ → News h₀ env.locals h nx → Q .next { s with heap := h, toks := tk }) :
    wpAny (model prog w) A (pyIter (.ref l)) (fun it s₂ => LoopAtV prog w A h₀ env x body Q E it s₂) E s := by
  have hls : s.heap.IsList l vs.toArray := News.isList N hl
  have hlt : l < s.heap.objs.size := Heap.lt_size (N _ hl).1
  have hne : l ≠ s.heap.objs.size := Nat.ne_of_lt hlt
  refine wpAny_pyIter_list hls ?_
  have W := Walks.list (prog := prog) (w := w) hh s.heap.objs.size l hne vs.toArray
  rw [List.size_toArray] at W
  let J' : Nat → (Str → Option Value) → Led → Prop := fun i m nx => J i m nx
  refine ⟨s.heap.objs.size, _, _, vs.length, _, _, m₀, news, J', rfl, W, ?_, ?_, ?_, ⟨⟨_, Heap.get?_push_size _ rfl, rfl, rfl⟩, hls.at fun o e => Heap.get?_push_of_some _ e⟩, F.push _, (fun p hp => ⟨Heap.get?_push_of_some _ (N p hp).1, (N p hp).2⟩), hj, ?_, ?_⟩
  · intro hm
    rcases List.mem_cons.mp hm with e | hm
    · exact absurd F.ns.lt (e ▸ Nat.lt_irrefl _)
    · exact (N _ hl).2.1 (List.mem_singleton.mp hm).symm
  · intro b hb
    rw [List.mem_singleton.mp hb]
    exact next_is_new F
  · intro p hp hI
    exact absurd (Heap.lt_size (N p hp).1) ((List.mem_singleton.mp hI) ▸ Nat.lt_irrefl _)
  · rintro i v m₁ nx s₁ own ⟨hh', tk', rfl⟩ hin hP hJ' hoff hown hget hall hst F₁ N₁
    obtain ⟨⟨oi, hoi, _⟩, _⟩ := hst
    have hio : (s.heap.objs.size, oi) ∈ own := hall _ (List.mem_cons.mpr (.inl rfl)) (next_is_new F) oi hoi
    have hv : vs[i]? = some v := by simpa using hP
    have hoff' : ∀ p ∈ nx, p.1 ≠ s.heap.objs.size := fun p hp e => hoff p hp (List.mem_singleton.mpr e)
    have N₂ : News h₀ env.locals hh' ((s.heap.objs.size, oi) :: nx) := fun p hp => by
      rcases List.mem_cons.mp hp with rfl | hp
      · exact N₁ _ (List.mem_append_left _ hio)
      · exact N₁ _ (List.mem_append_right _ hp)
    refine wpAny_mono (turn i v m₁ nx hh' tk' s.heap.objs.size oi hv (fun p hp => Heap.lt_size (N p hp).1) hoff' hJ' F₁ N₂) (fun f s₂ p => ?_) fun _ _ e => e
    have fin : TEnd h₀ env.locals (J (i + 1)) s.heap.objs.size oi { s with heap := hh', toks := tk' } s₂ → LoopStepU h₀ env.locals [s.heap.objs.size] own (J' (i + 1)) { s with heap := hh', toks := tk' } .next s₂ := by
      rintro ⟨h', tk, m', nx', e, F', N', ha, hj'⟩
      refine ⟨rfl, h', tk, m', nx', e, F', fun p hp => ?_, fun p hp hq => ha p hp (List.mem_singleton.mp hq), hj'⟩
      rcases List.mem_append.mp hp with hp | hp
      · rcases List.mem_cons.mp (hown p hp) with h1 | h1
        · have h2 : p = (s.heap.objs.size, oi) := by
            have h3 := hget p hp
            rw [h1] at h3
            have h4 : p.2 = oi := by
              have h5 : some oi = some p.2 := by rw [← h3]; exact hoi.symm
              exact (Option.some.inj h5).symm
            exact Prod.ext h1 h4
          rw [h2]
          exact N' _ (.head _)
        · have h1 := List.mem_singleton.mp h1
          have hln := hJ _ _ _ hj'
          have hl₁ := hJ _ _ _ hJ'
          have h3 := hget p hp
          have h4 := (N₁ _ (List.mem_append_right _ hl₁)).1
          have h2 : p = (l, listOf vs.toArray n) := by
            rw [h1] at h3
            exact Prod.ext h1 (Option.some.inj (h3.symm.trans h4))
          rw [h2]
          exact N' _ (.tail _ hln)
      · exact N' _ (.tail _ hp)
    cases f with
    | ret v => exact .ret p
    | brk => exact .brk p
    | next => exact .next (fin p)
    | cont => exact .cont (fin p)
  · rintro h' tk m' news' F' N' _ hJ'
    exact done m' news' h' tk hJ' F' N'

theorem iter_rngC {r : Addr} {a₀ b₀ : Int} {t₀ u₀ v₀ : Tok} {n : Nat} {m₀ : Str → Option Value} {news : Led} (J : Nat → (Str → Option Value) → Led → Prop)
    (hh : A.handled = none) (hr : IsRange s.heap r a₀ b₀ 1 t₀ u₀ v₀) (hsmall : Builtin.Range.small a₀ b₀ 1 = true) (hn : Builtin.Range.rangeSize a₀ b₀ 1 = (n : Int)) (F : Fr h₀ env.locals s.heap m₀) (N : News h₀ env.locals s.heap news) (hj : J 0 m₀ news)
    (turn : ∀ i t m₁ nx h tk I io, i < n → (∀ p ∈ news, p.1 < I) → (∀ p ∈ nx, p.1 ≠ I) → io.cls = .type "range_iterator" → J i m₁ nx → Fr h₀ env.locals h (fun y => if y = x then some (.int (a₀ + (i : Int)) t) else m₁ y) → News h₀ env.locals h ((I, io) :: nx) →
      wpAny (model prog w) A (execs body env) (TPost h₀ env.locals (J (i + 1)) I io { s with heap := h, toks := tk } Q) E { s with heap := h, toks := tk })
    (done : ∀ m₁ nx h tk, J n m₁ nx → Fr h₀ env.locals h m₁ → News h₀ env.locals h nx → Q .next { s with heap := h, toks := tk }) :
    wpAny (model prog w) A (pyIter (.ref r)) (fun it s₂ => LoopAtV prog w A h₀ env x body Q E it s₂) E s := by
  refine wpAny_pyIter_range hr hsmall ?_
  have W : Walks prog w A s.heap.objs.size [s.heap.objs.size] [s.heap.objs.size] n (fun i v => i < n ∧ ∃ t, v = .int (a₀ + i * 1) t)
      (fun i h => IsRangeIter h s.heap.objs.size (a₀ + (i : Nat) * 1) ((n : Int) - (i : Nat)) 1) := (Walks.range hh _ a₀ 1 n).bound
  let J' : Nat → (Str → Option Value) → Led → Prop := fun i m nx => J i m nx
  refine ⟨s.heap.objs.size, _, _, n, _, _, m₀, news, J', rfl, W, ?_, ?_, ?_, (by show IsRangeIter _ _ _ _ _; rw [hn]; simpa using Heap.get?_push_size _ rfl), F.push _, (fun p hp => ⟨Heap.get?_push_of_some _ (N p hp).1, (N p hp).2⟩), hj, ?_, ?_⟩
  · intro hm
    exact absurd F.ns.lt ((List.mem_singleton.mp hm) ▸ Nat.lt_irrefl _)
  · intro b hb
    rw [List.mem_singleton.mp hb]
    exact next_is_new F
  · intro p hp hI
    exact absurd (Heap.lt_size (N p hp).1) ((List.mem_singleton.mp hI) ▸ Nat.lt_irrefl _)
  · rintro i v m₁ nx s₁ own ⟨hh', tk', rfl⟩ hin ⟨_, t, rfl⟩ hJ' hoff hown hget hall hst F₁ N₁
    obtain ⟨oi, hoi⟩ : ∃ oi, hh'.get? s.heap.objs.size = some oi := ⟨_, hst⟩
    have hcls : oi.cls = .type "range_iterator" := by
      have e := hoi.symm.trans hst
      injection e with e
      rw [e]
    have hio := hall _ (List.mem_singleton.mpr rfl) (next_is_new F) oi hoi
    have hoff' : ∀ p ∈ nx, p.1 ≠ s.heap.objs.size := fun p hp e => hoff p hp (List.mem_singleton.mpr e)
    have N₂ : News h₀ env.locals hh' ((s.heap.objs.size, oi) :: nx) := fun p hp => by
      rcases List.mem_cons.mp hp with rfl | hp
      · exact N₁ _ (List.mem_append_left _ hio)
      · exact N₁ _ (List.mem_append_right _ hp)
    have e1 : a₀ + (i : Int) * 1 = a₀ + (i : Int) := by omega
    rw [e1] at F₁
    refine wpAny_mono (turn i t m₁ nx hh' tk' s.heap.objs.size oi hin (fun p hp => Heap.lt_size (N p hp).1) hoff' hcls hJ' F₁ N₂) (fun f s₂ p => ?_) fun _ _ e => e
    have fin : TEnd h₀ env.locals (J (i + 1)) s.heap.objs.size oi { s with heap := hh', toks := tk' } s₂ → LoopStepU h₀ env.locals [s.heap.objs.size] own (J' (i + 1)) { s with heap := hh', toks := tk' } .next s₂ := by
      rintro ⟨h', tk, m', nx', e, F', N', ha, hj'⟩
      refine ⟨rfl, h', tk, m', nx', e, F', fun p hp => ?_, fun p hp hq => ha p hp (List.mem_singleton.mp hq), hj'⟩
      rcases List.mem_append.mp hp with hp | hp
      · have h1 := List.mem_singleton.mp (hown p hp)
        have h3 := hget p hp
        rw [h1] at h3
        have h2 : p = (s.heap.objs.size, oi) := Prod.ext h1 (Option.some.inj (h3.symm.trans hoi))
        rw [h2]
        exact N' _ (.head _)
      · exact N' _ (.tail _ hp)
    cases f with
    | ret v => exact .ret p
    | brk => exact .brk p
    | next => exact .next (fin p)
    | cont => exact .cont (fin p)
  · rintro h' tk m' news' F' N' _ hJ'
    exact done m' news' h' tk hJ' F' N'
theorem iter_rng {r : Addr} {a₀ b₀ : Int} {t₀ u₀ v₀ : Tok} {n : Nat} {m₀ : Str → Option Value} {news : Led} (J : Nat → (Str → Option Value) → Led → Prop)
    (hh : A.handled = none) (hr : IsRange s.heap r a₀ b₀ 1 t₀ u₀ v₀) (hsmall : Builtin.Range.small a₀ b₀ 1 = true) (hn : Builtin.Range.rangeSize a₀ b₀ 1 = (n : Int)) (F : Fr h₀ env.locals s.heap m₀) (N : News h₀ env.locals s.heap news) (hj : J 0 m₀ news)
    (turn : ∀ i t m₁ nx h tk I io, i < n → (∀ p ∈ news, p.1 < I) → (∀ p ∈ nx, p.1 ≠ I) → J i m₁ nx → Fr h₀ env.locals h (fun y => if y = x then some (.int (a₀ + (i : Int)) t) else m₁ y) → News h₀ env.locals h ((I, io) :: nx) →
      wpAny (model prog w) A (execs body env) (TPost h₀ env.locals (J (i + 1)) I io { s with heap := h, toks := tk } Q) E { s with heap := h, toks := tk })
    (done : ∀ m₁ nx h tk, J n m₁ nx → Fr h₀ env.locals h m₁ → News h₀ env.locals h nx → Q .next { s with heap := h, toks := tk }) :
    wpAny (model prog w) A (pyIter (.ref r)) (fun it s₂ => LoopAtV prog w A h₀ env x body Q E it s₂) E s :=
  iter_rngC J hh hr hsmall hn F N hj (fun i t m₁ nx h tk I io a b c _ => turn i t m₁ nx h tk I io a b c) done
end
section
variable {prog : Program} {A : Around} {h₀ : Heap} {L : Addr} {m : Str → Option Value} {env : Env} {ct elt : Expr} {x : Str} {scope : Scope} {cl : List (Str × Addr)} {s : Shared} {S : Led → Prop} {P : Nat → Value → Prop} {Fin : List Value → Led → Prop} {news : Led}

theorem rest_J {n : Nat} (J : Nat → List Value → Led → Prop) (hj : J 0 [] news) (hS : ∀ i ys nx, J i ys nx → S nx)
    (turn : ∀ i v ys nx I oI C oC D m₂ h tk (E' : Value → Shared → Prop), i < n → P i v → J i ys nx → LCg.NsObj oC m₂ → m₂ x = some v → Fr h₀ L h m → News h₀ L h ((I, oI) :: (C, oC) :: (D, LCg.lst ys) :: nx) → LCg.Off3 I C D nx → ((@Ne Nat I C) ∧ (@Ne Nat I D) ∧ (@Ne Nat C D)) →
      wpAny (model prog w) A (eval elt (compEnvC scope cl C env)) (LCg.CompEnd h₀ L m { s with heap := h, toks := tk } I oI C oC D (LCg.lst ys) (fun _ => True) (fun y nx' => J (i + 1) (ys ++ [y]) nx')) E' { s with heap := h, toks := tk })
    (fin : ∀ ys nx, J n ys nx → Fin ys nx) : LCg.CompRest prog w A h₀ L m env elt x scope cl s S P Fin n 0 [] news := by
  have key : ∀ (j i : Nat) (ys : List Value) (nx : Led), i + j = n → J i ys nx → LCg.CompRest prog w A h₀ L m env elt x scope cl s S P Fin j i ys nx := by
    intro j
    induction j with
    | zero =>
      intro i ys nx hi hy
      have e : i = n := by omega
      subst e
      exact LCg.CompRest.zero (fin ys nx hy)
    | succ j ih =>
      intro i ys nx hi hy
      refine LCg.CompRest.succ ?_
      intro v I oI C oC D m₂ h tk E' hv hC hx F N off ne
      refine wpAny_mono (turn i v ys nx I oI C oC D m₂ h tk E' (by omega) hv hy hC hx F N off ne) (fun y s₂ hq => ?_) fun _ _ e => e
      obtain ⟨h', tk', nw, e, F', N', off', _, hn⟩ := hq
      exact ⟨h', tk', nw, e, F', N', off', hS _ _ _ hn, ih (i + 1) _ nw (by omega) hn⟩
  exact key n 0 [] news (by omega) hj

theorem restT_J {n : Nat} (J : Nat → List Value → Led → Prop) (hj : J 0 [] news) (hS : ∀ i ys nx, J i ys nx → S nx)
    (turn : ∀ i v ys nx I oI C oC D m₂ h tk (E' : Value → Shared → Prop), i < n → P i v → J i ys nx → LCg.NsObj oC m₂ → m₂ x = some v → Fr h₀ L h m → News h₀ L h ((I, oI) :: (C, oC) :: (D, LCg.lst ys) :: nx) → LCg.Off3 I C D nx → ((@Ne Nat I C) ∧ (@Ne Nat I D) ∧ (@Ne Nat C D)) →
      wpAny (model prog w) A (isTrue ct (compEnvC scope cl C env) (eval ct (compEnvC scope cl C env))) (fun ok s' => if ok = true then
        wpAny (model prog w) A (eval elt (compEnvC scope cl C env)) (LCg.CompEnd h₀ L m { s with heap := h, toks := tk } I oI C oC D (LCg.lst ys) (fun _ => True) (fun y nx' => J (i + 1) (ys ++ [y]) nx')) E' s'
        else LCg.CompEnd h₀ L m { s with heap := h, toks := tk } I oI C oC D (LCg.lst ys) (fun _ => True) (fun _ nx' => J (i + 1) ys nx') Value.none s') E' { s with heap := h, toks := tk })
    (fin : ∀ ys nx, J n ys nx → Fin ys nx) : LCt.CompRestT prog w A h₀ L m env ct elt x scope cl s S P Fin n 0 [] news := by
  have key : ∀ (j i : Nat) (ys : List Value) (nx : Led), i + j = n → J i ys nx → LCt.CompRestT prog w A h₀ L m env ct elt x scope cl s S P Fin j i ys nx := by
    intro j
    induction j with
    | zero =>
      intro i ys nx hi hy
      have e : i = n := by omega
      subst e
      exact LCt.CompRestT.zero (fin ys nx hy)
    | succ j ih =>
      intro i ys nx hi hy
      refine LCt.CompRestT.succ ?_
      intro v I oI C oC D m₂ h tk E' hv hC hx F N off ne
      refine wpAny_mono (turn i v ys nx I oI C oC D m₂ h tk E' (by omega) hv hy hC hx F N off ne) (fun ok s₂ hq => ?_) fun _ _ e => e
      cases ok with
      | true =>
        simp only [if_true] at hq ⊢
        refine wpAny_mono hq (fun y s₃ hq => ?_) fun _ _ e => e
        obtain ⟨h', tk', nw, e, F', N', off', _, hn⟩ := hq
        exact ⟨h', tk', nw, e, F', N', off', hS _ _ _ hn, ih (i + 1) _ nw (by omega) hn⟩
      | false =>
        simp only [Bool.false_eq_true, if_false] at hq ⊢
        obtain ⟨h', tk', nw, e, F', N', off', _, hn⟩ := hq
        exact ⟨h', tk', nw, e, F', N', off', hS _ _ _ hn, ih (i + 1) _ nw (by omega) hn⟩
  exact key n 0 [] news (by omega) hj
end
theorem Lets.len {news : Led} : ∀ {vs : List Value} {us : List Int}, Lets news vs us → vs.length = us.length
  | _, _, .nil => rfl
  | _, _, .cons _ r => by simp [r.len]
theorem Lets.get {news : Led} : ∀ {vs : List Value} {us : List Int}, Lets news vs us → ∀ {i : Nat} {v : Value}, vs[i]? = some v → ∃ u, us[i]? = some u ∧ LetAt news u v
  | _, _, .nil, i, v, h => by simp at h
  | _, _, .cons a r, 0, v, h => by simp at h; subst h; exact ⟨_, rfl, a⟩
  | _, _, .cons a r, i + 1, v, h => by
    obtain ⟨u, hu, hl⟩ := r.get (i := i) (v := v) (by simpa using h)
    exact ⟨u, by simpa using hu, hl⟩
theorem Lets.get' {news : Led} {vs : List Value} {us : List Int} (h : Lets news vs us) {i : Nat} (hi : i < us.length) : ∃ v, vs[i]? = some v ∧ LetAt news us[i] v := by
  have hl : i < vs.length := by rw [h.len]; exact hi
  obtain ⟨u, hu, ha⟩ := h.get (i := i) (v := vs[i]) (by simp [hl])
  refine ⟨vs[i], by simp [hl], ?_⟩
  rw [List.getElem?_eq_getElem hi] at hu
  rw [Option.some.inj hu]
  exact ha
theorem LetAt.mono {news news' : Led} {u : Int} {v : Value} (h : LetAt news u v) (hs : ∀ p ∈ news, p ∈ news') : LetAt news' u v := by
  obtain ⟨a, d, od, fl, nf, e, h1, h2, h3, h4⟩ := h
  exact ⟨a, d, od, fl, nf, e, hs _ h1, hs _ h2, h3, hs _ h4⟩
theorem Lets.mono {news news' : Led} {vs : List Value} {us : List Int} (h : Lets news vs us) (hs : ∀ p ∈ news, p ∈ news') : Lets news' vs us := by
  induction h with
  | nil => exact .nil
  | cons a _ ih => exact .cons (a.mono hs) ih
theorem Lets.append {news : Led} {vs vs' : List Value} {us us' : List Int} (h : Lets news vs us) (h' : Lets news vs' us') : Lets news (vs ++ vs') (us ++ us') := by
  induction h with
  | nil => exact h'
  | cons a _ ih => exact .cons a ih
theorem ints_snoc {vs : List Value} {ns : List Int} {i : Nat} {n : Int} {t : Tok} (h : IntsAre vs (ns.take i)) (hn : ns[i]? = some n) : IntsAre (vs ++ [.int n t]) (ns.take (i + 1)) := by
  rw [List.take_add_one, hn]
  exact h.append (.cons n t .nil)
theorem ints_full {vs : List Value} {ns : List Int} {k : Nat} (h : IntsAre vs (ns.take k)) (hk : k = ns.length) : IntsAre vs ns := by
  subst hk
  rwa [List.take_length] at h
theorem Does.use {need : Nat} {f : Addr} {args : List Value} {news : Led} {post : Value → Led → Prop} (H : Does w p loose mean mg mb need f args news post)
    {dp un : Nat} {gd : Option (List Code)} {cn : Str} {cs : Scope} {a : Addr} {ccd : Value} {cl : List (Str × Addr)} {outer : List Env} {A₀ : Around} {base h₀ : Heap} {L : Addr} {m : Str → Option Value} {s : Shared} {Q E : Value → Shared → Prop}
    (B : Below A₀ base outer h₀) (F : Fr h₀ L s.heap m) (X : (top.hd.heap_39 w.params).In h₀) (N : News h₀ L s.heap news) (T : Top p loose mean mg mb h₀) (hk : cs.kind = .function)
    (hd : dp + need < recursionLimit) (hu : un + 8 * need < cLine)
    (ret : ∀ v news' h' tk', Fr h₀ L h' m → News h₀ L h' news' → post v news' → Q v { s with heap := h', toks := tk' }) :
    wpAny (model PySem.Challenge.rw_or0056_01.row.prog w) (ktrTop dp un gd cn cs L a ccd cl outer) (call (.ref f) args) Q E s :=
  H _ _ _ _ _ _ _ _ _ _ _ _ _ _ _ _ _ B F X N T hk hd hu ret
theorem news_swap {h₀ h : Heap} {L : Addr} {a b : Addr × Obj} {l : Led} (N : News h₀ L h (a :: b :: l)) : News h₀ L h (b :: a :: l) := fun p hp => N p (by
  rcases List.mem_cons.mp hp with rfl | hp
  · exact .tail _ (.head _)
  · rcases List.mem_cons.mp hp with rfl | hp
    · exact .head _
    · exact .tail _ (.tail _ hp))
theorem all_cons {a d : Addr} {o : Obj} {l : Led} (h : a ≠ d) (hl : ∀ q ∈ l, q.1 ≠ d) : ∀ q ∈ (a, o) :: l, q.1 ≠ d := fun q hq => by
  rcases List.mem_cons.mp hq with rfl | hq
  · exact h
  · exact hl q hq
theorem len_any {prog : Program} {A : Around} {E : Value → Shared → Prop} {s : Shared} {l : Addr} {vs : List Value} {Q : Value → Shared → Prop} (hl : s.heap.IsList l vs.toArray) (hz : vs.length ≤ 16384) (h : Q (.int (vs.length : Int) (s.toks + 1)) { s with toks := s.toks + 1 + 1 }) :
    wpAny (model prog w) A (call (.builtin "len") [.ref l]) Q E s :=
  kun_lenL hl (by simp) (by omega) h

section
variable {prog : Program} {A : Around} {E : Value → Shared → Prop} {s : Shared} {env : Env} {h₀ : Heap} {target : Expr} {body : List Stmt} {Q : Flow → Shared → Prop}

theorem allObj_of : ∀ {ws : List (Addr × String)} {k : Led → Prop}, (∀ its, Objs ws its → k its) → AllObj ws k
  | [], _, h => h [] trivial
  | _ :: _, _, h => fun _ ho => allObj_of fun its hi => h (_ :: its) ⟨⟨rfl, ho⟩, hi⟩
theorem objs_off {ws : List (Addr × String)} {its : Led} (h : Objs ws its) {nx : Led} (hn : ∀ p ∈ nx, ∀ b ∈ ws, p.1 ≠ b.1) : ∀ p ∈ nx, ∀ q ∈ its, p.1 ≠ q.1 := by
  intro p hp q hq e
  have h1 : q.1 ∈ its.map (·.1) := List.mem_map.mpr ⟨q, hq, rfl⟩
  rw [h.map] at h1
  obtain ⟨b, hb, hbe⟩ := List.mem_map.mp h1
  exact hn p hp b hb (e.trans hbe.symm)

theorem objs_one {I : Addr} {n : String} : ∀ {its : Led}, Objs [(I, n)] its → ∃ io, its = [(I, io)]
  | [], h => (show False from h).elim
  | [(a, o)], h => ⟨o, by have e : a = I := h.1.1; rw [e]⟩
  | _ :: _ :: _, h => (show False from h.2).elim
theorem objs_two {I I' : Addr} {n n' : String} : ∀ {its : Led}, Objs [(I', n'), (I, n)] its → ∃ io' io, its = [(I', io'), (I, io)]
  | [], h => (show False from h).elim
  | (a, o) :: r, h => by
    obtain ⟨io, e⟩ := objs_one (its := r) h.2
    have e2 : a = I' := h.1.1
    exact ⟨o, io, by rw [e, e2]⟩
/-- a turn's end in a loop with any target -/
def UEnd (h₀ : Heap) (L : Addr) (J : (Str → Option Value) → Led → Prop) (ws : List (Addr × String)) (its : Led) (s₁ s₂ : Shared) : Prop :=
  ∃ h' tk m' nx, s₂ = { s₁ with heap := h', toks := tk } ∧ Fr h₀ L h' m' ∧ News h₀ L h' (its ++ nx) ∧ (∀ p ∈ nx, ∀ b ∈ ws, p.1 ≠ b.1) ∧ J m' nx
def UPost (h₀ : Heap) (L : Addr) (J : (Str → Option Value) → Led → Prop) (ws : List (Addr × String)) (its : Led) (s₁ : Shared) (Q : Flow → Shared → Prop) (f : Flow) (s₂ : Shared) : Prop :=
  match f with
  | .ret v => Q (.ret v) s₂
  | .brk => Q .next s₂
  | _ => UEnd h₀ L J ws its s₁ s₂
theorem UEnd.intro {L : Addr} {ws : List (Addr × String)} {its : Led} {J : (Str → Option Value) → Led → Prop} {m' : Str → Option Value} {nx : Led} {s₁ : Shared} {h' : Heap} {tk : Nat} (F : Fr h₀ L h' m') (N : News h₀ L h' (its ++ nx)) (hn : ∀ p ∈ nx, ∀ b ∈ ws, p.1 ≠ b.1) (hj : J m' nx) :
    UEnd h₀ L J ws its s₁ { s₁ with heap := h', toks := tk } := ⟨h', tk, m', nx, rfl, F, N, hn, hj⟩

theorem items_J {ws : List (Addr × String)} {keep : Led} {xs : List Itm} {m₀ : Str → Option Value} {news : Led} (J : Nat → (Str → Option Value) → Led → Prop) (hk : ∀ i m nx, J i m nx → SubL keep nx) (hj : J 0 m₀ news) (h0 : ∀ p ∈ news, ∀ b ∈ ws, p.1 ≠ b.1)
    (turn : ∀ i a v m₁ nx h tk its, xs[i]? = some a → a.Is v h → Objs ws its → (∀ p ∈ nx, ∀ b ∈ ws, p.1 ≠ b.1) → J i m₁ nx → Fr h₀ env.locals h m₁ → News h₀ env.locals h (its ++ nx) →
      wpAny (model prog w) A (assign target env v) (fun _ s₂ => wpAny (model prog w) A (execs body env) (UPost h₀ env.locals (J (i + 1)) ws its { s with heap := h, toks := tk } Q) E s₂) E { s with heap := h, toks := tk })
    (done : ∀ m₁ nx h tk, J xs.length m₁ nx → Fr h₀ env.locals h m₁ → News h₀ env.locals h nx → Q .next { s with heap := h, toks := tk }) :
    ItemsRest prog w A E h₀ env target body Q s ws keep xs m₀ news := by
  have key : ∀ (r : List Itm) (i : Nat) (m : Str → Option Value) (nx : Led), xs.drop i = r → i ≤ xs.length → J i m nx → (∀ p ∈ nx, ∀ b ∈ ws, p.1 ≠ b.1) → ItemsRest prog w A E h₀ env target body Q s ws keep r m nx := by
    intro r
    induction r with
    | nil =>
      intro i m nx hd hil hJ _ h tk F N
      have hi : xs.length ≤ i := List.drop_eq_nil_iff.mp hd
      have he : i = xs.length := by omega
      subst he
      exact done m nx h tk hJ F N
    | cons a r ih =>
      intro i m nx hd hil hJ ho v h tk ha F
      refine allObj_of fun its hits N => ?_
      have hxi : xs[i]? = some a := by
        have := congrArg (fun l => l[0]?) hd
        simpa [List.getElem?_drop] using this
      have hil' : i + 1 ≤ xs.length := by
        have := List.getElem?_eq_some_iff.mp hxi
        exact this.1
      have hd' : xs.drop (i + 1) = r := by
        rw [← List.drop_drop, hd]; rfl
      refine wpAny_mono (turn i a v m nx h tk its hxi ha hits ho hJ F N) (fun _ s₂ h₂ => wpAny_mono h₂ (fun f s₃ p => ?_) fun _ _ e => e) fun _ _ e => e
      have fin : UEnd h₀ env.locals (J (i + 1)) ws its { s with heap := h, toks := tk } s₃ → UnrEndW h₀ env.locals { s with heap := h, toks := tk } its (fun m' n' => SubL keep n' ∧ ItemsRest prog w A E h₀ env target body Q s ws keep r m' n') s₃ := by
        rintro ⟨h', tk', m', nx', e, F', N', hn, hj'⟩
        exact ⟨h', tk', m', nx', e, F', N', objs_off hits hn, hk _ _ _ hj', ih (i + 1) m' nx' hd' hil' hj' hn⟩
      cases f with
      | ret v => exact p
      | brk => exact p
      | next => exact fin p
      | cont => exact fin p
  exact key xs 0 m₀ news rfl (Nat.zero_le _) hj h0

/-- a loop over a list of the ledger, any target -/
theorem turns_list {l : Addr} {vs : List Value} {n : Nat} {m₀ : Str → Option Value} {news : Led} (J : Nat → (Str → Option Value) → Led → Prop)
    (hh : A.handled = none) (F : Fr h₀ env.locals s.heap m₀) (N : News h₀ env.locals s.heap news) (hl : (l, listOf vs.toArray n) ∈ news) (hj : J 0 m₀ news) (hJ : ∀ i m nx, J i m nx → (l, listOf vs.toArray n) ∈ nx)
    (turn : ∀ i v m₁ nx h tk I io, vs[i]? = some v → (∀ p ∈ news, p.1 < I) → (∀ p ∈ nx, p.1 ≠ I) → J i m₁ nx → Fr h₀ env.locals h m₁ → News h₀ env.locals h ((I, io) :: nx) →
      wpAny (model prog w) A (assign target env v) (fun _ s₂ => wpAny (model prog w) A (execs body env) (TPost h₀ env.locals (J (i + 1)) I io { s with heap := h, toks := tk } Q) E s₂) E { s with heap := h, toks := tk })
    (done : ∀ m₁ nx h tk, J vs.length m₁ nx → Fr h₀ env.locals h m₁ → News h₀ env.locals h nx → Q .next { s with heap := h, toks := tk }) :
    wpAny (model prog w) A (pyIter (.ref l)) (fun it s₂ => TurnsAt prog w A h₀ env target body Q E it s₂) E s := by
  refine iter_listTurns hh F N hl rfl rfl fun I hI => ?_
  refine items_J J (fun i m nx h => ⟨hJ i m nx h, trivial⟩) hj (fun p hp b hb => by rw [List.mem_singleton.mp hb]; exact Nat.ne_of_lt (hI p hp)) ?_ (by simpa using done)
  intro i a v m₁ nx h tk its ha hv hits ho hJ' F₁ N₁
  rw [List.getElem?_map] at ha
  cases e : vs[i]? with
  | none => rw [e] at ha; cases ha
  | some u =>
    rw [e] at ha
    cases ha
    have hv' : v = u := hv
    subst hv'
    obtain ⟨io, rfl⟩ := objs_one hits
    · refine wpAny_mono (turn i v m₁ nx h tk I io e hI (fun p hp => ho p hp _ (.head _)) hJ' F₁ N₁) (fun _ s₂ h₂ => wpAny_mono h₂ (fun f s₃ p => ?_) fun _ _ e => e) fun _ _ e => e
      have fin : TEnd h₀ env.locals (J (i + 1)) I io { s with heap := h, toks := tk } s₃ → UEnd h₀ env.locals (J (i + 1)) [(I, "list_iterator")] [(I, io)] { s with heap := h, toks := tk } s₃ := by
        rintro ⟨h', tk', m', nx', e', F', N', hn, hj'⟩
        exact ⟨h', tk', m', nx', e', F', N', (fun p hp b' hb' => by rw [List.mem_singleton.mp hb']; exact hn p hp), hj'⟩
      cases f with
      | ret v => exact p
      | brk => exact p
      | next => exact fin p
      | cont => exact fin p

/-- a loop over a tuple of the ledger, any target -/
theorem turns_tup {l : Addr} {vs : List Value} {n : Nat} {m₀ : Str → Option Value} {news : Led} (J : Nat → (Str → Option Value) → Led → Prop)
    (hh : A.handled = none) (F : Fr h₀ env.locals s.heap m₀) (N : News h₀ env.locals s.heap news) (hl : (l, tupOf vs.toArray n) ∈ news) (hj : J 0 m₀ news) (hJ : ∀ i m nx, J i m nx → (l, tupOf vs.toArray n) ∈ nx)
    (turn : ∀ i v m₁ nx h tk I io, vs[i]? = some v → (∀ p ∈ news, p.1 < I) → (∀ p ∈ nx, p.1 ≠ I) → J i m₁ nx → Fr h₀ env.locals h m₁ → News h₀ env.locals h ((I, io) :: nx) →
      wpAny (model prog w) A (assign target env v) (fun _ s₂ => wpAny (model prog w) A (execs body env) (TPost h₀ env.locals (J (i + 1)) I io { s with heap := h, toks := tk } Q) E s₂) E { s with heap := h, toks := tk })
    (done : ∀ m₁ nx h tk, J vs.length m₁ nx → Fr h₀ env.locals h m₁ → News h₀ env.locals h nx → Q .next { s with heap := h, toks := tk }) :
    wpAny (model prog w) A (pyIter (.ref l)) (fun it s₂ => TurnsAt prog w A h₀ env target body Q E it s₂) E s := by
  refine iter_tupTurns hh F N hl rfl rfl fun I hI => ?_
  refine items_J J (fun i m nx h => ⟨hJ i m nx h, trivial⟩) hj (fun p hp b hb => by rw [List.mem_singleton.mp hb]; exact Nat.ne_of_lt (hI p hp)) ?_ (by simpa using done)
  intro i a v m₁ nx h tk its ha hv hits ho hJ' F₁ N₁
  rw [List.getElem?_map] at ha
  cases e : vs[i]? with
  | none => rw [e] at ha; cases ha
  | some u =>
    rw [e] at ha
    cases ha
    have hv' : v = u := hv
    subst hv'
    obtain ⟨io, rfl⟩ := objs_one hits
    · refine wpAny_mono (turn i v m₁ nx h tk I io e hI (fun p hp => ho p hp _ (.head _)) hJ' F₁ N₁) (fun _ s₂ h₂ => wpAny_mono h₂ (fun f s₃ p => ?_) fun _ _ e => e) fun _ _ e => e
      have fin : TEnd h₀ env.locals (J (i + 1)) I io { s with heap := h, toks := tk } s₃ → UEnd h₀ env.locals (J (i + 1)) [(I, "tuple_iterator")] [(I, io)] { s with heap := h, toks := tk } s₃ := by
        rintro ⟨h', tk', m', nx', e', F', N', hn, hj'⟩
        exact ⟨h', tk', m', nx', e', F', N', (fun p hp b' hb' => by rw [List.mem_singleton.mp hb']; exact hn p hp), hj'⟩
      cases f with
      | ret v => exact p
      | brk => exact p
      | next => exact fin p
      | cont => exact fin p

/-- for i, x in enumerate(xs) -/
theorem turns_enum {elts : List Expr} {k : Nat} {pos : Pos} {l : Addr} {vs : List Value} {n : Nat} {m₀ : Str → Option Value} {news : Led} (J : Nat → (Str → Option Value) → Led → Prop)
    (hh : A.handled = none) (F : Fr h₀ env.locals s.heap m₀) (N : News h₀ env.locals s.heap news) (hl : (l, listOf vs.toArray n) ∈ news) (hj : J 0 m₀ news) (hJ : ∀ i m nx, J i m nx → (l, listOf vs.toArray n) ∈ nx)
    (turn : ∀ (i : Nat) v T t m₁ nx h tk I io I' io', vs[i]? = some v → IsTup h T #[.int ((i : Nat) : Int) t, v] → (∀ p ∈ news, p.1 < I) → I < I' → (∀ p ∈ nx, p.1 ≠ I ∧ p.1 ≠ I') → J i m₁ nx → Fr h₀ env.locals h m₁ → News h₀ env.locals h ((I', io') :: (I, io) :: nx) →
      wpAny (model prog w) A (assign (.Tuple elts k pos) env (.ref T)) (fun _ s₂ => wpAny (model prog w) A (execs body env) (UPost h₀ env.locals (J (i + 1)) [(I', "enumerate"), (I, "list_iterator")] [(I', io'), (I, io)] { s with heap := h, toks := tk } Q) E s₂) E { s with heap := h, toks := tk })
    (done : ∀ m₁ nx h tk, J vs.length m₁ nx → Fr h₀ env.locals h m₁ → News h₀ env.locals h nx → Q .next { s with heap := h, toks := tk }) :
    wpAny (model prog w) A (call (.type "enumerate") [.ref l]) (fun xv s₁ => wpAny (model prog w) A (pyIter xv) (fun it s₂ => TurnsAt prog w A h₀ env (.Tuple elts k pos) body Q E it s₂) E s₁) E s := by
  refine ktu_enum hh F N hl rfl rfl rfl fun I hI => ?_
  refine items_J J (fun i m nx h => ⟨hJ i m nx h, trivial⟩) hj (fun p hp b hb => ?_) ?_ (by simpa [enumItems_length] using done)
  · rcases List.mem_cons.mp hb with rfl | hb
    · exact ktu_ne 1 (hI p hp)
    · rw [List.mem_singleton.mp hb]; exact Nat.ne_of_lt (hI p hp)
  intro i a v m₁ nx h tk its ha hv hits ho hJ' F₁ N₁
  cases e : vs[i]? with
  | none =>
    have hlt := (List.getElem?_eq_some_iff.mp ha).1
    rw [enumItems_length] at hlt
    rw [List.getElem?_eq_getElem hlt] at e
    cases e
  | some u =>
    rw [enumItems_get vs 0 i e] at ha
    cases ha
    obtain ⟨T, t, rfl, hT⟩ := hv
    rw [Nat.zero_add] at hT
    obtain ⟨io', io, rfl⟩ := objs_two hits
    exact turn i u T t m₁ nx h tk I io (I + 1) io' e hT hI (Nat.lt_succ_self _) (fun p hp => ⟨ho p hp _ (.tail _ (.head _)), ho p hp _ (.head _)⟩) hJ' F₁ N₁
end
theorem allne_up {b c : Nat} {l : Led} (h : AllLt b l) (hc : b ≤ c) : ∀ p ∈ l, p.1 ≠ c := fun p hp => Nat.ne_of_lt (Nat.lt_of_lt_of_le (tb_ltOf h p hp) hc)
theorem units_under_make (A : Around) (C : Addr) (vals : List Value) : (A.under (.builtin "type.__call__" ⟨.ref C :: vals, []⟩)).units = A.units + 1 := by first | rfl | simp [Around.under, Code.cUnits, Code.frames, Code.isFrame]
section
variable {prog : Program} {A : Around} {E : Value → Shared → Prop} {s : Shared}
theorem len_tupA {t : Addr} {vs : List Value} {Q : Value → Shared → Prop} (ht : IsTup s.heap t vs.toArray) (hz : vs.length ≤ 16384) (h : Q (.int (vs.length : Int) (s.toks + 1)) { s with toks := s.toks + 1 + 1 }) : wpAny (model prog w) A (call (.builtin "len") [.ref t]) Q E s :=
  kun_lenT ht (by simp) (by omega) h
theorem idx_pos {k : Int} {n : Nat} (h0 : 0 ≤ k) (h1 : k < n) : seqIndex? k n = some k.toNat := by
  unfold seqIndex?
  have h2 : ¬ k < 0 := by omega
  simp only [h2, if_false]
  rw [if_pos (by simp only [Bool.and_eq_true, decide_eq_true_eq]; omega)]
theorem item_tupA {value slice : PySem.Expr} {t : Addr} {vs : List Value} {k : Int} {u : Tok} {v : Value} {Q : Value → Shared → Prop} (ht : IsTup s.heap t vs.toArray) (h0 : 0 ≤ k) (hhi : k < 2 ^ 63) (hx : vs[k.toNat]? = some v) (h : Q v s)
    (hs : subscripted slice false (.ref t) (.int k u) = operate [.ref t, .int k u] (getItem (.ref t) (.int k u))) : wpAny (model prog w) A (subscriptTail value slice (.ref t) (.int k u)) Q E s :=
  item_tupleT ht (by omega) hhi (idx_pos h0 (by have := (List.getElem?_eq_some_iff.mp hx).1; omega)) hx h hs
end
section
variable {prog : Program} {A : Around} {E : Value → Shared → Prop} {s : Shared}
theorem in_listB {l : Addr} {vs : List Value} {ns : List Int} {k : Int} {t : Tok} {b : Bool} {Q : Value → Shared → Prop} (hl : s.heap.IsList l vs.toArray) (hi : IntsAre vs ns) (hb : ns.any (· == k) = b) (h : Q (.bool b) s) : wpAny (model prog w) A (compareOp .In (.int k t) (.ref l)) Q E s :=
  in_list_ints hl hi (by rw [hb]; exact h)
end
theorem any_t {ns : List Int} {k : Int} (h : k ∈ ns) : ns.any (· == k) = true := List.any_eq_true.mpr ⟨k, h, by simp⟩
theorem any_f {ns : List Int} {k : Int} (h : k ∉ ns) : ns.any (· == k) = false := by
  rw [Bool.eq_false_iff]
  intro h2
  obtain ⟨x, hx, e⟩ := List.any_eq_true.mp h2
  have e2 : x = k := by simpa using e
  exact h (e2 ▸ hx)

theorem valueAt_stored {K : Type} [DecidableEq K] (kvs : List (K × Value)) (k k' : K) (v : Value) : valueAt (stored kvs k v) k' = if k' = k then some v else valueAt kvs k' := by
  induction kvs with
  | nil =>
    by_cases h : k' = k
    · subst h; simp [stored, valueAt]
    · have h' : ¬ k = k' := fun e => h e.symm
      simp [stored, valueAt, h, h']
  | cons kv r ih =>
    obtain ⟨k0, v0⟩ := kv
    have hs : stored ((k0, v0) :: r) k v = if k0 = k then (k0, v) :: r.map (fun kv => if kv.1 = k then (kv.1, v) else kv) else (k0, v0) :: stored r k v := by
      unfold stored
      by_cases h0 : k0 = k
      · simp [h0]
      · by_cases ha : r.any (fun kv => kv.1 = k) = true
        · simp [h0, ha]
        · simp [h0, ha]
    rw [hs]
    by_cases h0 : k0 = k
    · subst h0
      rw [if_pos rfl]
      by_cases h1 : k' = k0
      · subst h1; simp [valueAt]
      · have h1' : ¬ k0 = k' := fun e => h1 e.symm
        rw [if_neg h1]
        unfold valueAt
        simp only [List.find?_cons, h1', decide_false]
        clear ih hs
        induction r with
        | nil => rfl
        | cons x r ih =>
          obtain ⟨kx, vx⟩ := x
          by_cases hx : kx = k0
          · subst hx
            simp only [List.map_cons, if_true, List.find?_cons, h1', decide_false]
            exact ih
          · by_cases hx2 : kx = k'
            · subst hx2; simp [hx]
            · simp only [List.map_cons, hx, if_false, List.find?_cons, hx2, decide_false]
              exact ih
    · rw [if_neg h0]
      by_cases h1 : k0 = k'
      · subst h1; simp [valueAt, h0]
      · have e1 : valueAt ((k0, v0) :: stored r k v) k' = valueAt (stored r k v) k' := by simp [valueAt, h1]
        have e2 : valueAt ((k0, v0) :: r) k' = valueAt r k' := by simp [valueAt, h1]
        rw [e1, e2, ih]
theorem valueAt_without {K : Type} [DecidableEq K] (kvs : List (K × Value)) (k k' : K) : valueAt (without kvs k) k' = if k' = k then none else valueAt kvs k' := by
  induction kvs with
  | nil => simp [without, valueAt]
  | cons kv r ih =>
    obtain ⟨k0, v0⟩ := kv
    by_cases h0 : k0 = k
    · have e : without ((k0, v0) :: r) k = without r k := by simp [without, h0]
      rw [e, ih]
      by_cases h1 : k' = k
      · simp [h1]
      · have h2 : ¬ k0 = k' := by rw [h0]; exact fun e => h1 e.symm
        simp [h1, valueAt, h2]
    · have e : without ((k0, v0) :: r) k = (k0, v0) :: without r k := by simp [without, h0]
      rw [e]
      by_cases h1 : k0 = k'
      · subst h1; simp [valueAt, h0]
      · have e1 : valueAt ((k0, v0) :: without r k) k' = valueAt (without r k) k' := by simp [valueAt, h1]
        have e2 : valueAt ((k0, v0) :: r) k' = valueAt r k' := by simp [valueAt, h1]
        rw [e1, e2, ih]
theorem without_length {K : Type} [DecidableEq K] (kvs : List (K × Value)) (k : K) : (without kvs k).length ≤ kvs.length := List.length_filter_le _ _
theorem upd_self {x : Str} (m : Str → Option Value) : m = fun y => if y = x then m x else m y := by
  funext y
  by_cases h : y = x
  · rw [if_pos h, h]
  · rw [if_neg h]
theorem upd_upd {x : Str} {a b : Option Value} (m : Str → Option Value) : (fun y => if y = x then a else if y = x then b else m y) = fun y => if y = x then a else m y := by
  funext y
  by_cases h : y = x
  · rw [if_pos h, if_pos h]
  · rw [if_neg h, if_neg h, if_neg h]
theorem nameF {h₀ h : Heap} {L : Addr} {m : Str → Option Value} (F : Fr h₀ L h m) : ∃ m₀, m₀ = m ∧ Fr h₀ L h m₀ := ⟨_, rfl, F⟩
theorem nameN {h₀ h : Heap} {L : Addr} {tl : Led} (N : News h₀ L h tl) : ∃ tl', tl' = tl ∧ News h₀ L h tl' := ⟨_, rfl, N⟩
theorem nameN1 {h₀ h : Heap} {L : Addr} {a : Addr × Obj} {tl : Led} (N : News h₀ L h (a :: tl)) : ∃ tl', tl' = tl ∧ News h₀ L h (a :: tl') := ⟨_, rfl, N⟩
theorem nameN2 {h₀ h : Heap} {L : Addr} {a b : Addr × Obj} {tl : Led} (N : News h₀ L h (a :: b :: tl)) : ∃ tl', tl' = tl ∧ News h₀ L h (a :: b :: tl') := ⟨_, rfl, N⟩
theorem upd_self2 {x z : Str} (m : Str → Option Value) : m = fun y => if y = x then m x else if y = z then m z else m y := by
  funext y
  by_cases h : y = x
  · rw [if_pos h, h]
  · rw [if_neg h]
    by_cases h2 : y = z
    · rw [if_pos h2, h2]
    · rw [if_neg h2]
theorem filter_snoc {α : Type} (f : α → Bool) {us : List α} {i : Nat} {u : α} (hu : us[i]? = some u) : (us.take (i + 1)).filter f = (us.take i).filter f ++ (if f u = true then [u] else []) := by
  rw [List.take_add_one, hu, List.filter_append]
  by_cases h : f u = true <;> simp [h]
theorem ints_keep {vs : List Value} {us : List Int} {i : Nat} {u : Int} {t : Tok} {f : Int → Bool} (h : IntsAre vs ((us.take i).filter f)) (hu : us[i]? = some u) (hf : f u = true) : IntsAre (vs ++ [.int u t]) ((us.take (i + 1)).filter f) := by
  rw [filter_snoc f hu, if_pos hf]
  exact h.append (.cons u t .nil)
theorem ints_skip {vs : List Value} {us : List Int} {i : Nat} {u : Int} {f : Int → Bool} (h : IntsAre vs ((us.take i).filter f)) (hu : us[i]? = some u) (hf : f u = false) : IntsAre vs ((us.take (i + 1)).filter f) := by
  rw [filter_snoc f hu, if_neg (by simp [hf]), List.append_nil]
  exact h
theorem ints_all {vs : List Value} {us : List Int} {k : Nat} {f : Int → Bool} (h : IntsAre vs ((us.take k).filter f)) (hk : k = us.length) : IntsAre vs (us.filter f) := by
  subst hk; rwa [List.take_length] at h
theorem lets_keep {news : Led} {vs : List Value} {us : List Int} {i : Nat} {u : Int} {v : Value} {f : Int → Bool} (h : Lets news vs ((us.take i).filter f)) (hu : us[i]? = some u) (hA : LetAt news u v) (hf : f u = true) : Lets news (vs ++ [v]) ((us.take (i + 1)).filter f) := by
  rw [filter_snoc f hu, if_pos hf]
  exact h.append (.cons hA .nil)
theorem lets_skip {news : Led} {vs : List Value} {us : List Int} {i : Nat} {u : Int} {f : Int → Bool} (h : Lets news vs ((us.take i).filter f)) (hu : us[i]? = some u) (hf : f u = false) : Lets news vs ((us.take (i + 1)).filter f) := by
  rw [filter_snoc f hu, if_neg (by simp [hf]), List.append_nil]
  exact h
theorem lets_all {news : Led} {vs : List Value} {us : List Int} {k : Nat} {f : Int → Bool} (h : Lets news vs ((us.take k).filter f)) (hk : k = us.length) : Lets news vs (us.filter f) := by
  subst hk; rwa [List.take_length] at h
theorem full_take {kvs : List (Int × Value)} {gs : List Int} {k : Nat} (h : ∀ u, (valueAt kvs u).isSome = decide (u ∈ gs.take k)) (hk : k = gs.length) : ∀ u, (valueAt kvs u).isSome = decide (u ∈ gs) := by
  subst hk; rwa [List.take_length] at h
theorem keys_snoc {kvs : List (Int × Value)} {gs : List Int} {i : Nat} {u : Int} {v : Value} (h : ∀ u, (valueAt kvs u).isSome = decide (u ∈ gs.take i)) (hu : gs[i]? = some u) : ∀ u', (valueAt (stored kvs u v) u').isSome = decide (u' ∈ gs.take (i + 1)) := by
  intro u'
  rw [valueAt_stored, List.take_add_one, hu]
  by_cases e : u' = u
  · simp [e]
  · rw [if_neg e, h]; simp [e]
theorem TPost.go {h₀ : Heap} {L I : Addr} {io : Obj} {J : (Str → Option Value) → Led → Prop} {m' : Str → Option Value} {nx : Led} {s₁ : Shared} {Q : Flow → Shared → Prop} {h' : Heap} {tk : Nat} (F : Fr h₀ L h' m') (N : News h₀ L h' ((I, io) :: nx)) (hn : ∀ p ∈ nx, p.1 ≠ I) (hj : J m' nx) :
    TPost h₀ L J I io s₁ Q .next { s₁ with heap := h', toks := tk } := ⟨h', tk, m', nx, rfl, F, N, hn, hj⟩
theorem UPost.go {h₀ : Heap} {L : Addr} {ws : List (Addr × String)} {its : Led} {J : (Str → Option Value) → Led → Prop} {m' : Str → Option Value} {nx : Led} {s₁ : Shared} {Q : Flow → Shared → Prop} {h' : Heap} {tk : Nat} (F : Fr h₀ L h' m') (N : News h₀ L h' (its ++ nx)) (hn : ∀ p ∈ nx, ∀ b ∈ ws, p.1 ≠ b.1) (hj : J m' nx) :
    UPost h₀ L J ws its s₁ Q .next { s₁ with heap := h', toks := tk } := ⟨h', tk, m', nx, rfl, F, N, hn, hj⟩
theorem Does.call {need : Nat} {f : Addr} {args : List Value} {news : Led} {post : Value → Led → Prop}
    {dp un : Nat} {gd : Option (List Code)} {cn : Str} {cs : Scope} {a : Addr} {ccd : Value} {cl : List (Str × Addr)} {outer : List Env} {A₀ : Around} {base h₀ : Heap} {L : Addr} {m : Str → Option Value} {s : Shared} {Q E : Value → Shared → Prop}
    (N : News h₀ L s.heap news) (F : Fr h₀ L s.heap m) (B : Below A₀ base outer h₀) (X : (top.hd.heap_39 w.params).In h₀) (T : Top p loose mean mg mb h₀) (hk : cs.kind = .function)
    (hd : dp + need < recursionLimit) (hu : un + 8 * need < cLine) (H : Does w p loose mean mg mb need f args news post)
    (ret : ∀ v news' h' tk', Fr h₀ L h' m → News h₀ L h' news' → post v news' → Q v { s with heap := h', toks := tk' }) :
    wpAny (model PySem.Challenge.rw_or0056_01.row.prog w) (ktrTop dp un gd cn cs L a ccd cl outer) (call (.ref f) args) Q E s :=
  H _ _ _ _ _ _ _ _ _ _ _ _ _ _ _ _ _ B F X N T hk hd hu ret
theorem news_lt {h₀ h : Heap} {L : Addr} {l : Led} (N : News h₀ L h l) : ∀ q ∈ l, q.1 < h.objs.size := fun q hq => Heap.lt_size (N q hq).1
theorem upd_two {x z : Str} {a b c d : Option Value} (m : Str → Option Value) : (fun y => if y = x then a else if y = z then b else if y = x then c else if y = z then d else m y) = fun y => if y = x then a else if y = z then b else m y := by
  funext y
  by_cases h : y = x
  · rw [if_pos h, if_pos h]
  · by_cases h2 : y = z
    · rw [if_neg h, if_pos h2, if_neg h, if_pos h2]
    · rw [if_neg h, if_neg h2, if_neg h, if_neg h2, if_neg h, if_neg h2]
theorem nameHead {h₀ h : Heap} {L a : Addr} {o : Obj} {tl : Led} (_ : News h₀ L h ((a, o) :: tl)) : ∃ a', a' = a := ⟨_, rfl⟩
theorem upd_at {x z : Str} (hxz : z ≠ x) {A B C D : Option Value} {u' : Str → Option Value} (m : Str → Option Value) : (fun y => if y = z then A else if ([] : List Str).contains y = true then u' y else if y = x then B else if y = x then C else if y = z then D else m y) = fun y => if y = x then B else if y = z then A else m y := by
  funext y
  have hnn : ¬ ([] : List Str).contains y = true := by simp
  by_cases h1 : y = z
  · have h2 : ¬ y = x := by rw [h1]; exact hxz
    simp only [if_pos h1, if_neg h2]
  · by_cases h2 : y = x
    · simp only [if_neg h1, if_neg hnn, if_pos h2]
    · simp only [if_neg h1, if_neg hnn, if_neg h2]

inductive law_one_post (ln lc : Addr) (many : Int) (rest : Led) (v : Value) (news' : Led) : Prop
  | mk (r : _) (t : _) (o' : _) (z0 : v = .int r t) (z1 : 0 ≤ r) (z2 : r < many) (z3 : LineO lc o') (z4 : news' = (ln, o') :: rest) : law_one_post ln lc many rest v news'
theorem off1_ne {D : Addr} : ∀ {l : Led}, LCg.Off1 D l → ∀ q ∈ l, q.1 ≠ D
  | [], _, _, h => nomatch h
  | _ :: _, x, q, h => by
    rcases List.mem_cons.mp h with rfl | h
    · exact x.1
    · exact off1_ne x.2 q h
theorem ne_cls {h₀ h : Heap} {L a b : Addr} {o o' : Obj} {news : Led} (N : News h₀ L h news) (h1 : (a, o) ∈ news) (h2 : (b, o') ∈ news) (hc : o.cls ≠ o'.cls) : a ≠ b := by
  rintro rfl
  have e := (N _ h1).1.symm.trans (N _ h2).1
  exact hc (congrArg Obj.cls (Option.some.inj e))
theorem app_off {x d r : Addr} {o1 o2 o3 : Obj} {rest : Led} (h1 : ∀ p ∈ rest, p.1 ≠ x) (h2 : ∀ p ∈ rest, p.1 ≠ d) (h3 : ∀ p ∈ rest, p.1 ≠ r) : ∀ q ∈ [(x, o1), (d, o2), (r, o3)], ∀ p ∈ rest, p.1 ≠ q.1 := by
  intro q hq
  simp only [List.mem_cons, List.not_mem_nil, or_false] at hq
  rcases hq with rfl | rfl | rfl
  · exact h1
  · exact h2
  · exact h3
theorem news_35 {h₀ h : Heap} {L : Addr} {a b c d e : Addr × Obj} {l : Led} (N : News h₀ L h (a :: b :: c :: d :: e :: l)) : News h₀ L h (c :: e :: a :: b :: d :: l) := by
  intro p hp
  apply N
  simp only [List.mem_cons] at hp ⊢
  rcases hp with rfl | rfl | rfl | rfl | rfl | hp <;> simp [*]
inductive add_letter_post (db ls gn : Addr) (nu top : Int) (rest : Led) (vs : List Value) (v : Value) (news' : Led) : Prop
  | mk (ob : _) (k' : _) (app : _) (z0 : news' = (db, ob) :: (ls, listOf (vs.toArray.push v) k') :: (app ++ rest)) (z1 : (∀ q ∈ app, q.1 ≠ db)) (z2 : (∀ q ∈ app, q.1 ≠ ls)) (z3 : (∀ q ∈ app, ∀ p ∈ rest, p.1 ≠ q.1)) (z4 : LetAt app nu v) (z5 : BoxD (nu + 1) (top + 1) ls gn ob) : add_letter_post db ls gn nu top rest vs v news'
theorem le_at {us : List Int} (hs : us.Pairwise (· < ·)) {i j : Nat} {x y : Int} (hx : us[i]? = some x) (hy : us[j]? = some y) (h : i ≤ j) : x ≤ y := by
  obtain ⟨hi, rfl⟩ := List.getElem?_eq_some_iff.mp hx
  obtain ⟨hj, rfl⟩ := List.getElem?_eq_some_iff.mp hy
  rcases Nat.lt_or_eq_of_le h with h | h
  · exact Int.le_of_lt (List.pairwise_iff_getElem.mp hs i j hi hj h)
  · subst h; exact Int.le_refl _
theorem sub_cons {a : Addr × Obj} {l l' : Led} (h : a ∈ l') (hl : ∀ q ∈ l, q ∈ l') : ∀ q ∈ a :: l, q ∈ l' := fun q hq => by
  rcases List.mem_cons.mp hq with rfl | hq
  · exact h
  · exact hl q hq
theorem sub_tail {a : Addr × Obj} {l l' : Led} (hl : ∀ q ∈ l, q ∈ l') : ∀ q ∈ l, q ∈ a :: l' := fun q hq => List.mem_cons_of_mem _ (hl q hq)
theorem Does.move {need : Nat} {f : Addr} {args : List Value} {l1 l2 : Led} {post post' : Value → Led → Prop} (h12 : ∀ q ∈ l1, q ∈ l2) (H : Does w p loose mean mg mb need f args l1 post)
    (hp : ∀ v n', post v n' → ∃ n'', (∀ q ∈ n'', q ∈ n') ∧ post' v n'') : Does w p loose mean mg mb need f args l2 post' := by
  intro dp un gd cn cs a ccd cl outer A₀ base h₀ L m s Q E B F X N T hk hdp hun hret
  refine H dp un gd cn cs a ccd cl outer A₀ base h₀ L m s Q E B F X (news_sub N h12) T hk hdp hun ?_
  intro v n' h' tk' F' N' hpost
  obtain ⟨n'', hs, hq⟩ := hp v n' hpost
  exact hret v n'' h' tk' F' (news_sub N' hs) hq
theorem off1_of {D : Addr} : ∀ {l : Led}, (∀ q ∈ l, q.1 ≠ D) → LCg.Off1 D l
  | [], _ => trivial
  | _ :: _, h => ⟨h _ (.head _), off1_of fun q hq => h q (.tail _ hq)⟩

def endOf (g a : Int) : Int := if a = 0 then g else a
def pairOf (g : Int) (q : Int × Int) : Int × Int := (min (endOf g q.1) (endOf g q.2), max (endOf g q.1) (endOf g q.2))
def lies (g n : Int) (q : Int × Int) : Bool := decide ((pairOf g q).1 ≤ n) && decide (n ≤ (pairOf g q).2)
def PairAt (led : Led) (q : Int × Int) (v : Value) : Prop := ∃ r ta tb n, v = .ref r ∧ (r, tupOf #[.int q.1 ta, .int q.2 tb] n) ∈ led
inductive Pairs (led : Led) : List Value → List (Int × Int) → Prop
  | nil : Pairs led [] []
  | cons {v : Value} {q : Int × Int} {vs : List Value} {qs : List (Int × Int)} : PairAt led q v → Pairs led vs qs → Pairs led (v :: vs) (q :: qs)
theorem PairAt.mono {l l' : Led} {q : Int × Int} {v : Value} (h : PairAt l q v) (hs : ∀ p ∈ l, p ∈ l') : PairAt l' q v := by
  obtain ⟨r, ta, tb, n, e, h1⟩ := h
  exact ⟨r, ta, tb, n, e, hs _ h1⟩
theorem Pairs.mono {l l' : Led} {vs : List Value} {qs : List (Int × Int)} (h : Pairs l vs qs) (hs : ∀ p ∈ l, p ∈ l') : Pairs l' vs qs := by
  induction h with
  | nil => exact .nil
  | cons a _ ih => exact .cons (a.mono hs) ih
theorem Pairs.len {l : Led} {vs : List Value} {qs : List (Int × Int)} (h : Pairs l vs qs) : vs.length = qs.length := by
  induction h with
  | nil => rfl
  | cons _ _ ih => simp [ih]
theorem Pairs.append {l : Led} {vs vs' : List Value} {qs qs' : List (Int × Int)} (h : Pairs l vs qs) (h' : Pairs l vs' qs') : Pairs l (vs ++ vs') (qs ++ qs') := by
  induction h with
  | nil => exact h'
  | cons a _ ih => exact .cons a ih
theorem Pairs.get {l : Led} {vs : List Value} {qs : List (Int × Int)} (h : Pairs l vs qs) : ∀ {i : Nat} {v : Value}, vs[i]? = some v → ∃ q, qs[i]? = some q ∧ PairAt l q v := by
  induction h with
  | nil => intro i v hv; simp at hv
  | cons a _ ih =>
    intro i v hv
    cases i with
    | zero => simp at hv; subst hv; exact ⟨_, rfl, a⟩
    | succ i => simp at hv; obtain ⟨q, h1, h2⟩ := ih hv; exact ⟨q, by simpa using h1, h2⟩
theorem Pairs.get' {l : Led} {vs : List Value} {qs : List (Int × Int)} (h : Pairs l vs qs) {i : Nat} (hi : i < qs.length) : ∃ v, vs[i]? = some v ∧ PairAt l qs[i] v := by
  have hl : i < vs.length := by rw [h.len]; exact hi
  obtain ⟨u, hu, ha⟩ := h.get (i := i) (v := vs[i]) (by simp [hl])
  refine ⟨vs[i], by simp [hl], ?_⟩
  rw [List.getElem?_eq_getElem hi] at hu
  rw [Option.some.inj hu]
  exact ha

set_option genInjectivity false in
/-- a view's dict -/
structure ViewE where
  mk ::
  (h0 : Int) (t0 : Tok) (h1 : Int) (t1 : Tok) (h2 : Int) (t2 : Tok) (h3 : Int) (t3 : Tok) (h4 : Int) (t4 : Tok) (h5 : Int) (t5 : Tok) (h6 : Int) (t6 : Tok)
abbrev viewObj (e : ViewE) (bx ul fd md : Addr) : Obj := dictOf [⟨e.h0, .str "box" e.t0, .ref bx⟩, ⟨e.h1, .str "is_readonly" e.t1, .bool false⟩, ⟨e.h2, .str "uses_modseq" e.t2, .bool false⟩, ⟨e.h3, .str "uses_vanished" e.t3, .bool false⟩,
    ⟨e.h4, .str "uids" e.t4, .ref ul⟩, ⟨e.h5, .str "flags" e.t5, .ref fd⟩, ⟨e.h6, .str "modseqs" e.t6, .ref md⟩] 7
def ViewD (bx ul fd md : Addr) (o : Obj) : Prop := ∃ e : ViewE, o = viewObj e bx ul fd md
theorem ViewD.of {h0 : Int} {t0 : Tok} {h1 : Int} {t1 : Tok} {h2 : Int} {t2 : Tok} {h3 : Int} {t3 : Tok} {h4 : Int} {t4 : Tok} {h5 : Int} {t5 : Tok} {h6 : Int} {t6 : Tok} {bx ul fd md : Addr} :
    ViewD bx ul fd md (dictOf [⟨h0, .str "box" t0, .ref bx⟩, ⟨h1, .str "is_readonly" t1, .bool false⟩, ⟨h2, .str "uses_modseq" t2, .bool false⟩, ⟨h3, .str "uses_vanished" t3, .bool false⟩,
    ⟨h4, .str "uids" t4, .ref ul⟩, ⟨h5, .str "flags" t5, .ref fd⟩, ⟨h6, .str "modseqs" t6, .ref md⟩] 7) := ⟨⟨h0, t0, h1, t1, h2, t2, h3, t3, h4, t4, h5, t5, h6, t6⟩, rfl⟩
/-- a dict with just these keys; the answers are empty tuples -/
def FlagsD (led : Led) (cs : List Int) (kvs : List (Int × Value)) : Prop :=
  kvs.length ≤ 1000 ∧ (∀ u, (valueAt kvs u).isSome = decide (u ∈ cs)) ∧ ∀ u v, valueAt kvs u = some v → ∃ fl nf, v = .ref fl ∧ (fl, tupOf #[] nf) ∈ led
def KeysD (cs : List Int) (kvs : List (Int × Value)) : Prop := kvs.length ≤ 1000 ∧ ∀ u, (valueAt kvs u).isSome = decide (u ∈ cs)
theorem FlagsD.mono {l l' : Led} {cs : List Int} {kvs : List (Int × Value)} (h : FlagsD l cs kvs) (hs : ∀ q ∈ l, q ∈ l') : FlagsD l' cs kvs := by
  refine ⟨h.1, h.2.1, fun u v hv => ?_⟩
  obtain ⟨fl, nf, e, h1⟩ := h.2.2 u v hv
  exact ⟨fl, nf, e, hs _ h1⟩
theorem merged_keys (kvs more : List (Int × Value)) (u : Int) : (valueAt (merged kvs more) u).isSome = ((valueAt kvs u).isSome || decide (u ∈ more.map (·.1))) := by
  induction more generalizing kvs with
  | nil => simp [merged]
  | cons kv r ih =>
    show (valueAt (merged (stored kvs kv.1 kv.2) r) u).isSome = _
    rw [ih, valueAt_stored]
    by_cases e : u = kv.1
    · simp [e]
    · rw [if_neg e, List.map_cons]
      simp only [List.mem_cons, e, false_or]
theorem merged_vals (P : Value → Prop) (kvs more : List (Int × Value)) (h1 : ∀ u v, valueAt kvs u = some v → P v) (h2 : ∀ kv ∈ more, P kv.2) : ∀ u v, valueAt (merged kvs more) u = some v → P v := by
  induction more generalizing kvs with
  | nil => simpa [merged] using h1
  | cons kv r ih =>
    show ∀ u v, valueAt (merged (stored kvs kv.1 kv.2) r) u = some v → P v
    refine ih (stored kvs kv.1 kv.2) (fun u v hv => ?_) (fun kv' hk => h2 kv' (.tail _ hk))
    rw [valueAt_stored] at hv
    by_cases e : u = kv.1
    · rw [if_pos e] at hv
      cases hv
      exact h2 kv (.head _)
    · rw [if_neg e] at hv
      exact h1 u v hv
/-- items of a comprehension of pairs (key, answer) -/
inductive KVs (led : Led) (P : Value → Prop) : List Value → List Int → List (Int × Value) → Prop
  | nil : KVs led P [] [] []
  | cons {v : Value} {vs : List Value} {k : Int} {ks : List Int} {x : Value} {kvs : List (Int × Value)} : (∃ r t n, v = .ref r ∧ (r, tupOf #[.int k t, x] n) ∈ led) → P x → KVs led P vs ks kvs → KVs led P (v :: vs) (k :: ks) ((k, x) :: kvs)
theorem KVs.mono {l l' : Led} {P : Value → Prop} {vs : List Value} {ks : List Int} {kvs : List (Int × Value)} (h : KVs l P vs ks kvs) (hs : ∀ q ∈ l, q ∈ l') : KVs l' P vs ks kvs := by
  induction h with
  | nil => exact .nil
  | cons a b _ ih =>
    obtain ⟨r, t, n, e, h1⟩ := a
    exact .cons ⟨r, t, n, e, hs _ h1⟩ b ih
theorem KVs.append {l : Led} {P : Value → Prop} {vs vs' : List Value} {ks ks' : List Int} {kvs kvs' : List (Int × Value)} (h : KVs l P vs ks kvs) (h' : KVs l P vs' ks' kvs') : KVs l P (vs ++ vs') (ks ++ ks') (kvs ++ kvs') := by
  induction h with
  | nil => exact h'
  | cons a b _ ih => exact .cons a b ih
theorem KVs.lens {l : Led} {P : Value → Prop} {vs : List Value} {ks : List Int} {kvs : List (Int × Value)} (h : KVs l P vs ks kvs) : vs.length = kvs.length ∧ ks = kvs.map (·.1) ∧ ∀ kv ∈ kvs, P kv.2 := by
  induction h with
  | nil => exact ⟨rfl, rfl, fun _ h => nomatch h⟩
  | cons a b _ ih =>
    refine ⟨by simp [ih.1], by simp [ih.2.1], fun kv hk => ?_⟩
    rcases List.mem_cons.mp hk with rfl | hk
    · exact b
    · exact ih.2.2 kv hk
theorem KVs.get {l : Led} {P : Value → Prop} {vs : List Value} {ks : List Int} {kvs : List (Int × Value)} (h : KVs l P vs ks kvs) : ∀ (i : Nat) (v : Value), vs[i]? = some v → ∃ (k : Int) (x : Value) (t : Tok) (r : Addr) (n : Nat), kvs[i]? = some (k, x) ∧ v = Value.ref r ∧ (r, tupOf #[.int k t, x] n) ∈ l := by
  induction h with
  | nil => intro i v hv; simp at hv
  | cons a b _ ih =>
    intro i v hv
    cases i with
    | zero =>
      simp at hv; subst hv
      obtain ⟨r, t, n, e, h1⟩ := a
      exact ⟨_, _, t, r, n, rfl, e, h1⟩
    | succ i =>
      simp at hv
      obtain ⟨k, x, t, r, n, e1, e2, e3⟩ := ih i v hv
      exact ⟨k, x, t, r, n, by simpa using e1, e2, e3⟩
theorem KVs.snoc {l : Led} {P : Value → Prop} {vs : List Value} {us : List Int} {i : Nat} {u : Int} {x v : Value} {kvs : List (Int × Value)} (h : KVs l P vs (us.take i) kvs) (hu : us[i]? = some u) (hv : ∃ r t n, v = .ref r ∧ (r, tupOf #[.int u t, x] n) ∈ l) (hx : P x) : KVs l P (vs ++ [v]) (us.take (i + 1)) (kvs ++ [(u, x)]) := by
  rw [List.take_add_one, hu]
  exact h.append (.cons hv hx .nil)

theorem sort2 : kas_sort 2 = KasT.ask 1 0 (fun c => if c = true then .ret #[1, 0] else .ret #[0, 1]) := by
  show KasT.ask _ _ _ = _
  congr 1
  funext c
  cases c <;> rfl
theorem sort3 : kas_sort 3 = (.ask 1 0 (fun c => if c = true then (.ask 2 1 (fun c => if c = true then (.ret #[2, 1, 0]) else (.ask 1 2 (fun c => if c = true then (.ask 2 0 (fun c => if c = true then (.ask 2 0 (fun c => if c = true then (.ask 2 1 (fun c => if c = true then (.ret #[2, 1, 0]) else (.ret #[1, 2, 0]))) else (.ret #[1, 0, 2]))) else (.ret #[1, 0, 2]))) else (.ret #[1, 2, 0]))))) else (.ask 2 1 (fun c => if c = true then (.ask 0 1 (fun c => if c = true then (.ask 2 1 (fun c => if c = true then (.ask 2 0 (fun c => if c = true then (.ret #[2, 0, 1]) else (.ret #[0, 2, 1]))) else (.ret #[0, 1, 2]))) else (.ret #[2, 0, 1]))) else (.ret #[0, 1, 2]))))) := by
  repeat' (first | rfl | (show KasT.ask _ _ _ = KasT.ask _ _ _; congr 1; funext c; cases c))
def llt (p q : Int × Int) : Bool := decide (p.1 < q.1) || (decide (p.1 = q.1) && decide (p.2 < q.2))
section
variable {prog : Program} {A : Around} {E : Value → Shared → Prop} {s : Shared} {h₀ : Heap} {L D : Addr} {m : Str → Option Value} {rest : Led}
theorem ask_pair {vs : List Value} {i j : Nat} {qi qj : Int × Int} {C : Bool → Shared → Prop} (N : News h₀ L s.heap rest) (hi : PairAt rest qi (vs.getD i Value.none)) (hj : PairAt rest qj (vs.getD j Value.none)) (h : C (llt qi qj) s) : kas_ask prog w A (tuples' (Value.type "int" != Value.type "tuple")) vs i j C s := by
  obtain ⟨r, ta, tb, n, e, h1⟩ := hi
  obtain ⟨r2, tc, td, n2, e2, h2⟩ := hj
  obtain ⟨a, b⟩ := qi
  obtain ⟨c, d⟩ := qj
  unfold kas_ask
  rw [e, e2]
  refine kat_lt (N _ h1).1 rfl (N _ h2).1 rfl ?_
  show KatLex _ _ _ _ _ _ [(Value.int a ta, Value.int c tc), (Value.int b tb, Value.int d td)] 0 s
  refine kat_cons (wpAny_eqBool_int ?_)
  by_cases e1 : a = c
  · subst e1
    rw [show (a == a) = true by simp]
    refine kat_yes (kat_cons (wpAny_eqBool_int ?_))
    by_cases e2 : b = d
    · subst e2
      rw [show (b == b) = true by simp]
      refine kat_yes (kat_nil ?_)
      have : llt (a, b) (a, b) = false := by simp [llt]
      rw [this] at h
      exact h
    · rw [show (b == d) = false by simpa using e2]
      refine kat_no ?_
      refine kat_one _ _ (wpAny_lt_int ?_)
      have : llt (a, b) (a, d) = decide (b < d) := by simp [llt]
      rw [this] at h
      exact h
  · rw [show (a == c) = false by simpa using e1]
    refine kat_no ?_
    refine oneLt_int ?_
    have : llt (a, b) (c, d) = decide (a < c) := by simp [llt, e1]
    rw [this] at h
    exact h
theorem katTups_of {h : Heap} (N : News h₀ L h rest) : ∀ {vs : List Value} {qs : List (Int × Int)}, Pairs rest vs qs → ∃ fs, KatTups h vs fs ∧ fs.length = vs.length ∧ ∀ v ∈ fs, Looks (model prog w) h (typeOf v) (Value.type "int")
  | _, _, .nil => ⟨[], .nil, rfl, fun _ h => (nomatch h)⟩
  | _, _, .cons (q := q) a r => by
    obtain ⟨fs, h1, h2, h3⟩ := katTups_of N r
    obtain ⟨x, ta, tb, n, rfl, hx⟩ := a
    refine ⟨.int q.1 ta :: fs, .cons (N _ hx).1 rfl rfl rfl h1, by simp [h2], fun v hv => ?_⟩
    rcases List.mem_cons.mp hv with rfl | hv
    · exact Looks.of_pure rfl
    · exact h3 v hv
theorem zip_snd (vs : Array Value) : (vs.zip vs).map (·.2) = vs := by
  apply Array.ext
  · simp
  · intro i h1 h2
    simp
theorem sort_small {vs : List Value} {n : Nat} {P : PySem.Fin → Shared → Prop} (F : Fr h₀ L s.heap m) (N : News h₀ L s.heap ((D, listOf vs.toArray n) :: rest)) (hD : ∀ q ∈ rest, q.1 ≠ D) (h2 : vs.length < 2)
    (h : ∀ h' n', Fr h₀ L h' m → News h₀ L h' ((D, listOf vs.toArray n') :: rest) → P (.done (.ret .none)) { s with heap := h' }) :
    wpAny (model prog w) A (Builtin.«list.sort» ⟨[.ref D], []⟩) P E s := by
  have ho : s.heap.get? D = some (seqObj "list" vs.toArray n) := (N _ (.head _)).1
  have haL : D ≠ L := (N _ (.head _)).2.1
  have ha0 : h₀.get? D = none := (N _ (.head _)).2.2
  have N0 : News h₀ L s.heap rest := fun p hp => N p (.tail _ hp)
  have ha : D < s.heap.objs.size := Heap.lt_size ho
  have s1 := Heap.SameBut.update s.heap D (Obj.mapSeq fun _ => (#[] : Array Value))
  obtain ⟨e1, ho1⟩ : ∃ e1, (s.heap.update D (Obj.mapSeq fun _ => (#[] : Array Value))).get? D = some (seqObj "list" #[] e1) := ⟨_, get?_update_seq ho fun _ => #[]⟩
  have F3 : Fr h₀ L (((s.heap.update D (Obj.mapSeq fun _ => (#[] : Array Value))).push (seqObj "tuple" vs.toArray 0)).push (seqObj "list" #[] 0)) m := ((kas_fr F s1 haL ha0).push _).push _
  have N2 : News h₀ L (((s.heap.update D (Obj.mapSeq fun _ => (#[] : Array Value))).push (seqObj "tuple" vs.toArray 0)).push (seqObj "list" #[] 0)) rest :=
    (kas_news N0 s1 hD).grown fun b x e => Heap.get?_push_of_some _ (Heap.get?_push_of_some _ e)
  have na : (((s.heap.update D (Obj.mapSeq fun _ => (#[] : Array Value))).push (seqObj "tuple" vs.toArray 0)).push (seqObj "list" #[] 0)).get? D = some (seqObj "list" #[] e1) := Heap.get?_push_of_some _ (Heap.get?_push_of_some _ ho1)
  rw [list_sort_plain]
  refine wpAny_bind (listItems_at ho rfl ?_)
  refine wpAny_bind (listUpdate_at ho rfl ?_ (by rw [List.size_toArray, sizeLine_eq]; omega) (Nat.zero_le _))
  refine wpAny_bind (seqEpoch_at ho1 rfl ?_)
  refine wpAny_bind (wpAny_newTuple ?_ (by show vs.length ≤ _; rw [sizeLine_eq]; omega))
  refine wpAny_bind (wpAny_newList ?_ (Nat.zero_le _))
  refine wpAny_holding ?_
  show wpAny (model prog w) A _ P E { s with heap := ((s.heap.update D (Obj.mapSeq fun _ => (#[] : Array Value))).push (seqObj "tuple" vs.toArray 0)).push (seqObj "list" #[] 0) }
  dsimp only
  have hn2 : vs.toArray.size < 2 := by rw [List.size_toArray]; omega
  rw [if_pos hn2, if_pos hn2]
  refine wpAny_bind (wpAny_pure ?_)
  rw [StateT.run_pure]
  refine wpAny_bind (wpAny_pure ?_)
  dsimp only
  have hout : (arrOf (SortSt.mk' general' (vs.toArray.zip vs.toArray) #[] 7 none)).map (·.2) = vs.toArray := zip_snd _
  rw [hout]
  have s2 := Heap.SameBut.update (((s.heap.update D (Obj.mapSeq fun _ => (#[] : Array Value))).push (seqObj "tuple" vs.toArray 0)).push (seqObj "list" #[] 0)) D (Obj.mapSeq fun _ => vs.toArray)
  obtain ⟨c2, hc2⟩ : ∃ c2, ((((s.heap.update D (Obj.mapSeq fun _ => (#[] : Array Value))).push (seqObj "tuple" vs.toArray 0)).push (seqObj "list" #[] 0)).update D (Obj.mapSeq fun _ => vs.toArray)).get? D = some (seqObj "list" vs.toArray c2) := ⟨_, get?_update_seq na fun _ => vs.toArray⟩
  refine wpAny_bind (seqEpoch_at na rfl ?_)
  refine wpAny_bind (listUpdate_at na rfl ?_ (Nat.zero_le _) (by rw [List.size_toArray, sizeLine_eq]; omega))
  show wpAny _ _ (match failedOf (SortSt.mk' general' (vs.toArray.zip vs.toArray) #[] 7 none) with | _ => _) _ _ _
  simp only [bne_self_eq_false, Bool.false_eq_true, if_false]
  refine wpAny_pure (h _ c2 (kas_fr F3 s2 haL ha0) fun p hp => ?_)
  rcases List.mem_cons.mp hp with rfl | hp
  · exact ⟨hc2, haL, ha0⟩
  · exact kas_news N2 s2 hD p hp
end
section
variable {prog : Program} {A : Around} {E : Value → Shared → Prop} {s : Shared} {h₀ : Heap} {L D : Addr} {m : Str → Option Value} {rest : Led}
theorem sort_leaf {qs qs' : List (Int × Int)} {out : List Value} {e1 len : Nat} {Q : Value → Shared → Prop} (F : Fr h₀ L s.heap m) (N : News h₀ L s.heap ((D, seqObj "list" #[] e1) :: rest)) (hD : ∀ q ∈ rest, q.1 ≠ D)
    (h : ∀ h' vs' qs' n', Fr h₀ L h' m → News h₀ L h' ((D, listOf (List.toArray vs') n') :: rest) → Pairs rest vs' qs' → qs'.Pairwise (fun a b => a.1 ≤ b.1) → (∀ q, q ∈ qs' ↔ q ∈ qs) → vs'.length = len → Q .none { s with heap := h' })
    (h1 : Pairs rest out qs') (h2 : qs'.Pairwise (fun a b => a.1 ≤ b.1)) (h3 : ∀ q, q ∈ qs' ↔ q ∈ qs) (h4 : out.length = len) : KasFin h₀ L m D e1 out (fun s3 => Q .none s3) s :=
  KasFin.intro F N (UpdF.head hD) fun h' c F' N' => h h' out qs' c F' N' h1 h2 h3 h4
theorem llt_t {a b : Int × Int} (h : llt a b = true) : a.1 ≤ b.1 := by
  simp only [llt, Bool.or_eq_true, Bool.and_eq_true, decide_eq_true_eq] at h
  omega
theorem llt_f {a b : Int × Int} (h : llt a b = false) : b.1 ≤ a.1 := by
  simp only [llt, Bool.or_eq_false_iff, Bool.and_eq_false_iff, decide_eq_false_iff_not] at h
  omega
theorem sort_pairs {vs : List Value} {qs : List (Int × Int)} {n : Nat} {Q : Value → Shared → Prop} (F : Fr h₀ L s.heap m) (N : News h₀ L s.heap ((D, listOf vs.toArray n) :: rest)) (hD : ∀ q ∈ rest, q.1 ≠ D) (hP : Pairs rest vs qs) (hlen : qs.length ≤ 3)
    (h : ∀ h' vs' qs' n', Fr h₀ L h' m → News h₀ L h' ((D, listOf (List.toArray vs') n') :: rest) → Pairs rest vs' qs' → qs'.Pairwise (fun a b => a.1 ≤ b.1) → (∀ q, q ∈ qs' ↔ q ∈ qs) → vs'.length = vs.length → Q .none { s with heap := h' }) :
    wpAny (model prog w) A (call (.builtin "list.sort") [.ref D]) Q E s := by
  have hvl := hP.len
  by_cases h2 : 2 ≤ vs.length
  · refine kat_lsort (vs := vs) F N (UpdF.head hD) rfl h2 (by omega) ?_
    intro e1 h' F' N'
    have N1 : News h₀ L h' rest := fun p hp => N' p (.tail _ hp)
    obtain ⟨fs, hfs, hfl, hfi⟩ := katTups_of (prog := prog) (w := w) N1 hP
    refine kat_kind hfs (by omega) hfi rfl ?_
    cases hP with
    | nil => exact absurd h2 (by decide)
    | cons a0 r =>
      rename_i v0 q0 vs1 qs1
      cases r with
      | nil => exact absurd h2 (by simp)
      | cons a1 r =>
        rename_i v1 q1 vs2 qs2
        cases r with
        | nil =>
          show (kas_sort 2).kasWp _ _ _
          rw [sort2]
          simp only [KasT.kasWp]
          refine ask_pair (qi := q1) (qj := q0) N1 a1 a0 ?_
          cases c1 : llt q1 q0 with
          | true =>
            exact sort_leaf F' N' hD h (.cons a1 (.cons a0 .nil)) (by simpa using llt_t c1) (by intro q; simp [or_comm]) rfl
          | false =>
            exact sort_leaf F' N' hD h (.cons a0 (.cons a1 .nil)) (by simpa using llt_f c1) (by intro q; simp) rfl
        | cons a2 r =>
          rename_i v2 q2 vs3 qs3
          cases r with
          | cons a3 r =>
            simp only [List.length_cons] at hlen
            omega
          | nil =>
            show (kas_sort 3).kasWp _ _ _
            rw [sort3]
            simp only [KasT.kasWp]
            refine ask_pair (qi := q1) (qj := q0) N1 a1 a0 ?_
            cases c10 : llt q1 q0 with
            | true =>
              have d10 := llt_t c10
              refine ask_pair (qi := q2) (qj := q1) N1 a2 a1 ?_
              cases c21 : llt q2 q1 with
              | true =>
                have d21 := llt_t c21
                exact sort_leaf F' N' hD h (.cons a2 (.cons a1 (.cons a0 .nil))) (by simp; omega) (by intro q; simp; constructor <;> (intro hh; rcases hh with hh | hh | hh <;> simp [hh])) rfl
              | false =>
                have d21 := llt_f c21
                refine ask_pair (qi := q1) (qj := q2) N1 a1 a2 ?_
                cases c12 : llt q1 q2 with
                | true =>
                  refine ask_pair (qi := q2) (qj := q0) N1 a2 a0 ?_
                  cases c20 : llt q2 q0 with
                  | true =>
                    have d20 := llt_t c20
                    refine ask_pair (qi := q2) (qj := q0) N1 a2 a0 ?_
                    rw [c20]
                    refine ask_pair (qi := q2) (qj := q1) N1 a2 a1 ?_
                    rw [c21]
                    exact sort_leaf F' N' hD h (.cons a1 (.cons a2 (.cons a0 .nil))) (by simp; omega) (by intro q; simp; constructor <;> (intro hh; rcases hh with hh | hh | hh <;> simp [hh])) rfl
                  | false =>
                    have d20 := llt_f c20
                    exact sort_leaf F' N' hD h (.cons a1 (.cons a0 (.cons a2 .nil))) (by simp; omega) (by intro q; simp; constructor <;> (intro hh; rcases hh with hh | hh | hh <;> simp [hh])) rfl
                | false =>
                  have d12 := llt_f c12
                  exact sort_leaf F' N' hD h (.cons a1 (.cons a2 (.cons a0 .nil))) (by simp; omega) (by intro q; simp; constructor <;> (intro hh; rcases hh with hh | hh | hh <;> simp [hh])) rfl
            | false =>
              have d10 := llt_f c10
              refine ask_pair (qi := q2) (qj := q1) N1 a2 a1 ?_
              cases c21 : llt q2 q1 with
              | true =>
                have d21 := llt_t c21
                refine ask_pair (qi := q0) (qj := q1) N1 a0 a1 ?_
                cases c01 : llt q0 q1 with
                | true =>
                  refine ask_pair (qi := q2) (qj := q1) N1 a2 a1 ?_
                  rw [c21]
                  refine ask_pair (qi := q2) (qj := q0) N1 a2 a0 ?_
                  cases c20 : llt q2 q0 with
                  | true =>
                    have d20 := llt_t c20
                    exact sort_leaf F' N' hD h (.cons a2 (.cons a0 (.cons a1 .nil))) (by simp; omega) (by intro q; simp; constructor <;> (intro hh; rcases hh with hh | hh | hh <;> simp [hh])) rfl
                  | false =>
                    have d20 := llt_f c20
                    exact sort_leaf F' N' hD h (.cons a0 (.cons a2 (.cons a1 .nil))) (by simp; omega) (by intro q; simp; constructor <;> (intro hh; rcases hh with hh | hh | hh <;> simp [hh])) rfl
                | false =>
                  have d01 := llt_f c01
                  exact sort_leaf F' N' hD h (.cons a2 (.cons a0 (.cons a1 .nil))) (by simp; omega) (by intro q; simp; constructor <;> (intro hh; rcases hh with hh | hh | hh <;> simp [hh])) rfl
              | false =>
                have d21 := llt_f c21
                exact sort_leaf F' N' hD h (.cons a0 (.cons a1 (.cons a2 .nil))) (by simp; omega) (by intro q; simp) rfl
  · refine wpAny_call_entry slot_list_sort ⟨_, (N _ (.head _)).1, rfl⟩ entry_list_sort (sort_small F N hD (by omega) fun h' n' F' N' => ?_) (args_list_sort _)
    refine ⟨_, rfl, ?_⟩
    refine h h' vs qs n' F' N' hP ?_ (fun _ => Iff.rfl) rfl
    cases hP with
    | nil => simp
    | cons a0 r =>
      cases r with
      | nil => simp
      | cons a1 r => simp at h2
end
theorem idx_last (n : Nat) : seqIndex? (-1) (n + 1) = some n := by
  unfold seqIndex?
  have h1 : ((-1 : Int) < 0) := by decide
  simp only [h1, if_true]
  have h2 : (-1 : Int) + ((n + 1 : Nat) : Int) = (n : Int) := by omega
  rw [h2]
  have h3 : (decide (0 ≤ (n : Int)) && decide ((n : Int) < ((n + 1 : Nat) : Int))) = true := by
    simp only [Bool.and_eq_true, decide_eq_true_eq]; omega
  rw [if_pos h3]; rfl
theorem setL_last (ys : List Value) (v0 v : Value) : ki_setL (ys ++ [v0]) ys.length v = some (ys ++ [v]) := by
  induction ys with
  | nil => rfl
  | cons y ys ih => simp only [List.cons_append, List.length_cons, ki_setL, ih]
section
variable {prog : Program} {A : Around} {E : Value → Shared → Prop} {s : Shared} {h₀ : Heap} {L D : Addr} {m : Str → Option Value} {news news' : Led}
theorem sub_last {value slice : PySem.Expr} {l : Addr} {ys : List Value} {v : Value} {u : Tok} {Q : Value → Shared → Prop} (hl : s.heap.IsList l (List.toArray (ys ++ [v]))) (h : Q v s)
    (hs : subscripted slice false (.ref l) (.int (-1) u) = operate [.ref l, .int (-1) u] (getItem (.ref l) (.int (-1) u))) : wpAny (model prog w) A (subscriptTail value slice (.ref l) (.int (-1) u)) Q E s :=
  kde_neg (j := ys.length) hl (by decide) (by decide) (by rw [List.length_append]; exact idx_last _) (by simp) h hs
theorem set_last {ys : List Value} {v0 v : Value} {n : Nat} {u : Tok} {Q : Unit → Shared → Prop} (F : Fr h₀ L s.heap m) (N : News h₀ L s.heap news) (U : Upd D (listOf (List.toArray (ys ++ [v0])) n) (listOf (List.toArray (ys ++ [v])) n) news news')
    (h : ∀ h', Fr h₀ L h' m → News h₀ L h' news' → Q () { s with heap := h' }) : wpAny (model prog w) A (setItem (.ref D) (.int (-1) u) v) Q E s :=
  ki_setNeg (j := ys.length) (q := ys ++ [v]) F N (by decide) (by decide) (by rw [List.size_toArray, List.length_append]; exact idx_last _) (setL_last ys v0 v) U h
end
/-- what the merging of pairs has laid out behind the pairs «done» -/
def Merged (done os : List (Int × Int)) : Prop :=
  os.Pairwise (fun a b => a.2 + 1 < b.1) ∧ (∀ o ∈ os, o.1 ≤ o.2) ∧ (∀ n : Int, (∃ o ∈ os, o.1 ≤ n ∧ n ≤ o.2) ↔ ∃ q ∈ done, q.1 ≤ n ∧ n ≤ q.2) ∧ (∀ o ∈ os, ∃ q ∈ done, o.1 = q.1) ∧ os.length ≤ done.length
theorem Merged.nil : Merged [] [] := ⟨.nil, (fun _ h => nomatch h), (fun n => by simp), (fun _ h => nomatch h), Nat.le_refl _⟩
theorem Merged.first {l h : Int} (hlh : l ≤ h) {done : List (Int × Int)} (M : Merged done []) : Merged (done ++ [(l, h)]) [(l, h)] := by
  obtain ⟨h1, h2, h3, h4, h5⟩ := M
  refine ⟨by simp, by simpa using hlh, fun n => ?_, fun o ho => ⟨(l, h), by simp, by rw [List.mem_singleton.mp ho]⟩, by simp⟩
  constructor
  · rintro ⟨o, ho, hn⟩
    exact ⟨o, List.mem_append_right _ ho, hn⟩
  · rintro ⟨q, hq, hn⟩
    rcases List.mem_append.mp hq with hq | hq
    · obtain ⟨o, ho, _⟩ := (h3 n).mpr ⟨q, hq, hn⟩
      cases ho
    · exact ⟨q, hq, hn⟩
theorem Merged.push {l h : Int} (hlh : l ≤ h) {done oo : List (Int × Int)} {a b : Int} (M : Merged done (oo ++ [(a, b)])) (hlt : ¬ l ≤ b + 1) : Merged (done ++ [(l, h)]) (oo ++ [(a, b)] ++ [(l, h)]) := by
  obtain ⟨h1, h2, h3, h4, h5⟩ := M
  refine ⟨?_, ?_, fun n => ?_, ?_, by simp only [List.length_append] at h5 ⊢; simp only [List.length_singleton] at h5 ⊢; omega⟩
  · rw [List.pairwise_append]
    refine ⟨h1, by simp, ?_⟩
    intro x hx y hy
    rw [List.mem_singleton.mp hy]
    show x.2 + 1 < l
    rcases List.mem_append.mp hx with hx | hx
    · have e1 := (List.pairwise_append.mp h1).2.2 x hx (a, b) (by simp)
      have e2 := h2 (a, b) (by simp)
      simp only at e1 e2
      omega
    · rw [List.mem_singleton.mp hx]
      show b + 1 < l
      omega
  · intro o ho
    rcases List.mem_append.mp ho with ho | ho
    · exact h2 o ho
    · rw [List.mem_singleton.mp ho]; exact hlh
  · constructor
    · rintro ⟨o, ho, hn⟩
      rcases List.mem_append.mp ho with ho | ho
      · obtain ⟨q, hq, hn'⟩ := (h3 n).mp ⟨o, ho, hn⟩
        exact ⟨q, List.mem_append_left _ hq, hn'⟩
      · exact ⟨o, List.mem_append_right _ ho, hn⟩
    · rintro ⟨q, hq, hn⟩
      rcases List.mem_append.mp hq with hq | hq
      · obtain ⟨o, ho, hn'⟩ := (h3 n).mpr ⟨q, hq, hn⟩
        exact ⟨o, List.mem_append_left _ ho, hn'⟩
      · exact ⟨q, List.mem_append_right _ hq, hn⟩
  · intro o ho
    rcases List.mem_append.mp ho with ho | ho
    · obtain ⟨q, hq, e⟩ := h4 o ho
      exact ⟨q, List.mem_append_left _ hq, e⟩
    · exact ⟨o, List.mem_append_right _ ho, rfl⟩
theorem Merged.join {l h : Int} (hlh : l ≤ h) {done oo : List (Int × Int)} {a b c : Int} (hc : c = max b h) (M : Merged done (oo ++ [(a, b)])) (hs : ∀ q ∈ done, q.1 ≤ l) (hlt : l ≤ b + 1) : Merged (done ++ [(l, h)]) (oo ++ [(a, c)]) := by
  obtain ⟨h1, h2, h3, h4, h5⟩ := M
  have hab : a ≤ b := h2 (a, b) (by simp)
  have hal : a ≤ l := by
    obtain ⟨q, hq, e⟩ := h4 (a, b) (by simp)
    have := hs q hq
    simp only at e
    omega
  refine ⟨?_, ?_, fun n => ?_, ?_, by simp only [List.length_append] at h5 ⊢; simp only [List.length_singleton] at h5 ⊢; omega⟩
  · rw [List.pairwise_append] at h1 ⊢
    refine ⟨h1.1, by simp, ?_⟩
    intro x hx y hy
    rw [List.mem_singleton.mp hy]
    exact h1.2.2 x hx (a, b) (by simp)
  · intro o ho
    rcases List.mem_append.mp ho with ho | ho
    · exact h2 o (List.mem_append_left _ ho)
    · rw [List.mem_singleton.mp ho]
      show a ≤ c
      omega
  · constructor
    · rintro ⟨o, ho, hn⟩
      rcases List.mem_append.mp ho with ho | ho
      · obtain ⟨q, hq, hn'⟩ := (h3 n).mp ⟨o, List.mem_append_left _ ho, hn⟩
        exact ⟨q, List.mem_append_left _ hq, hn'⟩
      · rw [List.mem_singleton.mp ho] at hn
        simp only at hn
        by_cases hb : n ≤ b
        · obtain ⟨q, hq, hn'⟩ := (h3 n).mp ⟨(a, b), by simp, hn.1, hb⟩
          exact ⟨q, List.mem_append_left _ hq, hn'⟩
        · exact ⟨(l, h), by simp, by show l ≤ n; omega, by show n ≤ h; omega⟩
    · rintro ⟨q, hq, hn⟩
      rcases List.mem_append.mp hq with hq | hq
      · obtain ⟨o, ho, hn'⟩ := (h3 n).mpr ⟨q, hq, hn⟩
        rcases List.mem_append.mp ho with ho | ho
        · exact ⟨o, List.mem_append_left _ ho, hn'⟩
        · rw [List.mem_singleton.mp ho] at hn'
          simp only at hn'
          exact ⟨(a, c), by simp, hn'.1, by show n ≤ c; omega⟩
      · rw [List.mem_singleton.mp hq] at hn
        simp only at hn
        exact ⟨(a, c), by simp, by show a ≤ n; omega, by show n ≤ c; omega⟩
  · intro o ho
    rcases List.mem_append.mp ho with ho | ho
    · obtain ⟨q, hq, e⟩ := h4 o (List.mem_append_left _ ho)
      exact ⟨q, List.mem_append_left _ hq, e⟩
    · rw [List.mem_singleton.mp ho]
      obtain ⟨q, hq, e⟩ := h4 (a, b) (by simp)
      exact ⟨q, List.mem_append_left _ hq, e⟩
theorem pairOf_le (g : Int) (q : Int × Int) : (pairOf g q).1 ≤ (pairOf g q).2 := by
  simp only [pairOf]; omega
def nums (n : Nat) : List Int := (List.range n).map fun (i : Nat) => (i : Int) + 1
def lastOf (l : List Int) : Int := l.getLast?.getD 0
def named (qs : List (Int × Int)) (g n : Int) : Bool := qs.any (lies g n)
def selT (cs : List Int) (qs : List (Int × Int)) : List Int := cs.filter (named qs (lastOf cs))
def selF (cs : List Int) (qs : List (Int × Int)) : List Int := ((nums cs.length).filter (named qs cs.length)).map fun n => cs.getD (n - 1).toNat 0
def sel (b : Bool) (cs : List Int) (qs : List (Int × Int)) : List Int := if b then selT cs qs else selF cs qs
theorem Merged.named {qs os : List (Int × Int)} {done : List (Int × Int)} {g : Int} (M : Merged done os) (hd : ∀ q, q ∈ done ↔ q ∈ qs.map (pairOf g)) (n : Int) : (∃ o ∈ os, o.1 ≤ n ∧ n ≤ o.2) ↔ named qs g n = true := by
  rw [M.2.2.1 n]
  simp only [Mine.named, List.any_eq_true, lies, Bool.and_eq_true, decide_eq_true_eq]
  constructor
  · rintro ⟨q, hq, h1, h2⟩
    obtain ⟨p, hp, rfl⟩ := List.mem_map.mp ((hd q).mp hq)
    exact ⟨p, hp, h1, h2⟩
  · rintro ⟨p, hp, h1, h2⟩
    exact ⟨_, (hd _).mpr (List.mem_map.mpr ⟨p, hp, rfl⟩), h1, h2⟩
theorem Pairs.unsnoc {l : Led} {vs : List Value} {qs : List (Int × Int)} (h : Pairs l vs qs) : (vs = [] ∧ qs = []) ∨ ∃ ys yv oo a b, vs = ys ++ [yv] ∧ qs = oo ++ [(a, b)] ∧ Pairs l ys oo ∧ PairAt l (a, b) yv := by
  induction h with
  | nil => exact .inl ⟨rfl, rfl⟩
  | cons a r ih =>
    rename_i v q vs qs
    right
    rcases ih with ⟨rfl, rfl⟩ | ⟨ys, yv, oo, x, y, rfl, rfl, h1, h2⟩
    · exact ⟨[], v, [], q.1, q.2, rfl, rfl, .nil, a⟩
    · exact ⟨v :: ys, yv, q :: oo, x, y, rfl, rfl, .cons a h1, h2⟩

theorem du_entry_dict_update_loop : entryFor table "dict.update.loop" = some Builtin.«dict.update.loop» := entryFor_of_tree (by kernel_rfl)
theorem du_plain_dict_update_loop : plainId "dict.update.loop" = true := by decide +kernel
theorem du_list_no_keys : typeLookup (.type "list") "keys" = pure none := am_miss_of_fast (by kernel_rfl)
theorem getAttr?_miss_list {prog : Program} {A : Around} {E : Value → Shared → Prop} {s : Shared} {a : Addr} {o : Obj} {xs : Array Value} {k : Nat} {name : Str} {Q : Option Value → Shared → Prop}
    (hx : s.heap.get? a = some o) (hc : o.cls = .type "list") (hdat : o.data = .seq xs k) (hd : o.dict = none) (hmiss : typeLookup (.type "list") name = pure none) (hname : (["__module__", "__name__", "__qualname__", "__doc__", "__annotations__"] : List Str).contains name = false) (hA : A.handled = none)
    (h : ∀ h' tk, (∀ b o, s.heap.get? b = some o → h'.get? b = some o) → Q none { s with heap := h', toks := tk }) (hsz : name.length + 100 ≤ sizeLine) :
    wpAny (model prog w) A (getAttr? (.ref a) name) Q E s := by
  obtain ⟨c, dct, dat, sl⟩ := o
  simp only at hc hdat hd
  subst hc hdat hd
  obtain ⟨hp, g, d, tk, os⟩ := s
  have hT : ∀ tk', (⟨hp, g, d, tk', os⟩ : Shared).TypeIs (.ref a) "list" := fun _ => ⟨_, hx, rfl⟩
  have f1 := sub_AttributeError
  have f3 := PySem.F.slot_list_getattribute.lookup
  have f4 := PySem.F.slot_list_getattribute.bind (.ref a)
  have f5 := am_list_getattr_none
  unfold getAttr? getAttrBy? getAttrBy
  repeat (any_goals (first | assumption | exact hT _ | ((with_reducible show wpAny _ _ (call (Value.builtin "list.__getattribute__") _ _) _ _ _); refine call_meets PySem.F.slot_list_getattribute (hT _) am_entry_list_getattribute (PySem.F.args_list_getattribute_2 _ _) (meets_getattribute_miss_list a xs k sl name _ hmiss hname hsz) ⟨hx, hA, fun h' tk' e hx' => ?_⟩) | wp_step))
  obtain ⟨t', u', he⟩ := hx'.there
  show wpAny _ _ (getattributeRaised _ _ _ _ _ _ _) _ _ _
  unfold getattributeRaised
  repeat (any_goals (first | assumption | wp_step))
  exact h _ _ hx'.keeps
theorem dict_loop {A : Around} {R : Result → Shared → Prop} {l S I : Addr} {vs : List Value} {kvs : List (Int × Value)} {base : Heap} (hh : A.in1.handled = none) (hlI : @Ne Nat l I) (hS : S = base.objs.size) (hl : @LT.lt Nat _ l S) (hI : @LT.lt Nat _ S I)
    (hkv : ∀ (i : Nat) (v : Value), vs[i]? = some v → ∃ (k : Int) (x : Value) (t : Tok) (r : Addr) (n : Nat), kvs[i]? = some (k, x) ∧ v = Value.ref r ∧ base.get? r = some (tupOf #[.int k t, x] n)) (hlen : vs.length = kvs.length) (hsz : kvs.length ≤ 16777216) :
    ∀ (k i : Nat) (s : Shared) (iv : Int) (ti : Tok), vs.length - i = k → i ≤ vs.length → s.heap.IsListIter I l i ∧ s.heap.IsList l vs.toArray → s.heap.DictOf (PySem.intKind PySem.Challenge.rw_or0056_01.row.prog w) S (merged [] (kvs.take i)) → (∀ b o, base.get? b = some o → s.heap.get? b = some o) →
      (∀ h' tk, h'.DictOf (PySem.intKind PySem.Challenge.rw_or0056_01.row.prog w) S (merged [] kvs) → (∀ b o, base.get? b = some o → h'.get? b = some o) → R (.ok (.ret .none)) { s with heap := h', toks := tk }) →
      codeAny (model PySem.Challenge.rw_or0056_01.row.prog w) A (.builtin "dict.update.loop" ⟨[.ref S, .ref I, .int iv ti, .none], []⟩) R s := by
  have W := Walks.list (prog := PySem.Challenge.rw_or0056_01.row.prog) (w := w) hh I l hlI vs.toArray
  have hz : vs.toArray.size = vs.length := List.size_toArray ..
  rw [hz] at W
  have lt_of : ∀ b o, base.get? b = some o → @LT.lt Nat _ b S := fun b o e => by rw [hS]; exact Heap.lt_size e
  intro k
  induction k with
  | zero =>
    intro i s iv ti hk hi hst hD hb hR
    have hin : i = vs.length := by omega
    subst hin
    refine codeAny_builtin du_entry_dict_update_loop ?_
    rw [Around.under_plainId du_plain_dict_update_loop _]
    show wpAny _ A.in1 (pyNext (.ref I) >>= _) _ _ s
    refine wpAny_bind (W.done s _ _ hst fun h' tk hm => ?_)
    show wpAny _ A.in1 (Builtin.Dict.addKeywords S [] >>= fun _ => ret Value.none) _ _ _
    refine wpAny_bind (wpAny_pure (wpAny_pure ?_))
    refine hR h' tk ?_ fun b o e => hm b o ?_ (hb b o e)
    · rw [hlen, List.take_length] at hD
      obtain ⟨o, es, ep, ho, rest⟩ := hD
      refine ⟨o, es, ep, hm S o ?_ ho, rest⟩
      simp only [List.mem_singleton]
      exact fun e => Nat.lt_irrefl _ (e ▸ hI)
    · simp only [List.mem_singleton]
      intro e2
      subst e2
      exact Nat.lt_asymm (lt_of _ _ e) hI
  | succ k ih =>
    intro i s iv ti hk hi hst hD hb hR
    have hlt : i < vs.length := by omega
    refine codeAny_builtin du_entry_dict_update_loop ?_
    rw [Around.under_plainId du_plain_dict_update_loop _]
    show wpAny _ A.in1 (pyNext (.ref I) >>= _) _ _ s
    refine wpAny_bind (W.item i s _ _ hlt hst fun v h' tk hP hst' hm => ?_)
    obtain ⟨kk, x, t, r, n, hkx, rfl, hr⟩ := hkv i v (by simpa using hP)
    have hb' : ∀ b o, base.get? b = some o → h'.get? b = some o := fun b o e => hm b o (by
      simp only [List.mem_singleton]
      intro e2
      subst e2
      exact Nat.lt_asymm (lt_of _ _ e) hI) (hb b o e)
    have hD' : h'.DictOf (PySem.intKind PySem.Challenge.rw_or0056_01.row.prog w) S (merged [] (kvs.take i)) := by
      obtain ⟨o, es, ep, ho, rest⟩ := hD
      refine ⟨o, es, ep, hm S o ?_ ho, rest⟩
      simp only [List.mem_singleton]
      exact fun e => Nat.lt_irrefl _ (e ▸ hI)
    refine wpAny_bind (wpAny_holding (wpAny_bind (wpAny_tryCatch ?_)))
    unfold Builtin.Dict.pairItems
    refine wpAny_bind (wpAny_typeOf (T := "tuple") ⟨_, hb' _ _ hr, rfl⟩ ?_)
    rw [if_pos (by decide)]
    refine wpAny_bind (wpAny_seqItems (hb' _ _ hr) rfl (wpAny_pure ?_))
    show wpAny _ _ (holding [Value.int kk t, x] (dictSet S (.int kk t) x)) _ _ _
    have hml := merged_length_le [] (kvs.take i)
    have htl : (kvs.take i).length ≤ kvs.length := by rw [List.length_take]; omega
    refine wpAny_holding (wpAny_dictSet_pairs (knd := PySem.intKind PySem.Challenge.rw_or0056_01.row.prog w) (intKind_is _ _ _ _) hD' (fun h2 hd2 hs2 => ?_) (by rw [sizeLine_eq]; simp only [List.length_nil, Nat.zero_add] at hml; omega))
    have hb2 : ∀ b o, base.get? b = some o → h2.get? b = some o := fun b o e => (hs2.2 b (Nat.ne_of_lt (lt_of _ _ e))).trans (hb' b o e)
    refine wpAny_pure ⟨plainId_quiet du_plain_dict_update_loop _, ih (i + 1) _ _ _ (by omega) hlt ?_ ?_ hb2 fun h3 tk3 hd3 hb3 => hR h3 tk3 hd3 hb3⟩
    · refine ⟨hst'.1.at fun o e => (hs2.2 I (Nat.ne_of_gt hI)).trans e, hst'.2.at fun o e => (hs2.2 l (Nat.ne_of_lt hl)).trans e⟩
    · rw [merged_take_succ [] kvs i (kk, x) hkx]
      exact hd2
theorem call_dict_pairs {A : Around} {E : Value → Shared → Prop} {s : Shared} {h₀ : Heap} {L l : Addr} {m : Str → Option Value} {news : Led} {vs : List Value} {kvs : List (Int × Value)} {n : Nat} {Q : Value → Shared → Prop} (F : Fr h₀ L s.heap m) (N : News h₀ L s.heap news) (hbig : h₀.NoLimit) (hh : A.handled = none)
    (hl : (l, listOf vs.toArray n) ∈ news) (hkv : ∀ (i : Nat) (v : Value), vs[i]? = some v → ∃ (k : Int) (x : Value) (t : Tok) (r : Addr) (n : Nat), kvs[i]? = some (k, x) ∧ v = Value.ref r ∧ (r, tupOf #[.int k t, x] n) ∈ news) (hlen : vs.length = kvs.length) (hsz : kvs.length ≤ 16777216)
    (h : ∀ D h' o tk, Fr h₀ L h' m → News h₀ L h' ((D, o) :: news) → (∀ p ∈ news, p.1 < D) → (D == sysModules) = false → o.IsDictOf (PySem.intKind PySem.Challenge.rw_or0056_01.row.prog w) (merged [] kvs) → Q (.ref D) { s with heap := h', toks := tk }) :
    wpAny (model PySem.Challenge.rw_or0056_01.row.prog w) A (call (.type "dict") [.ref l]) Q E s := by
  refine callType_codes (Q₁ := fun obj s₁ => obj = .ref s.heap.objs.size ∧ s₁ = { s with heap := s.heap.push { cls := .type "dict", data := .dict #[] } }) PySem.F.kt_called_dict (PySem.F.kt_typeCall_dict_1 _) PySem.F.entry_dict_init (kt_code_dict_new _ ⟨rfl, rfl⟩) ?_
  rintro obj s₁ ⟨rfl, rfl⟩
  have hnew : (s.heap.push { cls := .type "dict", data := .dict #[] }).DictOf (PySem.intKind PySem.Challenge.rw_or0056_01.row.prog w) s.heap.objs.size [] := Heap.DictOf.new s.heap
  have hll : s.heap.IsList l vs.toArray := News.isList N hl
  have hlo := (N _ hl).1
  have hlp : (s.heap.push { cls := .type "dict", data := .dict #[] }).get? l = some (listOf vs.toArray n) := Heap.get?_push_of_some _ hlo
  refine ⟨hnew.typeIs, PySem.F.args_dict_init_2 _ _, ?_⟩
  unfold Builtin.«dict.__init__»
  refine wpAny_bind ?_
  unfold Builtin.Dict.selfAndRest
  refine wpAny_bind (wpAny_notOrdered_dict hnew.typeIs ?_)
  show wpAny _ _ (pure (s.heap.objs.size, [Value.ref l])) _ _ _
  refine wpAny_pure ?_
  show wpAny _ _ (Builtin.Dict.updateFrom "dict.__init__" s.heap.objs.size (.ref l) [] .none) _ _ _
  unfold Builtin.Dict.updateFrom
  refine wpAny_bind (wpAny_typeOf (T := "list") ⟨_, hlp, rfl⟩ ?_)
  rw [if_pos (by decide)]
  refine wpAny_bind (getAttr?_miss_list hlp rfl rfl rfl du_list_no_keys (by decide) (by simp [hh]) (fun h1 tk1 k1 => ?_) (by rw [sizeLine_eq]; decide))
  rw [if_pos (by rfl)]
  refine wpAny_bind (wpAny_rule ?_)
  have hl1 : h1.IsList l vs.toArray := ⟨_, k1 _ _ hlp, rfl, _, rfl⟩
  refine wpAny_bind (wpAny_pyIter_list (s := { s with heap := h1, toks := tk1 }) hl1 ?_)
  have hS1 : @LT.lt Nat _ s.heap.objs.size h1.objs.size := Heap.lt_size (k1 _ _ (Heap.get?_push_size _ rfl))
  have hlS : @LT.lt Nat _ l s.heap.objs.size := Heap.lt_size hlo
  have keep : ∀ b o, s.heap.get? b = some o → (h1.push { cls := .type "list_iterator", data := .fields #[.ref l, .int 0 0] }).get? b = some o := fun b o e => Heap.get?_push_of_some _ (k1 b o (Heap.get?_push_of_some _ e))
  refine wpAny_pure ⟨plainId_quiet du_plain_dict_update_loop _, ?_⟩
  refine dict_loop (l := l) (S := s.heap.objs.size) (I := h1.objs.size) (vs := vs) (kvs := kvs) (base := s.heap) (by simp [hh]) (Nat.ne_of_lt (Nat.lt_trans hlS hS1)) rfl hlS hS1 (fun i v hv => ?_) hlen hsz (vs.length - 0) 0 _ _ _ rfl (Nat.zero_le _) ?_ ?_ keep ?_
  · obtain ⟨k, x, t, r, n, e1, e2, e3⟩ := hkv i v hv
    exact ⟨k, x, t, r, n, e1, e2, (N _ e3).1⟩
  · exact ⟨⟨_, Heap.get?_push_size _ rfl, rfl, rfl⟩, hl1.at fun o e => Heap.get?_push_of_some _ e⟩
  · show Heap.DictOf _ _ _ (merged [] [])
    obtain ⟨o, es, ep, ho, rest⟩ := hnew
    exact ⟨o, es, ep, Heap.get?_push_of_some _ (k1 _ _ ho), rest⟩
  · intro h' tk hd hb
    obtain ⟨o', ho', hd'⟩ := Heap.dictOf_iff.mp hd
    have hLlt : @LT.lt Nat _ L s.heap.objs.size := F.ns.lt
    refine ⟨rfl, h _ h' o' tk ⟨F.ns.at' fun o e => hb L o e, fun b o e => hb b o (F.keep b o e), F.above⟩ (fun p hp => ?_) (fun p hp => Heap.lt_size (N p hp).1) (F.notModules (modules_low hbig)) hd'⟩
    rcases List.mem_cons.mp hp with rfl | hp
    · refine ⟨ho', Nat.ne_of_gt hLlt, ?_⟩
      cases hq : h₀.get? s.heap.objs.size with
      | none => rfl
      | some o' => exact absurd (Heap.lt_size (F.keep _ _ hq)) (Nat.lt_irrefl _)
    · exact ⟨hb _ _ (N p hp).1, (N p hp).2.1, (N p hp).2.2⟩

inductive JE1 (w : World) (m₀ : Str → Option Value) (A : Addr) (tl : Led) (gs : List Int) (i : Nat) (m' : Str → Option Value) (nx : Led) : Prop
  | mk (mv : Option Value) (od : Obj) (kvs : List (Int × Value)) (q1 : m' = (fun y => if y = Str.ofString "uid" then mv else m₀ y)) (q2 : nx = (A, od) :: tl) (q3 : od.IsDictOf (PySem.intKind PySem.Challenge.rw_or0056_01.row.prog w) kvs) (q4 : kvs.length ≤ i) (q5 : ∀ u, (valueAt kvs u).isSome = decide (u ∈ gs.take i)) : JE1 w m₀ A tl gs i m' nx
inductive expunge_post (db : Addr) (nu : Int) (rest led : Led) (us gs : List Int) (v : Value) (news' : Led) : Prop
  | mk (ob : _) (ls' : _) (gn' : _) (top' : _) (vs' : _) (k' : _) (z0 : news' = (db, ob) :: (ls', listOf (List.toArray vs') k') :: rest) (z1 : (∀ q ∈ rest, q.1 ≠ ls')) (z2 : @Ne Nat ls' db) (z3 : Lets led vs' (us.filter (fun u => decide (u ∉ gs)))) (z4 : BoxD nu top' ls' gn' ob) : expunge_post db nu rest led us gs v news'
inductive ends_of_post (rest : Led) (a b g : Int) (v : Value) (news' : Led) : Prop
  | mk (r : _) (lo : _) (hi : _) (t1 : _) (t2 : _) (k : _) (z0 : lo = (pairOf g (a, b)).1) (z1 : hi = (pairOf g (a, b)).2) (z2 : v = .ref r) (z3 : news' = (r, tupOf #[.int lo t1, .int hi t2] k) :: rest) (z4 : (∀ q ∈ rest, q.1 ≠ r)) : ends_of_post rest a b g v news'
theorem nums_len (n : Nat) : (nums n).length = n := by simp [nums]
theorem nums_get {n i : Nat} (h : i < n) : (nums n)[i]? = some ((i : Int) + 1) := by
  simp [nums, h]
theorem nums_succ (n : Nat) : nums (n + 1) = nums n ++ [(n : Int) + 1] := by
  simp [nums, List.range_succ]
theorem nums_last {n : Nat} (h : 0 < n) : lastOf (nums n) = n := by
  obtain ⟨m, rfl⟩ : ∃ m, n = m + 1 := ⟨n - 1, by omega⟩
  rw [nums_succ]
  simp [lastOf]
theorem nums_sorted (n : Nat) : (nums n).Pairwise (· < ·) := by
  induction n with
  | zero => simp [nums]
  | succ n ih =>
    rw [nums_succ, List.pairwise_append]
    refine ⟨ih, by simp, fun a ha b hb => ?_⟩
    rw [List.mem_singleton.mp hb]
    simp only [nums, List.mem_map, List.mem_range] at ha
    obtain ⟨i, hi, rfl⟩ := ha
    omega
theorem nums_pos (n : Nat) : ∀ u ∈ nums n, 1 ≤ u ∧ u ≤ n := by
  intro u hu
  simp only [nums, List.mem_map, List.mem_range] at hu
  obtain ⟨i, hi, rfl⟩ := hu
  omega
theorem rangeKs_nums (n : Nat) : rangeKs 1 n = nums n := by
  unfold rangeKs nums
  congr 1
  funext i
  omega

theorem Pairs.snoc {g : Int} {l : Led} {vs : List Value} {q : Int × Int} {v : Value} {i : Nat} {rs : List (Int × Int)} (h : Pairs l vs ((rs.take i).map (pairOf g))) (hr : rs[i]? = some q) (ha : PairAt l (pairOf g q) v) : Pairs l (vs ++ [v]) ((rs.take (i + 1)).map (pairOf g)) := by
  rw [List.take_add_one, hr, List.map_append]
  exact h.append (.cons ha .nil)
inductive JP1 (m₀ : Str → Option Value) (D : Addr) (rest : Led) (qs : List (Int × Int)) (g : Int) (i : Nat) (m' : Str → Option Value) (nx : Led) : Prop
  | mk (e1 e2 : Option Value) (rest' : Led) (vs' : List Value) (k' : Nat) (q1 : m' = (fun y => if y = Str.ofString "ends" then e1 else if y = Str.ofString "pair" then e2 else m₀ y)) (q2 : nx = (D, listOf (List.toArray vs') k') :: rest') (q3 : ∀ q ∈ rest, q ∈ rest') (q4 : ∀ q ∈ rest', q.1 ≠ D) (q5 : Pairs rest' vs' ((qs.take i).map (pairOf g))) : JP1 m₀ D rest qs g i m' nx
inductive JP2 (m₀ : Str → Option Value) (O : Addr) (base : Led) (qs2 : List (Int × Int)) (i : Nat) (m' : Str → Option Value) (nx : Led) : Prop
  | mk (e1 e2 : Option Value) (rest2 : Led) (ovs : List Value) (os : List (Int × Int)) (k' : Nat) (q1 : m' = (fun y => if y = Str.ofString "high" then e1 else if y = Str.ofString "low" then e2 else m₀ y)) (q2 : nx = (O, listOf (List.toArray ovs) k') :: rest2) (q3 : ∀ q ∈ base, q ∈ rest2) (q4 : ∀ q ∈ rest2, q.1 ≠ O) (q5 : Pairs rest2 ovs os) (q6 : Merged (qs2.take i) os) : JP2 m₀ O base qs2 i m' nx
inductive plain_set_post (rest : Led) (qs : List (Int × Int)) (g : Int) (v : Value) (news' : Led) : Prop
  | mk (r : _) (ovs : _) (os : _) (done : _) (k : _) (z0 : v = .ref r) (z1 : (r, tupOf (List.toArray ovs) k) ∈ news') (z2 : (∀ q ∈ rest, q ∈ news')) (z3 : Pairs news' ovs os) (z4 : Merged done os) (z5 : (∀ q, q ∈ done ↔ q ∈ qs.map (pairOf g))) (z6 : os.length ≤ 3) : plain_set_post rest qs g v news'
inductive JP3 (m₀ : Str → Option Value) (O : Addr) (news1 : Led) (ns : List Int) (os qs : List (Int × Int)) (gl : Int) (i : Nat) (m' : Str → Option Value) (nx : Led) : Prop
  | mk (e1 : Option Value) (at' : Int) (tat : Tok) (ys : List Value) (k' : Nat) (q1 : m' = (fun y => if y = Str.ofString "number" then e1 else if y = Str.ofString "at" then some (.int at' tat) else m₀ y)) (q2 : nx = (O, listOf (List.toArray ys) k') :: news1) (q3 : IntsAre ys ((ns.take i).filter (named qs gl))) (q4 : 0 ≤ at') (q5 : at' ≤ os.length) (q6 : ∀ (j : Nat) o, os[j]? = some o → (j : Int) < at' → ∀ x ∈ ns.drop i, o.2 < x) : JP3 m₀ O news1 ns os qs gl i m' nx
inductive uids_in_post (rest : Led) (qs : List (Int × Int)) (cs : List Int) (b : Bool) (v : Value) (news' : Led) : Prop
  | mk (a : _) (ys : _) (k' : _) (z0 : v = .ref a) (z1 : (a, listOf (List.toArray ys) k') ∈ news') (z2 : (∀ q ∈ rest, q ∈ news')) (z3 : IntsAre ys (sel b cs qs)) : uids_in_post rest qs cs b v news'
inductive there_in_post (rest : Led) (qs : List (Int × Int)) (cs us : List Int) (b : Bool) (v : Value) (news' : Led) : Prop
  | mk (a : _) (ys : _) (k' : _) (z0 : v = .ref a) (z1 : (a, listOf (List.toArray ys) k') ∈ news') (z2 : (∀ q ∈ rest, q ∈ news')) (z3 : IntsAre ys ((sel b cs qs).filter (fun u => decide (u ∈ us)))) : there_in_post rest qs cs us b v news'
inductive JV1 (base : Led) (us : List Int) (P : Value → Prop) (i : Nat) (ys : List Value) (nx : Led) : Prop
  | mk (kvs : List (Int × Value)) (q1 : ∀ q ∈ base, q ∈ nx) (q2 : KVs nx P ys (us.take i) kvs) : JV1 base us P i ys nx

inductive view_post (w : World) (bx : Addr) (rest : Led) (us : List Int) (v : Value) (news' : Led) : Prop
  | mk (va : _) (vd : _) (ul : _) (fd : _) (md : _) (uvs : _) (kf : _) (km : _) (of : _) (om : _) (k : _) (od : _) (z0 : v = .ref va) (z1 : news' = (vd, od) :: (ul, listOf (List.toArray uvs) k) :: (fd, of) :: (md, om) :: (va, instObj 296 vd) :: rest) (z2 : ViewD bx ul fd md od) (z3 : IntsAre uvs us) (z4 : of.IsDictOf (PySem.intKind PySem.Challenge.rw_or0056_01.row.prog w) kf) (z5 : FlagsD rest us kf) (z6 : om.IsDictOf (PySem.intKind PySem.Challenge.rw_or0056_01.row.prog w) km) (z7 : KeysD us km) (z8 : (∀ q ∈ rest, q.1 ≠ vd)) (z9 : (∀ q ∈ rest, q.1 ≠ ul)) (z10 : (∀ q ∈ rest, q.1 ≠ fd)) (z11 : (∀ q ∈ rest, q.1 ≠ md)) (z12 : (∀ q ∈ rest, q.1 ≠ va)) (z13 : @Ne Nat vd fd) (z14 : @Ne Nat vd md) (z15 : @Ne Nat fd md) (z16 : (fd == sysModules) = false) (z17 : (md == sysModules) = false) (z18 : @Ne Nat ul vd) (z19 : @Ne Nat ul fd) (z20 : @Ne Nat ul md) (z21 : @Ne Nat va vd) (z22 : @Ne Nat va ul) (z23 : @Ne Nat va fd) (z24 : @Ne Nat va md) (z25 : kf.length ≤ us.length) (z26 : km.length ≤ us.length) : view_post w bx rest us v news'
inductive JW1 (m₀ : Str → Option Value) (O : Addr) (rest : Led) (i : Nat) (m' : Str → Option Value) (nx : Led) : Prop
  | mk (e1 e2 : Option Value) (q1 : m' = (fun y => if y = Str.ofString "letter" then e1 else if y = Str.ofString "at" then e2 else m₀ y)) (q2 : nx = (O, listOf #[] 0) :: rest) : JW1 m₀ O rest i m' nx
inductive forget_post (w : World) (bx fd md vd : Addr) (rest : Led) (kf km : List (Int × Value)) (cs : List Int) (u : Int) (v : Value) (news' : Led) : Prop
  | mk (od' : _) (of' : _) (om' : _) (ul' : _) (uvs' : _) (k' : _) (z0 : news' = (vd, od') :: (fd, of') :: (md, om') :: (ul', listOf (List.toArray uvs') k') :: rest) (z1 : ViewD bx ul' fd md od') (z2 : IntsAre uvs' (cs.filter (fun x => decide (x ≠ u)))) (z3 : of'.IsDictOf (PySem.intKind PySem.Challenge.rw_or0056_01.row.prog w) (without kf u)) (z4 : om'.IsDictOf (PySem.intKind PySem.Challenge.rw_or0056_01.row.prog w) (without km u)) (z5 : @Ne Nat ul' vd) (z6 : @Ne Nat ul' fd) (z7 : @Ne Nat ul' md) (z8 : (∀ q ∈ rest, q.1 ≠ ul')) : forget_post w bx fd md vd rest kf km cs u v news'
inductive gone_uids_post (rest : Led) (cs us : List Int) (v : Value) (news' : Led) : Prop
  | mk (a : _) (ys : _) (kk : _) (z0 : v = .ref a) (z1 : news' = (a, listOf (List.toArray ys) kk) :: rest) (z2 : (∀ q ∈ rest, q.1 ≠ a)) (z3 : IntsAre ys (cs.filter (fun x => decide (x ∉ us)))) : gone_uids_post rest cs us v news'
inductive new_letters_post (rest led0 : Led) (cs us : List Int) (v : Value) (news' : Led) : Prop
  | mk (a : _) (ys : _) (kk : _) (z0 : v = .ref a) (z1 : news' = (a, listOf (List.toArray ys) kk) :: rest) (z2 : (∀ q ∈ rest, q.1 ≠ a)) (z3 : Lets led0 ys (us.filter (fun x => decide (lastOf cs < x) && decide (x ∉ cs)))) : new_letters_post rest led0 cs us v news'
theorem not_in_take {gs : List Int} {i : Nat} {u : Int} (hn : gs.Nodup) (hu : gs[i]? = some u) : u ∉ gs.take i := by
  intro hm
  obtain ⟨j, hj⟩ := List.mem_iff_getElem?.mp hm
  rw [List.getElem?_take] at hj
  by_cases hji : j < i
  · rw [if_pos hji] at hj
    obtain ⟨h1, e1⟩ := List.getElem?_eq_some_iff.mp hj
    obtain ⟨h2, e2⟩ := List.getElem?_eq_some_iff.mp hu
    exact List.pairwise_iff_getElem.mp hn j i h1 h2 hji (e1.trans e2.symm)
  · rw [if_neg hji] at hj
    cases hj
theorem mem_take_succ {gs : List Int} {i : Nat} {u x : Int} (hu : gs[i]? = some u) : x ∈ gs.take (i + 1) ↔ x ∈ gs.take i ∨ x = u := by
  rw [List.take_add_one, hu]
  simp
inductive JW6 (w : World) (m₀ : Str → Option Value) (A vd fd md ga bx ul : Addr) (gys : List Value) (gk : Nat) (rest : Led) (cs us : List Int) (kf km : List (Int × Value)) (i : Nat) (m' : Str → Option Value) (nx : Led) : Prop
  | mk (e1 : Option Value) (ys : List Value) (kk : Nat) (od' of' om' : Obj) (ul' : Addr) (uvs' : List Value) (k' : Nat) (kf' km' : List (Int × Value)) (q1 : m' = (fun y => if y = Str.ofString "uid" then e1 else m₀ y)) (q2 : nx = (A, listOf (List.toArray ys) kk) :: (vd, od') :: (fd, of') :: (md, om') :: (ul', listOf (List.toArray uvs') k') :: (ga, listOf (List.toArray gys) gk) :: rest) (q3 : ys.length ≤ i) (q4 : ViewD bx ul' fd md od')
      (q5 : IntsAre uvs' (cs.filter (fun x => decide (x ∉ (cs.filter (fun x => decide (x ∉ us))).take i)))) (q6 : of'.IsDictOf (PySem.intKind PySem.Challenge.rw_or0056_01.row.prog w) kf') (q7 : om'.IsDictOf (PySem.intKind PySem.Challenge.rw_or0056_01.row.prog w) km') (q8 : kf'.length ≤ kf.length) (q9 : km'.length ≤ km.length)
      (q10 : ∀ u, valueAt kf' u = if u ∈ (cs.filter (fun x => decide (x ∉ us))).take i then none else valueAt kf u) (q11 : ∀ u, valueAt km' u = if u ∈ (cs.filter (fun x => decide (x ∉ us))).take i then none else valueAt km u) (q12 : @Ne Nat ul' vd) (q13 : @Ne Nat ul' fd) (q14 : @Ne Nat ul' md) (q15 : @Ne Nat ul' A) (q16 : ul' = ul ∨ ∀ q ∈ rest, q.1 ≠ ul') : JW6 w m₀ A vd fd md ga bx ul gys gk rest cs us kf km i m' nx
inductive expunge_news_post (w : World) (bx ul fd md vd : Addr) (rest : Led) (kf km : List (Int × Value)) (cs us : List Int) (v : Value) (news' : Led) : Prop
  | mk (a : _) (ys : _) (kk : _) (od' : _) (of' : _) (om' : _) (ul' : _) (uvs' : _) (k' : _) (kf' : _) (km' : _) (z0 : v = .ref a) (z1 : news' = (a, listOf (List.toArray ys) kk) :: (vd, od') :: (fd, of') :: (md, om') :: (ul', listOf (List.toArray uvs') k') :: rest) (z2 : ys.length ≤ 1000) (z3 : ViewD bx ul' fd md od') (z4 : IntsAre uvs' (cs.filter (fun x => decide (x ∈ us)))) (z5 : of'.IsDictOf (PySem.intKind PySem.Challenge.rw_or0056_01.row.prog w) kf') (z6 : om'.IsDictOf (PySem.intKind PySem.Challenge.rw_or0056_01.row.prog w) km') (z7 : FlagsD rest (cs.filter (fun x => decide (x ∈ us))) kf') (z8 : KeysD (cs.filter (fun x => decide (x ∈ us))) km') (z9 : @Ne Nat ul' vd) (z10 : @Ne Nat ul' fd) (z11 : @Ne Nat ul' md) (z12 : @Ne Nat a vd) (z13 : @Ne Nat a fd) (z14 : @Ne Nat a md) (z15 : @Ne Nat a ul') (z16 : (∀ q ∈ rest, q.1 ≠ a)) (z17 : (ul' = ul ∨ ∀ q ∈ rest, q.1 ≠ ul')) (z18 : kf'.length ≤ kf.length) (z19 : km'.length ≤ km.length) : expunge_news_post w bx ul fd md vd rest kf km cs us v news'
theorem FlagsD.put {led : Led} {cs : List Int} {kvs : List (Int × Value)} {u : Int} {fl : Addr} {nf : Nat} (h : FlagsD led cs kvs) (hn : (stored kvs u (.ref fl)).length ≤ 1000) (hfl : (fl, tupOf #[] nf) ∈ led) : FlagsD led (cs ++ [u]) (stored kvs u (.ref fl)) := by
  refine ⟨hn, fun x => ?_, fun x v hv => ?_⟩
  · rw [valueAt_stored]
    by_cases e : x = u
    · simp [e]
    · rw [if_neg e, h.2.1 x]; simp [e]
  · rw [valueAt_stored] at hv
    by_cases e : x = u
    · rw [if_pos e] at hv
      cases hv
      exact ⟨fl, nf, rfl, hfl⟩
    · rw [if_neg e] at hv
      exact h.2.2 x v hv
theorem KeysD.put {cs : List Int} {kvs : List (Int × Value)} {u : Int} {x : Value} (h : KeysD cs kvs) (hn : (stored kvs u x).length ≤ 1000) : KeysD (cs ++ [u]) (stored kvs u x) := by
  refine ⟨hn, fun y => ?_⟩
  rw [valueAt_stored]
  by_cases e : y = u
  · simp [e]
  · rw [if_neg e, h.2 y]; simp [e]
inductive JW7 (w : World) (m₀ : Str → Option Value) (la ul fd md : Addr) (lvs : List Value) (lk : Nat) (rest : Led) (cs ns : List Int) (kf km : List (Int × Value)) (i : Nat) (m' : Str → Option Value) (nx : Led) : Prop
  | mk (e1 : Option Value) (of' om' : Obj) (uvs' : List Value) (k' : Nat) (kf' km' : List (Int × Value)) (q1 : m' = (fun y => if y = Str.ofString "letter" then e1 else m₀ y)) (q2 : nx = (la, listOf (List.toArray lvs) lk) :: (ul, listOf (List.toArray uvs') k') :: (fd, of') :: (md, om') :: rest)
      (q3 : IntsAre uvs' (cs ++ ns.take i)) (q4 : of'.IsDictOf (PySem.intKind PySem.Challenge.rw_or0056_01.row.prog w) kf') (q5 : om'.IsDictOf (PySem.intKind PySem.Challenge.rw_or0056_01.row.prog w) km') (q6 : kf'.length ≤ kf.length + i) (q7 : km'.length ≤ km.length + i) (q8 : FlagsD rest (cs ++ ns.take i) kf') (q9 : KeysD (cs ++ ns.take i) km') : JW7 w m₀ la ul fd md lvs lk rest cs ns kf km i m' nx
inductive arrival_news_post (w : World) (ul fd md : Addr) (rest : Led) (kf km : List (Int × Value)) (cs us : List Int) (ns : List Int) (v : Value) (news' : Led) : Prop
  | mk (a : _) (ys : _) (kk : _) (of' : _) (om' : _) (uvs' : _) (k' : _) (kf' : _) (km' : _) (z0 : v = .ref a) (z1 : news' = (a, listOf (List.toArray ys) kk) :: (ul, listOf (List.toArray uvs') k') :: (fd, of') :: (md, om') :: rest) (z2 : ys.length ≤ 1) (z3 : IntsAre uvs' (cs ++ ns)) (z4 : of'.IsDictOf (PySem.intKind PySem.Challenge.rw_or0056_01.row.prog w) kf') (z5 : om'.IsDictOf (PySem.intKind PySem.Challenge.rw_or0056_01.row.prog w) km') (z6 : FlagsD rest (cs ++ ns) kf') (z7 : KeysD (cs ++ ns) km') (z8 : kf'.length ≤ kf.length + us.length) (z9 : km'.length ≤ km.length + us.length) (z10 : (∀ q ∈ (ul, listOf (List.toArray uvs') k') :: (fd, of') :: (md, om') :: rest, q.1 ≠ a)) : arrival_news_post w ul fd md rest kf km cs us ns v news'
theorem add_listsD {prog : Program} {A : Around} {E : Value → Shared → Prop} {s : Shared} {h₀ : Heap} {L : Addr} {m : Str → Option Value} {news : Led} {l b : Addr} {vs ws : List Value} {n n2 : Nat} {Q : Value → Shared → Prop} (F : Fr h₀ L s.heap m) (N : News h₀ L s.heap news) (hl : (l, listOf vs.toArray n) ∈ news) (hb : (b, listOf ws.toArray n2) ∈ news) (hz : vs.length + ws.length ≤ 10000)
    (h : ∀ D h', Fr h₀ L h' m → News h₀ L h' ((D, listOf (vs ++ ws).toArray 0) :: news) → (∀ p ∈ news, p.1 < D) → Q (.ref D) { s with heap := h' }) : wpAny (model prog w) A (binaryOp .Add (.ref l) (.ref b)) Q E s := by
  have hz2 : vs.length + ws.length ≤ sizeLine := by rw [sizeLine_eq]; omega
  exact add_lists F N (News.isList N hl) (News.isList N hb) (fun h' F' N' => h _ h' F' N' fun p hp => Heap.lt_size (N p hp).1) hz2
theorem extendD {prog : Program} {A : Around} {E : Value → Shared → Prop} {s : Shared} {h₀ : Heap} {L : Addr} {m : Str → Option Value} {news : Led} {news' : Obj → Led} {D b : Addr} {ws : List Value} {n n2 : Nat} {Q : Value → Shared → Prop} (F : Fr h₀ L s.heap m) (N : News h₀ L s.heap news) (hb : (b, listOf ws.toArray n2) ∈ news) (hz : ws.length ≤ 10000)
    (U : UpdF D (listOf #[] n) news news') (h : ∀ h' k, Fr h₀ L h' m → News h₀ L h' (news' (listOf ws.toArray k)) → Q .none { s with heap := h' }) : wpAny (model prog w) A (call (.builtin "list.extend") [.ref D, .ref b]) Q E s := by
  obtain ⟨pre, post, rfl, e, a, c⟩ := U.split
  have z := N (D, listOf #[] n) (List.mem_append.mpr (.inr (.head _)))
  cases ws with
  | nil => exact call_meets PySem.F.slot_list_extend ⟨_, z.1, rfl⟩ PySem.F.entry_list_extend (PySem.F.args_list_extend_2 _ _) (PySem.AutoSeq1.list_extend_list_list_0 D #[] n b #[] n2 (by decide) (by simp) (by simp [sizeLine_eq])) ⟨z.1, (N _ hb).1, h _ n (F.change (Heap.SameBut.update ..) z.2.1 z.2.2) (by rw [e]; exact kl_turn0 (fun x => x ++ #[]) N a c (by simp) rfl)⟩
  | cons v vs => exact call_meets PySem.F.slot_list_extend ⟨_, z.1, rfl⟩ PySem.F.entry_list_extend (PySem.F.args_list_extend_2 _ _) (PySem.AutoSeq1.list_extend_list_list_0 D #[] n b (v :: vs).toArray n2 (by simp) (by simp) (by simp only [sizeLine_eq, List.size_toArray]; simp only [List.length_cons] at hz ⊢; simp; omega)) ⟨z.1, (N _ hb).1, h _ (n + 1) (F.change (Heap.SameBut.update ..) z.2.1 z.2.2) (by rw [e]; exact kl_turn (fun x => x ++ (v :: vs).toArray) N a c (by simp) (by simp))⟩
theorem FlagsD.drop {led : Led} {cs : List Int} {kvs : List (Int × Value)} {a : Addr} {o : Obj} (h : FlagsD ((a, o) :: led) cs kvs) (ho : o.cls ≠ .type "tuple") : FlagsD led cs kvs := by
  refine ⟨h.1, h.2.1, fun u v hv => ?_⟩
  obtain ⟨fl, nf, e, h1⟩ := h.2.2 u v hv
  refine ⟨fl, nf, e, ?_⟩
  rcases List.mem_cons.mp h1 with e2 | h2
  · have e3 := congrArg (fun p : Addr × Obj => p.2.cls) e2
    exact absurd e3.symm ho
  · exact h2
theorem sorted_last {l : List Int} (h : l.Pairwise (· < ·)) {x : Int} (hx : x ∈ l) : x ≤ lastOf l := by
  have hne : l ≠ [] := by intro e; subst e; cases hx
  have e : lastOf l = l.getLast hne := by simp [lastOf, List.getLast?_eq_some_getLast hne]
  rw [e]
  rw [← List.dropLast_concat_getLast hne] at hx h
  rcases List.mem_append.mp hx with h1 | h1
  · exact Int.le_of_lt ((List.pairwise_append.mp h).2.2 x h1 _ (.head _))
  · rw [List.mem_singleton.mp h1]; exact Int.le_refl _
theorem last_mem {l : List Int} (h : l ≠ []) : lastOf l ∈ l := by
  have e : lastOf l = l.getLast h := by simp [lastOf, List.getLast?_eq_some_getLast h]
  rw [e]; exact List.getLast_mem h
theorem sorted_ext : ∀ {l l' : List Int}, l.Pairwise (· < ·) → l'.Pairwise (· < ·) → (∀ x, x ∈ l ↔ x ∈ l') → l = l'
  | [], [], _, _, _ => rfl
  | [], b :: l', _, _, h => nomatch (h b).mpr (.head _)
  | a :: l, [], _, _, h => nomatch (h a).mp (.head _)
  | a :: l, b :: l', h1, h2, h => by
    have h1' := List.pairwise_cons.mp h1
    have h2' := List.pairwise_cons.mp h2
    have e : a = b := by
      rcases List.mem_cons.mp ((h a).mp (.head _)) with e | e
      · exact e
      · rcases List.mem_cons.mp ((h b).mpr (.head _)) with e2 | e2
        · exact e2.symm
        · have := h1'.1 b e2; have := h2'.1 a e; omega
    subst e
    rw [sorted_ext h1'.2 h2'.2 fun x => ?_]
    constructor
    · intro hx
      rcases List.mem_cons.mp ((h x).mp (.tail _ hx)) with e | e
      · subst e; exact absurd (h1'.1 x hx) (Int.lt_irrefl _)
      · exact e
    · intro hx
      rcases List.mem_cons.mp ((h x).mpr (.tail _ hx)) with e | e
      · subst e; exact absurd (h2'.1 x hx) (Int.lt_irrefl _)
      · exact e
theorem news_list {cs us : List Int} (hc : cs.Pairwise (· < ·)) (hu : us.Pairwise (· < ·)) (h1 : ∀ u ∈ us, 1 ≤ u) (hn : ∀ u ∈ us, u ∉ cs → ∀ c ∈ cs, c < u) :
    cs.filter (fun x => decide (x ∈ us)) ++ us.filter (fun x => decide (lastOf (cs.filter (fun x => decide (x ∈ us))) < x) && decide (x ∉ cs.filter (fun x => decide (x ∈ us)))) = us := by
  refine sorted_ext (List.pairwise_append.mpr ⟨hc.filter _, hu.filter _, fun a ha b hb => ?_⟩) hu fun x => ?_
  · have h2 := (List.mem_filter.mp hb).2
    simp only [Bool.and_eq_true, decide_eq_true_eq] at h2
    have h3 := sorted_last (hc.filter (fun x => decide (x ∈ us))) ha
    omega
  · constructor
    · intro hx
      rcases List.mem_append.mp hx with h | h
      · simpa using (List.mem_filter.mp h).2
      · exact (List.mem_filter.mp h).1
    · intro hx
      by_cases hm : x ∈ cs
      · exact List.mem_append_left _ (List.mem_filter.mpr ⟨hm, by simpa using hx⟩)
      · refine List.mem_append_right _ (List.mem_filter.mpr ⟨hx, ?_⟩)
        have h3 : x ∉ cs.filter (fun x => decide (x ∈ us)) := fun h => hm (List.mem_filter.mp h).1
        simp only [Bool.and_eq_true, decide_eq_true_eq]
        refine ⟨?_, h3⟩
        by_cases he : cs.filter (fun x => decide (x ∈ us)) = []
        · rw [he]
          have := h1 x hx
          simp [lastOf]; omega
        · exact hn x hx hm _ (List.mem_filter.mp (last_mem he)).1
inductive news_post (w : World) (bx fd md vd : Addr) (rest : Led) (kf km : List (Int × Value)) (us : List Int) (v : Value) (news' : Led) : Prop
  | mk (od' : _) (of' : _) (om' : _) (ul' : _) (uvs' : _) (k' : _) (kf' : _) (km' : _) (z0 : news' = (vd, od') :: (fd, of') :: (md, om') :: (ul', listOf (List.toArray uvs') k') :: rest) (z1 : ViewD bx ul' fd md od') (z2 : IntsAre uvs' us) (z3 : of'.IsDictOf (PySem.intKind PySem.Challenge.rw_or0056_01.row.prog w) kf') (z4 : om'.IsDictOf (PySem.intKind PySem.Challenge.rw_or0056_01.row.prog w) km') (z5 : FlagsD rest us kf') (z6 : KeysD us km') (z7 : kf'.length ≤ kf.length + us.length) (z8 : km'.length ≤ km.length + us.length) (z9 : (∀ q ∈ rest, q.1 ≠ ul')) (z10 : @Ne Nat ul' vd) (z11 : @Ne Nat ul' fd) (z12 : @Ne Nat ul' md) : news_post w bx fd md vd rest kf km us v news'
theorem upd_self4 {a b c d : Str} (m : Str → Option Value) : m = fun y => if y = a then m a else if y = b then m b else if y = c then m c else if y = d then m d else m y := by
  funext y
  by_cases h1 : y = a
  · rw [if_pos h1, h1]
  · rw [if_neg h1]
    by_cases h2 : y = b
    · rw [if_pos h2, h2]
    · rw [if_neg h2]
      by_cases h3 : y = c
      · rw [if_pos h3, h3]
      · rw [if_neg h3]
        by_cases h4 : y = d
        · rw [if_pos h4, h4]
        · rw [if_neg h4]
theorem upd_four {a b c d : Str} {A B C D A' B' C' D' : Option Value} (m : Str → Option Value) : (fun y => if y = a then A else if y = b then B else if y = c then C else if y = d then D else if y = a then A' else if y = b then B' else if y = c then C' else if y = d then D' else m y) = fun y => if y = a then A else if y = b then B else if y = c then C else if y = d then D else m y := by
  funext y
  by_cases h1 : y = a
  · simp only [if_pos h1]
  · by_cases h2 : y = b
    · simp only [if_neg h1, if_pos h2]
    · by_cases h3 : y = c
      · simp only [if_neg h1, if_neg h2, if_pos h3]
      · by_cases h4 : y = d
        · simp only [if_neg h1, if_neg h2, if_neg h3, if_pos h4]
        · simp only [if_neg h1, if_neg h2, if_neg h3, if_neg h4]
theorem named_snoc {qs : List (Int × Int)} {i : Nat} {q : Int × Int} {g u : Int} (h : named (qs.take i) g u = false) (hq : qs[i]? = some q) (hl : lies g u q = false) : named (qs.take (i + 1)) g u = false := by
  rw [List.take_add_one, hq]
  simp only [named, List.any_append, Option.toList, List.any_cons, List.any_nil, Bool.or_false] at h ⊢
  rw [h, hl]; rfl
theorem named_mem {qs : List (Int × Int)} {i : Nat} {q : Int × Int} {g u : Int} (hq : qs[i]? = some q) (hl : lies g u q = true) : named qs g u = true :=
  List.any_eq_true.mpr ⟨q, List.mem_of_getElem? hq, hl⟩
inductive JY1 (m₀ : Str → Option Value) (rest : Led) (qs : List (Int × Int)) (g u : Int) (i : Nat) (m' : Str → Option Value) (nx : Led) : Prop
  | mk (e1 e2 e3 e4 : Option Value) (q1 : m' = (fun y => if y = Str.ofString "second" then e1 else if y = Str.ofString "first" then e2 else if y = Str.ofString "high" then e3 else if y = Str.ofString "low" then e4 else m₀ y)) (q2 : nx = rest) (q3 : named (qs.take i) g u = false) : JY1 m₀ rest qs g u i m' nx
theorem sub_cons' {a : Addr × Obj} {l l' : Led} (h : a ∈ l') (hl : ∀ q ∈ l, q ∈ l') : ∀ q ∈ a :: l, q ∈ l' := fun q hq => by
  rcases List.mem_cons.mp hq with rfl | hq
  · exact h
  · exact hl q hq
theorem upost_off {O I I' : Addr} {o : Obj} {rest : Led} {s1 s2 : String} (h1 : O ≠ I ∧ O ≠ I') (h2 : ∀ q ∈ rest, q.1 ≠ I ∧ q.1 ≠ I') : ∀ p ∈ (O, o) :: rest, ∀ b ∈ [(I', s1), (I, s2)], p.1 ≠ b.1 := by
  intro p hp b hb
  have hp2 : p.1 ≠ I ∧ p.1 ≠ I' := by
    rcases List.mem_cons.mp hp with rfl | hp
    · exact h1
    · exact h2 p hp
  rcases List.mem_cons.mp hb with rfl | hb
  · exact hp2.2
  · rw [List.mem_singleton.mp hb]; exact hp2.1
theorem ff_keep {ys : List Value} {us : List Int} {i : Nat} {u : Int} {t : Tok} {A B : Int → Bool} (h : IntsAre ys (((us.take i).filter A).filter B)) (hu : us[i]? = some u) (hA : A u = true) (hB : B u = true) : IntsAre (ys ++ [.int u t]) (((us.take (i + 1)).filter A).filter B) := by
  rw [filter_snoc A hu, if_pos hA, List.filter_append]
  have e : [u].filter B = [u] := by simp [hB]
  rw [e]
  exact h.append (.cons u t .nil)
theorem ff_skip {ys : List Value} {us : List Int} {i : Nat} {u : Int} {A B : Int → Bool} (h : IntsAre ys (((us.take i).filter A).filter B)) (hu : us[i]? = some u) (hAB : A u = false ∨ B u = false) : IntsAre ys (((us.take (i + 1)).filter A).filter B) := by
  rw [filter_snoc A hu, List.filter_append]
  have e : (if A u = true then [u] else []).filter B = [] := by
    rcases hAB with hA | hB
    · simp [hA]
    · cases A u <;> simp [hB]
  rw [e, List.append_nil]
  exact h
theorem mf_keep {ys : List Value} {ns : List Int} {i : Nat} {x u : Int} {t : Tok} {A B : Int → Bool} {f : Int → Int} (h : IntsAre ys ((((ns.take i).filter A).map f).filter B)) (hx : ns[i]? = some x) (hf : f x = u) (hA : A x = true) (hB : B u = true) : IntsAre (ys ++ [.int u t]) ((((ns.take (i + 1)).filter A).map f).filter B) := by
  rw [filter_snoc A hx, if_pos hA, List.map_append, List.filter_append]
  have e : ([x].map f).filter B = [u] := by simp [hf, hB]
  rw [e]
  exact h.append (.cons u t .nil)
theorem mf_skip {ys : List Value} {ns : List Int} {i : Nat} {x u : Int} {A B : Int → Bool} {f : Int → Int} (h : IntsAre ys ((((ns.take i).filter A).map f).filter B)) (hx : ns[i]? = some x) (hf : f x = u) (hAB : A x = false ∨ B u = false) : IntsAre ys ((((ns.take (i + 1)).filter A).map f).filter B) := by
  rw [filter_snoc A hx, List.map_append, List.filter_append]
  have e : ((if A x = true then [x] else []).map f).filter B = [] := by
    rcases hAB with hA | hB
    · simp [hA]
    · cases A x <;> simp [hf, hB]
  rw [e, List.append_nil]
  exact h
inductive JY2 (m₀ : Str → Option Value) (O : Addr) (rest : Led) (cs us : List Int) (qs : List (Int × Int)) (g : Int) (b : Bool) (i : Nat) (m' : Str → Option Value) (nx : Led) : Prop
  | mk (e1 e2 e3 e4 : Option Value) (ys : List Value) (k' : Nat) (q1 : m' = (fun y => if y = Str.ofString "last" then e1 else if y = Str.ofString "worth" then e2 else if y = Str.ofString "uid" then e3 else if y = Str.ofString "place" then e4 else m₀ y)) (q2 : nx = (O, listOf (List.toArray ys) k') :: rest)
      (q3 : IntsAre ys ((if b = true then (cs.take i).filter (named qs g) else (((nums cs.length).take i).filter (named qs cs.length)).map fun n => cs.getD (n - 1).toNat 0).filter (fun u => decide (u ∈ us)))) (q4 : ys.length ≤ i) : JY2 m₀ O rest cs us qs g b i m' nx
inductive law_due_post (rest : Led) (cs us : List Int) (qs : List (Int × Int)) (b : Bool) (v : Value) (news' : Led) : Prop
  | mk (a : _) (ys : _) (k' : _) (z0 : v = .ref a) (z1 : (a, listOf (List.toArray ys) k') ∈ news') (z2 : (∀ q ∈ rest, q ∈ news')) (z3 : IntsAre ys ((sel b cs qs).filter (fun u => decide (u ∈ us)))) : law_due_post rest cs us qs b v news'
theorem lies_one {g u : Int} (h1 : 1 ≤ u) (h2 : u ≤ g) : lies g u (1, 0) = true := by
  simp only [lies, pairOf, endOf, Bool.and_eq_true, decide_eq_true_eq]
  refine ⟨?_, ?_⟩ <;> simp <;> omega
theorem lies_self {g u v : Int} (h : 1 ≤ u) (hl : lies g v (u, u) = true) : v = u := by
  have hu : ¬ u = 0 := by omega
  simp only [lies, pairOf, endOf, if_neg hu, Bool.and_eq_true, decide_eq_true_eq] at hl
  omega
theorem last_ge : ∀ {cs : List Int}, cs.Pairwise (· < ·) → ∀ u ∈ cs, u ≤ lastOf cs := by
  intro cs hs u hu
  have hne : cs ≠ [] := fun e => by rw [e] at hu; exact nomatch hu
  have e : lastOf cs = cs.getLast hne := by rw [lastOf, List.getLast?_eq_some_getLast hne]; rfl
  rw [e]
  obtain ⟨i, hi, rfl⟩ := List.getElem_of_mem hu
  rw [List.getLast_eq_getElem]
  rcases Nat.lt_or_ge i (cs.length - 1) with h | h
  · exact Int.le_of_lt (List.pairwise_iff_getElem.mp hs i (cs.length - 1) hi (by omega) h)
  · have e2 : i = cs.length - 1 := by omega
    subst e2
    exact Int.le_refl _
theorem map_nums (cs : List Int) : (nums cs.length).map (fun n => cs.getD (n - 1).toNat 0) = cs := by
  apply List.ext_getElem?
  intro i
  rw [List.getElem?_map]
  rcases Nat.lt_or_ge i cs.length with h | h
  · rw [nums_get h, List.getElem?_eq_getElem h]
    have e : ((i : Int) + 1 - 1).toNat = i := by omega
    simp only [Option.map_some, e]
    rw [List.getD_eq_getElem?_getD, List.getElem?_eq_getElem h]
    rfl
  · rw [List.getElem?_eq_none (by rw [nums_len]; exact h), List.getElem?_eq_none h]
    rfl
theorem sel_all {b : Bool} {cs : List Int} (hs : cs.Pairwise (· < ·)) (h1 : ∀ u ∈ cs, 1 ≤ u) : sel b cs [(1, 0)] = cs := by
  cases b
  · show selF cs _ = cs
    unfold selF
    rw [List.filter_eq_self.mpr, map_nums]
    intro u hu
    have := nums_pos _ u hu
    simp only [named, List.any_cons, List.any_nil, Bool.or_false]
    exact lies_one this.1 this.2
  · show selT cs _ = cs
    unfold selT
    refine List.filter_eq_self.mpr fun u hu => ?_
    simp only [named, List.any_cons, List.any_nil, Bool.or_false]
    exact lies_one (h1 u hu) (last_ge hs u hu)
theorem sel_one {cs us : List Int} {u : Int} (h : 1 ≤ u) (hu : u ∉ us) : (sel true cs [(u, u)]).filter (fun u => decide (u ∈ us)) = [] := by
  refine List.filter_eq_nil_iff.mpr fun v hv => ?_
  have hv2 := (List.mem_filter.mp hv).2
  simp only [named, List.any_cons, List.any_nil, Bool.or_false] at hv2
  rw [lies_self h hv2]
  simpa using hu
/-- the letters after the expunge and the new ones -/
def usOf (k1 : Nat) (gs : List Int) (k2 : Nat) : List Int := (nums k1).filter (fun u => decide (u ∉ gs)) ++ (nums k2).map (fun n => (k1 : Int) + n)
theorem usOf_succ (k1 : Nat) (gs : List Int) (k2 : Nat) : usOf k1 gs (k2 + 1) = usOf k1 gs k2 ++ [(k1 : Int) + ((k2 : Int) + 1)] := by
  simp only [usOf, nums_succ, List.map_append, List.map_cons, List.map_nil, List.append_assoc]
theorem usOf_zero (k1 : Nat) (gs : List Int) : usOf k1 gs 0 = (nums k1).filter (fun u => decide (u ∉ gs)) := by
  show _ ++ [] = _
  exact List.append_nil _
theorem usOf_len (k1 : Nat) (gs : List Int) (k2 : Nat) : (usOf k1 gs k2).length ≤ k1 + k2 := by
  simp only [usOf, List.length_append, List.length_map, nums_len]
  have := List.length_filter_le (fun u => decide (u ∉ gs)) (nums k1)
  rw [nums_len] at this
  omega
theorem usOf_mem {k1 k2 : Nat} {gs : List Int} {u : Int} (h : u ∈ usOf k1 gs k2) : (u ∈ nums k1 ∧ u ∉ gs) ∨ (k1 : Int) < u := by
  rcases List.mem_append.mp h with h | h
  · have := List.mem_filter.mp h
    exact .inl ⟨this.1, by simpa using this.2⟩
  · obtain ⟨n, hn, rfl⟩ := List.mem_map.mp h
    have := nums_pos _ n hn
    exact .inr (by omega)
theorem usOf_sorted (k1 : Nat) (gs : List Int) (k2 : Nat) : (usOf k1 gs k2).Pairwise (· < ·) := by
  refine List.pairwise_append.mpr ⟨(nums_sorted k1).filter _, ?_, ?_⟩
  · refine List.Pairwise.map _ ?_ (nums_sorted k2)
    intro a b h
    omega
  · intro a ha b hb
    have h1 := nums_pos _ a (List.mem_filter.mp ha).1
    obtain ⟨n, hn, rfl⟩ := List.mem_map.mp hb
    have := nums_pos _ n hn
    omega
theorem usOf_pos {k1 k2 : Nat} {gs : List Int} : ∀ u ∈ usOf k1 gs k2, 1 ≤ u := by
  intro u hu
  rcases usOf_mem hu with h | h
  · exact (nums_pos _ u h.1).1
  · omega
theorem usOf_new {k1 k2 : Nat} {gs : List Int} : ∀ u ∈ usOf k1 gs k2, u ∉ nums k1 → ∀ c ∈ nums k1, c < u := by
  intro u hu hn c hc
  rcases usOf_mem hu with h | h
  · exact absurd h.1 hn
  · have := (nums_pos _ c hc).2
    omega
theorem usOf_gone {k1 k2 : Nat} {gs : List Int} (hg : ∀ g ∈ gs, g ∈ nums k1) : ∀ g ∈ gs, g ∉ usOf k1 gs k2 := by
  intro g h hu
  rcases usOf_mem hu with h2 | h2
  · exact h2.2 h
  · have := (nums_pos _ g (hg g h)).2
    omega
theorem upd_self5 {a b c d e : Str} (m : Str → Option Value) : m = fun y => if y = a then m a else if y = b then m b else if y = c then m c else if y = d then m d else if y = e then m e else m y := by
  funext y
  by_cases h1 : y = a
  · subst h1; simp
  by_cases h2 : y = b
  · subst h2; simp [h1]
  by_cases h3 : y = c
  · subst h3; simp [h1, h2]
  by_cases h4 : y = d
  · subst h4; simp [h1, h2, h3]
  by_cases h5 : y = e
  · subst h5; simp [h1, h2, h3, h4]
  simp [h1, h2, h3, h4, h5]
theorem upd_five {a b c d e : Str} {A B C D G A' B' C' D' G' : Option Value} (m : Str → Option Value) : (fun y => if y = a then A else if y = b then B else if y = c then C else if y = d then D else if y = e then G else if y = a then A' else if y = b then B' else if y = c then C' else if y = d then D' else if y = e then G' else m y) = fun y => if y = a then A else if y = b then B else if y = c then C else if y = d then D else if y = e then G else m y := by
  funext y
  by_cases h1 : y = a
  · simp [h1]
  by_cases h2 : y = b
  · simp [h1, h2]
  by_cases h3 : y = c
  · simp [h1, h2, h3]
  by_cases h4 : y = d
  · simp [h1, h2, h3, h4]
  by_cases h5 : y = e
  · simp [h1, h2, h3, h4, h5]
  simp [h1, h2, h3, h4, h5]
/-- what the lap's turn needs to know of its numbers -/
structure LapF (i : Nat) (cs gs us : List Int) (lf lm : Nat) : Prop where
  sorted : cs.Pairwise (· < ·)
  pos : ∀ u ∈ cs, 1 ≤ u
  len : cs.length ≤ 20
  glen : gs.length ≤ 20
  gone : ∀ g ∈ gs, 1 ≤ g ∧ g ∉ us
  fresh : ∀ u ∈ us, u ∉ cs → ∀ c ∈ cs, c < u
  lf : lf ≤ 20 + 20 * i
  lm : lm ≤ 20 + 20 * i
  done : 1 ≤ i → cs = us
theorem LapF.next {i : Nat} {cs gs us : List Int} {lf lm lf' lm' : Nat} (h : LapF i cs gs us lf lm) (hs : us.Pairwise (· < ·)) (hp : ∀ u ∈ us, 1 ≤ u) (hl : us.length ≤ 20) (h1 : lf' ≤ lf + us.length) (h2 : lm' ≤ lm + us.length) : LapF (i + 1) us [] us lf' lm' := by
  have a := h.lf
  have b := h.lm
  exact ⟨hs, hp, hl, Nat.zero_le _, fun g hg => absurd hg List.not_mem_nil, fun u hu hn => absurd hu hn, by omega, by omega, fun _ => rfl⟩
theorem LapF.le {i : Nat} {cs gs us : List Int} {lf lm : Nat} (h : LapF i cs gs us lf lm) (hi : i ≤ 2) : lf ≤ 200 ∧ lm ≤ 200 := by
  have a := h.lf
  have b := h.lm
  omega
theorem LapF.start {k1 k2 : Nat} {gs : List Int} {lf lm : Nat} (h9 : k1 ≤ 9) (hg : ∀ g ∈ gs, g ∈ nums k1) (hl : gs.length ≤ k1) (hf : lf ≤ (nums k1).length) (hm : lm ≤ (nums k1).length) : LapF 0 (nums k1) gs (usOf k1 gs k2) lf lm := by
  rw [nums_len] at hf hm
  exact ⟨nums_sorted k1, fun u hu => (nums_pos _ u hu).1, by rw [nums_len]; omega, by omega, fun g h => ⟨(nums_pos _ g (hg g h)).1, usOf_gone hg g h⟩, usOf_new, by omega, by omega, fun h => absurd h (by decide)⟩
theorem upd_self5' {a b c d e : Str} {A B : Option Value} {m : Str → Option Value} (h1 : m a = A) (h2 : m b = B) : m = fun y => if y = a then A else if y = b then B else if y = c then m c else if y = d then m d else if y = e then m e else m y := by
  subst h1; subst h2
  exact upd_self5 m

theorem nameInts {vs : List Value} {ns : List Int} (h : IntsAre vs ns) : ∃ ns', ns = ns' ∧ IntsAre vs ns' := ⟨ns, rfl, h⟩
theorem nat_of_int {n : Int} (h : 0 ≤ n) : ∃ k : Nat, n = k := ⟨n.toNat, by omega⟩
theorem nat_lt {k c : Nat} (h : (k : Int) < ((c + 1 : Nat) : Int)) : k ≤ c := by omega
theorem rng_small {k : Nat} (h : k ≤ 9) : Builtin.Range.small 0 (k : Int) 1 = true := small_one (by decide) (by decide) (by omega) (by omega)
theorem rng_size (k : Nat) : Builtin.Range.rangeSize 0 (k : Int) 1 = (k : Int) := by rw [rangeSize_nat]; omega
theorem off_cons {a x : Addr} {o : Obj} {l : Led} (h : ∀ q ∈ (a, o) :: l, q.1 ≠ x) : @Ne Nat a x ∧ ∀ q ∈ l, q.1 ≠ x := ⟨h _ (.head _), fun q hq => h q (.tail _ hq)⟩
theorem off_t1 {x : Addr} {a0 : Addr × Obj} {l : Led} (h : ∀ q ∈ a0 :: l, q.1 ≠ x) : ∀ q ∈ l, q.1 ≠ x := fun q hq => h q (.tail _ hq)
theorem off_t2 {x : Addr} {a0 a1 : Addr × Obj} {l : Led} (h : ∀ q ∈ a0 :: a1 :: l, q.1 ≠ x) : ∀ q ∈ l, q.1 ≠ x := fun q hq => h q (.tail _ (.tail _ hq))
theorem off_t3 {x : Addr} {a0 a1 a2 : Addr × Obj} {l : Led} (h : ∀ q ∈ a0 :: a1 :: a2 :: l, q.1 ≠ x) : ∀ q ∈ l, q.1 ≠ x := fun q hq => h q (.tail _ (.tail _ (.tail _ hq)))
theorem off_t4 {x : Addr} {a0 a1 a2 a3 : Addr × Obj} {l : Led} (h : ∀ q ∈ a0 :: a1 :: a2 :: a3 :: l, q.1 ≠ x) : ∀ q ∈ l, q.1 ≠ x := fun q hq => h q (.tail _ (.tail _ (.tail _ (.tail _ hq))))
theorem off_t5 {x : Addr} {a0 a1 a2 a3 a4 : Addr × Obj} {l : Led} (h : ∀ q ∈ a0 :: a1 :: a2 :: a3 :: a4 :: l, q.1 ≠ x) : ∀ q ∈ l, q.1 ≠ x := fun q hq => h q (.tail _ (.tail _ (.tail _ (.tail _ (.tail _ hq)))))
theorem off_t6 {x : Addr} {a0 a1 a2 a3 a4 a5 : Addr × Obj} {l : Led} (h : ∀ q ∈ a0 :: a1 :: a2 :: a3 :: a4 :: a5 :: l, q.1 ≠ x) : ∀ q ∈ l, q.1 ≠ x := fun q hq => h q (.tail _ (.tail _ (.tail _ (.tail _ (.tail _ (.tail _ hq))))))
theorem off_t7 {x : Addr} {a0 a1 a2 a3 a4 a5 a6 : Addr × Obj} {l : Led} (h : ∀ q ∈ a0 :: a1 :: a2 :: a3 :: a4 :: a5 :: a6 :: l, q.1 ≠ x) : ∀ q ∈ l, q.1 ≠ x := fun q hq => h q (.tail _ (.tail _ (.tail _ (.tail _ (.tail _ (.tail _ (.tail _ hq)))))))
theorem off_t8 {x : Addr} {a0 a1 a2 a3 a4 a5 a6 a7 : Addr × Obj} {l : Led} (h : ∀ q ∈ a0 :: a1 :: a2 :: a3 :: a4 :: a5 :: a6 :: a7 :: l, q.1 ≠ x) : ∀ q ∈ l, q.1 ≠ x := fun q hq => h q (.tail _ (.tail _ (.tail _ (.tail _ (.tail _ (.tail _ (.tail _ (.tail _ hq))))))))
theorem off_t9 {x : Addr} {a0 a1 a2 a3 a4 a5 a6 a7 a8 : Addr × Obj} {l : Led} (h : ∀ q ∈ a0 :: a1 :: a2 :: a3 :: a4 :: a5 :: a6 :: a7 :: a8 :: l, q.1 ≠ x) : ∀ q ∈ l, q.1 ≠ x := fun q hq => h q (.tail _ (.tail _ (.tail _ (.tail _ (.tail _ (.tail _ (.tail _ (.tail _ (.tail _ hq)))))))))
theorem off_t10 {x : Addr} {a0 a1 a2 a3 a4 a5 a6 a7 a8 a9 : Addr × Obj} {l : Led} (h : ∀ q ∈ a0 :: a1 :: a2 :: a3 :: a4 :: a5 :: a6 :: a7 :: a8 :: a9 :: l, q.1 ≠ x) : ∀ q ∈ l, q.1 ≠ x := fun q hq => h q (.tail _ (.tail _ (.tail _ (.tail _ (.tail _ (.tail _ (.tail _ (.tail _ (.tail _ (.tail _ hq))))))))))
theorem off_t11 {x : Addr} {a0 a1 a2 a3 a4 a5 a6 a7 a8 a9 a10 : Addr × Obj} {l : Led} (h : ∀ q ∈ a0 :: a1 :: a2 :: a3 :: a4 :: a5 :: a6 :: a7 :: a8 :: a9 :: a10 :: l, q.1 ≠ x) : ∀ q ∈ l, q.1 ≠ x := fun q hq => h q (.tail _ (.tail _ (.tail _ (.tail _ (.tail _ (.tail _ (.tail _ (.tail _ (.tail _ (.tail _ (.tail _ hq)))))))))))
theorem off_t12 {x : Addr} {a0 a1 a2 a3 a4 a5 a6 a7 a8 a9 a10 a11 : Addr × Obj} {l : Led} (h : ∀ q ∈ a0 :: a1 :: a2 :: a3 :: a4 :: a5 :: a6 :: a7 :: a8 :: a9 :: a10 :: a11 :: l, q.1 ≠ x) : ∀ q ∈ l, q.1 ≠ x := fun q hq => h q (.tail _ (.tail _ (.tail _ (.tail _ (.tail _ (.tail _ (.tail _ (.tail _ (.tail _ (.tail _ (.tail _ (.tail _ hq))))))))))))
theorem rng_small' {k : Nat} (h : k ≤ 2) : Builtin.Range.small 0 (1 + (k : Int)) 1 = true := small_one (by decide) (by decide) (by omega) (by omega)
theorem rng_size' (k : Nat) : Builtin.Range.rangeSize 0 (1 + (k : Int)) 1 = ((k + 1 : Nat) : Int) := by rw [rangeSize_nat]; omega
theorem law_post (xs : List Int) : (RowW.claim (OpenRow.toRowW (OpenLaw.row PySem.Challenge.rw_or0056_01))).post [ofPy (PyData.list (List.map PyData.int xs))] (WData.bool true) [ofPy (PyData.list (List.map PyData.int xs))] = true := by
  w_top off
  refine postW_of (by wrow_shape) (by wtm_val) ?_
  first | rfl | decide | exact beq_self_eq_true _
theorem not_dec_self (x : List Int) : (!decide (x = x)) = false := by rw [decide_eq_true rfl]; rfl
theorem ne_same {prog : Program} {A : Around} {E : Value → Shared → Prop} {s : Shared} {a b : Addr} {vs us : List Value} {ns : List Int} {Q : Value → Shared → Prop} (hl : s.heap.IsList a vs.toArray) (hi : IntsAre vs ns) (hl' : s.heap.IsList b us.toArray) (hi' : IntsAre us ns) (hu : A.units + 64 < cLine)
    (h : Q (.bool false) s) : wpAny (model prog w) A (compareOp .NotEq (.ref a) (.ref b)) Q E s := ne_intsK hl hi hl' hi' hu (by rw [not_dec_self]; exact h)
theorem plus_one (i : Nat) : (1 : Int) + ((i + 1 : Nat) : Int) = 1 + (i : Int) + 1 := by omega
theorem nameCell {o : Obj} {x : Option Value} (_ : Obj.data o = Data.cell x) : ∃ o', o' = o := ⟨_, rfl⟩
theorem all_nil {d : Addr} : ∀ q ∈ ([] : Led), q.1 ≠ d := fun _ h => nomatch h
theorem app_ok {app rest R : Led} {x : Addr} {o : Obj} (h1 : ∀ q ∈ app, ∀ p ∈ R, p.1 ≠ q.1) (hx : (x, o) ∈ R) (h2 : ∀ q ∈ rest, q.1 ≠ x) : ∀ q ∈ app ++ rest, q.1 ≠ x := fun q hq => by
  rcases List.mem_append.mp hq with h | h
  · exact fun e => h1 q h _ hx e.symm
  · exact h2 q h
theorem app_ok' {app rest : Led} {x : Addr} (h1 : ∀ q ∈ app, q.1 ≠ x) (h2 : ∀ q ∈ rest, q.1 ≠ x) : ∀ q ∈ app ++ rest, q.1 ≠ x := fun q hq => by
  rcases List.mem_append.mp hq with h | h
  · exact h1 q h
  · exact h2 q h
theorem sub_mid {app R rest : Led} (h : ∀ q ∈ rest, q ∈ R) : ∀ q ∈ app ++ rest, q ∈ app ++ R := fun q hq => by
  rcases List.mem_append.mp hq with h2 | h2
  · exact List.mem_append_left _ h2
  · exact List.mem_append_right _ (h q h2)
theorem news_add {h₀ h : Heap} {L : Addr} {d l f i n c t : Addr × Obj} {app rest : Led} (N : News h₀ L h (d :: l :: (app ++ f :: i :: n :: c :: t :: rest))) : News h₀ L h (i :: n :: d :: l :: c :: t :: (app ++ rest)) := by
  intro p hp
  apply N
  simp only [List.mem_cons, List.mem_append] at hp ⊢
  rcases hp with rfl | rfl | rfl | rfl | rfl | rfl | hp | hp <;> simp [*]
theorem news_tl {h₀ h : Heap} {L : Addr} {a : Addr × Obj} {l : Led} (N : News h₀ L h (a :: l)) : News h₀ L h l := news_sub N fun _ hq => .tail _ hq
theorem news_pick {h₀ h : Heap} {L : Addr} {i1 i2 i3 i4 i5 i6 i7 i8 i9 i10 i11 i12 : Addr × Obj} (N : News h₀ L h [i1, i2, i3, i4, i5, i6, i7, i8, i9, i10, i11, i12]) : News h₀ L h [i5, i4, i2, i11, i10, i3, i1, i8, i12] := news_sub N (sub_cons (.tail _ (.tail _ (.tail _ (.tail _ (.head _))))) (sub_cons (.tail _ (.tail _ (.tail _ (.head _)))) (sub_cons (.tail _ (.head _)) (sub_cons (.tail _ (.tail _ (.tail _ (.tail _ (.tail _ (.tail _ (.tail _ (.tail _ (.tail _ (.tail _ (.head _))))))))))) (sub_cons (.tail _ (.tail _ (.tail _ (.tail _ (.tail _ (.tail _ (.tail _ (.tail _ (.tail _ (.head _)))))))))) (sub_cons (.tail _ (.tail _ (.head _))) (sub_cons (.head _) (sub_cons (.tail _ (.tail _ (.tail _ (.tail _ (.tail _ (.tail _ (.tail _ (.head _)))))))) (sub_cons (.tail _ (.tail _ (.tail _ (.tail _ (.tail _ (.tail _ (.tail _ (.tail _ (.tail _ (.tail _ (.tail _ (.head _)))))))))))) (fun q hq => absurd hq List.not_mem_nil))))))))))
theorem news_ln {h₀ h : Heap} {L : Addr} {a b c d e f l : Addr × Obj} {r : Led} (N : News h₀ L h (a :: b :: c :: d :: e :: f :: l :: r)) : News h₀ L h (l :: a :: b :: c :: d :: e :: f :: r) := news_sub N (sub_cons (.tail _ (.tail _ (.tail _ (.tail _ (.tail _ (.tail _ (.head _))))))) (sub_cons (.head _) (sub_cons (.tail _ (.head _)) (sub_cons (.tail _ (.tail _ (.head _))) (sub_cons (.tail _ (.tail _ (.tail _ (.head _)))) (sub_cons (.tail _ (.tail _ (.tail _ (.tail _ (.head _))))) (sub_cons (.tail _ (.tail _ (.tail _ (.tail _ (.tail _ (.head _)))))) (fun q hq => .tail _ (.tail _ (.tail _ (.tail _ (.tail _ (.tail _ (.tail _ (hq)))))))))))))))
theorem news_4 {h₀ h : Heap} {L : Addr} {a b c l : Addr × Obj} {r : Led} (N : News h₀ L h (a :: b :: c :: l :: r)) : News h₀ L h (l :: a :: b :: c :: r) := news_sub N (sub_cons (.tail _ (.tail _ (.tail _ (.head _)))) (sub_cons (.head _) (sub_cons (.tail _ (.head _)) (sub_cons (.tail _ (.tail _ (.head _))) (fun q hq => .tail _ (.tail _ (.tail _ (.tail _ (hq)))))))))
theorem news_4b {h₀ h : Heap} {L : Addr} {a b c l : Addr × Obj} {r : Led} (N : News h₀ L h (l :: a :: b :: c :: r)) : News h₀ L h (a :: b :: c :: l :: r) := news_sub N (sub_cons (.tail _ (.head _)) (sub_cons (.tail _ (.tail _ (.head _))) (sub_cons (.tail _ (.tail _ (.tail _ (.head _)))) (sub_cons (.head _) (fun q hq => .tail _ (.tail _ (.tail _ (.tail _ (hq)))))))))
theorem all_snoc {zs ns : List Int} {u : Int} (h : ∀ z ∈ zs, z ∈ ns) (hu : u ∈ ns) : ∀ z ∈ zs ++ [u], z ∈ ns := fun z hz => by
  rcases List.mem_append.mp hz with h2 | h2
  · exact h z h2
  · rw [List.mem_singleton.mp h2]; exact hu
theorem snoc_le {zs : List Int} {u : Int} {i : Nat} (h : zs.length ≤ i) : (zs ++ [u]).length ≤ i + 1 := by
  rw [List.length_append]; exact Nat.succ_le_succ h
theorem news_ex {h₀ h : Heap} {L : Addr} {i1 i2 i3 i4 i5 i6 i7 i8 i9 i10 i11 i12 : Addr × Obj} {r : Led} (N : News h₀ L h (i1 :: i2 :: i3 :: i4 :: i5 :: i6 :: i7 :: i8 :: i9 :: i10 :: i11 :: i12 :: r)) : News h₀ L h (i9 :: i10 :: i2 :: i12 :: i4 :: i5 :: i6 :: i7 :: i1 :: i3 :: i8 :: i11 :: r) := news_sub N (sub_cons (.tail _ (.tail _ (.tail _ (.tail _ (.tail _ (.tail _ (.tail _ (.tail _ (.head _))))))))) (sub_cons (.tail _ (.tail _ (.tail _ (.tail _ (.tail _ (.tail _ (.tail _ (.tail _ (.tail _ (.head _)))))))))) (sub_cons (.tail _ (.head _)) (sub_cons (.tail _ (.tail _ (.tail _ (.tail _ (.tail _ (.tail _ (.tail _ (.tail _ (.tail _ (.tail _ (.tail _ (.head _)))))))))))) (sub_cons (.tail _ (.tail _ (.tail _ (.head _)))) (sub_cons (.tail _ (.tail _ (.tail _ (.tail _ (.head _))))) (sub_cons (.tail _ (.tail _ (.tail _ (.tail _ (.tail _ (.head _)))))) (sub_cons (.tail _ (.tail _ (.tail _ (.tail _ (.tail _ (.tail _ (.head _))))))) (sub_cons (.head _) (sub_cons (.tail _ (.tail _ (.head _))) (sub_cons (.tail _ (.tail _ (.tail _ (.tail _ (.tail _ (.tail _ (.tail _ (.head _)))))))) (sub_cons (.tail _ (.tail _ (.tail _ (.tail _ (.tail _ (.tail _ (.tail _ (.tail _ (.tail _ (.tail _ (.head _))))))))))) (fun q hq => .tail _ (.tail _ (.tail _ (.tail _ (.tail _ (.tail _ (.tail _ (.tail _ (.tail _ (.tail _ (.tail _ (.tail _ (hq)))))))))))))))))))))))))
theorem news_3 {h₀ h : Heap} {L : Addr} {a b l : Addr × Obj} {r : Led} (N : News h₀ L h (a :: b :: l :: r)) : News h₀ L h (l :: a :: b :: r) := news_sub N (sub_cons (.tail _ (.tail _ (.head _))) (sub_cons (.head _) (sub_cons (.tail _ (.head _)) (fun q hq => .tail _ (.tail _ (.tail _ (hq)))))))
theorem news_add2 {h₀ h : Heap} {L : Addr} {d l f i n c v u w m : Addr × Obj} {app rest : Led} (N : News h₀ L h (d :: l :: (app ++ f :: i :: n :: c :: v :: u :: w :: m :: rest))) : News h₀ L h (i :: n :: d :: l :: c :: v :: u :: w :: m :: (app ++ rest)) := by
  intro p hp
  apply N
  simp only [List.mem_cons, List.mem_append] at hp ⊢
  rcases hp with rfl | rfl | rfl | rfl | rfl | rfl | rfl | rfl | rfl | hp | hp <;> simp [*]
theorem nameN8 {h₀ h : Heap} {L : Addr} {a b c d e f g i : Addr × Obj} {tl : Led} (N : News h₀ L h (a :: b :: c :: d :: e :: f :: g :: i :: tl)) : ∃ tl', tl' = tl ∧ News h₀ L h (a :: b :: c :: d :: e :: f :: g :: i :: tl') := ⟨_, rfl, N⟩
theorem LineO.cls {D : Addr} {o : Obj} (h : LineO D o) : o.cls ≠ .type "tuple" := by
  obtain ⟨_, _, _, _, _, rfl, _⟩ := h
  exact fun e => by injection e with e; exact absurd e (by decide)
theorem FlagsD.dropC {led : Led} {cs : List Int} {kvs : List (Int × Value)} {a : Addr} {o : Obj} {x : Option Value} (h : FlagsD ((a, o) :: led) cs kvs) (ho : o.data = .cell x) : FlagsD led cs kvs := by
  refine ⟨h.1, h.2.1, fun u v hv => ?_⟩
  obtain ⟨fl, nf, e, h1⟩ := h.2.2 u v hv
  refine ⟨fl, nf, e, ?_⟩
  rcases List.mem_cons.mp h1 with e2 | h2
  · have e3 := congrArg (fun p : Addr × Obj => p.2.data) e2
    have e4 : Data.seq #[] nf = Data.cell x := e3.trans ho
    injection e4
  · exact h2
theorem plus_gen (a : Int) (i : Nat) : a + ((i + 1 : Nat) : Int) = a + (i : Int) + 1 := by omega
theorem uid_next (k i : Nat) : (k : Int) + ((i : Int) + 1) = 1 + (k : Int) + (i : Int) := by omega
theorem news_lap {h₀ h : Heap} {L : Addr} {t n d l c v u f m co go : Addr × Obj} {r : Led} (N : News h₀ L h (t :: n :: d :: l :: c :: v :: u :: f :: m :: r)) (hc : co ∈ r) (hg : go ∈ r) : News h₀ L h (n :: v :: f :: m :: u :: co :: go :: t :: d :: l :: c :: r) := news_sub N (sub_cons (.tail _ (.head _)) (sub_cons (.tail _ (.tail _ (.tail _ (.tail _ (.tail _ (.head _)))))) (sub_cons (.tail _ (.tail _ (.tail _ (.tail _ (.tail _ (.tail _ (.tail _ (.head _)))))))) (sub_cons (.tail _ (.tail _ (.tail _ (.tail _ (.tail _ (.tail _ (.tail _ (.tail _ (.head _))))))))) (sub_cons (.tail _ (.tail _ (.tail _ (.tail _ (.tail _ (.tail _ (.head _))))))) (sub_cons (.tail _ (.tail _ (.tail _ (.tail _ (.tail _ (.tail _ (.tail _ (.tail _ (.tail _ (hc)))))))))) (sub_cons (.tail _ (.tail _ (.tail _ (.tail _ (.tail _ (.tail _ (.tail _ (.tail _ (.tail _ (hg)))))))))) (sub_cons (.head _) (sub_cons (.tail _ (.tail _ (.head _))) (sub_cons (.tail _ (.tail _ (.tail _ (.head _)))) (sub_cons (.tail _ (.tail _ (.tail _ (.tail _ (.head _))))) (fun q hq => .tail _ (.tail _ (.tail _ (.tail _ (.tail _ (.tail _ (.tail _ (.tail _ (.tail _ (hq)))))))))))))))))))))
theorem nameN7 {h₀ h : Heap} {L : Addr} {a b c d e f g : Addr × Obj} {tl : Led} (N : News h₀ L h (a :: b :: c :: d :: e :: f :: g :: tl)) : ∃ tl', tl' = tl ∧ News h₀ L h (a :: b :: c :: d :: e :: f :: g :: tl') := ⟨_, rfl, N⟩
theorem news_5 {h₀ h : Heap} {L : Addr} {t a b c l : Addr × Obj} {r : Led} (N : News h₀ L h (t :: l :: a :: b :: c :: r)) : News h₀ L h (a :: b :: c :: l :: t :: r) := news_sub N (sub_cons (.tail _ (.tail _ (.head _))) (sub_cons (.tail _ (.tail _ (.tail _ (.head _)))) (sub_cons (.tail _ (.tail _ (.tail _ (.tail _ (.head _))))) (sub_cons (.tail _ (.head _)) (sub_cons (.head _) (fun q hq => .tail _ (.tail _ (.tail _ (.tail _ (.tail _ (hq)))))))))))
theorem news_nw {h₀ h : Heap} {L : Addr} {o d n t i v f m u co go : Addr × Obj} {r : Led} (N : News h₀ L h (o :: d :: n :: t :: i :: v :: f :: m :: u :: co :: go :: r)) : News h₀ L h (v :: f :: m :: u :: n :: i :: co :: go :: r) := news_sub N (sub_cons (.tail _ (.tail _ (.tail _ (.tail _ (.tail _ (.head _)))))) (sub_cons (.tail _ (.tail _ (.tail _ (.tail _ (.tail _ (.tail _ (.head _))))))) (sub_cons (.tail _ (.tail _ (.tail _ (.tail _ (.tail _ (.tail _ (.tail _ (.head _)))))))) (sub_cons (.tail _ (.tail _ (.tail _ (.tail _ (.tail _ (.tail _ (.tail _ (.tail _ (.head _))))))))) (sub_cons (.tail _ (.tail _ (.head _))) (sub_cons (.tail _ (.tail _ (.tail _ (.tail _ (.head _))))) (sub_cons (.tail _ (.tail _ (.tail _ (.tail _ (.tail _ (.tail _ (.tail _ (.tail _ (.tail _ (.head _)))))))))) (sub_cons (.tail _ (.tail _ (.tail _ (.tail _ (.tail _ (.tail _ (.tail _ (.tail _ (.tail _ (.tail _ (.head _))))))))))) (fun q hq => .tail _ (.tail _ (.tail _ (.tail _ (.tail _ (.tail _ (.tail _ (.tail _ (.tail _ (.tail _ (.tail _ (hq))))))))))))))))))))
theorem news_fin {h₀ h : Heap} {L : Addr} {g c v f m u n i x y : Addr × Obj} {r : Led} (N : News h₀ L h (g :: c :: v :: f :: m :: u :: n :: i :: x :: y :: r)) : News h₀ L h (i :: n :: v :: f :: m :: u :: c :: g :: r) := news_sub N (sub_cons (.tail _ (.tail _ (.tail _ (.tail _ (.tail _ (.tail _ (.tail _ (.head _)))))))) (sub_cons (.tail _ (.tail _ (.tail _ (.tail _ (.tail _ (.tail _ (.head _))))))) (sub_cons (.tail _ (.tail _ (.head _))) (sub_cons (.tail _ (.tail _ (.tail _ (.head _)))) (sub_cons (.tail _ (.tail _ (.tail _ (.tail _ (.head _))))) (sub_cons (.tail _ (.tail _ (.tail _ (.tail _ (.tail _ (.head _)))))) (sub_cons (.tail _ (.head _)) (sub_cons (.head _) (fun q hq => .tail _ (.tail _ (.tail _ (.tail _ (.tail _ (.tail _ (.tail _ (.tail _ (.tail _ (.tail _ (hq)))))))))))))))))))
theorem news_p1 {h₀ h : Heap} {L : Addr} {f i n d l c t : Addr × Obj} {r : Led} (N : News h₀ L h (f :: i :: n :: d :: l :: c :: t :: r)) : News h₀ L h (d :: l :: f :: i :: n :: c :: t :: r) := news_sub N (sub_cons (.tail _ (.tail _ (.tail _ (.head _)))) (sub_cons (.tail _ (.tail _ (.tail _ (.tail _ (.head _))))) (sub_cons (.head _) (sub_cons (.tail _ (.head _)) (sub_cons (.tail _ (.tail _ (.head _))) (sub_cons (.tail _ (.tail _ (.tail _ (.tail _ (.tail _ (.head _)))))) (sub_cons (.tail _ (.tail _ (.tail _ (.tail _ (.tail _ (.tail _ (.head _))))))) (fun q hq => .tail _ (.tail _ (.tail _ (.tail _ (.tail _ (.tail _ (.tail _ (hq)))))))))))))))
inductive J4 (m₃ : Str → Option Value) (LN D : Addr) (R : Led) (i : Nat) (m' : Str → Option Value) (nx : Led) : Prop
  | mk (eP eI : Option Value) (lo : Obj) (q1 : m' = (fun y => if y = Str.ofString "pairs" then eP else if y = Str.ofString "is_uid" then eI else m₃ y)) (q2 : nx = (LN, lo) :: R) (q3 : LineO D lo) : J4 m₃ LN D R i m' nx
inductive J5 (LN D : Addr) (R2 : Led) (i : Nat) (ys : List Value) (nx : Led) : Prop
  | mk (lo : Obj) (qs : List (Int × Int)) (nx' : Led) (q1 : nx = (LN, lo) :: nx') (q2 : LineO D lo) (q3 : ∀ q ∈ R2, q ∈ nx') (q4 : ∀ q ∈ nx', q.1 ≠ LN) (q5 : Pairs nx' ys qs) (q6 : qs.length = i) : J5 LN D R2 i ys nx
inductive J6 (LN D : Addr) (base2 : Led) (k1 : Nat) (i : Nat) (zs2 : List Value) (nx : Led) : Prop
  | mk (lo : Obj) (zs : List Int) (q1 : nx = (LN, lo) :: base2) (q2 : LineO D lo) (q3 : IntsAre zs2 zs) (q4 : ∀ z ∈ zs, z ∈ nums k1) (q5 : zs.length ≤ i) : J6 LN D base2 k1 i zs2 nx
inductive J1 (m₀ : Str → Option Value) (LN DB LS GN cv ct : Addr) (lo1 ov ot : Obj) (base : Led) (i : Nat) (m' : Str → Option Value) (nx : Led) : Prop
  | mk (e1 : Option Value) (ob' : Obj) (lvs : List Value) (kk : Nat) (rest' : Led) (q1 : m' = (fun y => if y = Str.ofString "turn" then e1 else m₀ y)) (q2 : nx = (LN, lo1) :: (DB, ob') :: (LS, listOf (List.toArray lvs) kk) :: (cv, ov) :: (ct, ot) :: rest')
      (q3 : BoxD (1 + i) (1 + i) LS GN ob') (q4 : Lets rest' lvs (nums i)) (q5 : ∀ q ∈ base, q ∈ rest') (q6 : ∀ q ∈ rest', q.1 ≠ LN) (q7 : ∀ q ∈ rest', q.1 ≠ DB) (q8 : ∀ q ∈ rest', q.1 ≠ LS) (q9 : ∀ q ∈ rest', q.1 ≠ cv) (q10 : ∀ q ∈ rest', q.1 ≠ ct) : J1 m₀ LN DB LS GN cv ct lo1 ov ot base i m' nx
inductive J2 (m₁ : Str → Option Value) (LN DB LS2 gn2 ct vd ul fd md : Addr) (lo3 ot od of om : Obj) (uvs : List Value) (kul : Nat) (rest2 : Led) (k1 : Nat) (zs : List Int) (top2 : Int) (i : Nat) (m' : Str → Option Value) (nx : Led) : Prop
  | mk (e1 : Option Value) (ob' : Obj) (lvs : List Value) (kk : Nat) (rest3 : Led) (q1 : m' = (fun y => if y = Str.ofString "turn" then e1 else m₁ y)) (q2 : nx = (LN, lo3) :: (DB, ob') :: (LS2, listOf (List.toArray lvs) kk) :: (ct, ot) :: (vd, od) :: (ul, listOf (List.toArray uvs) kul) :: (fd, of) :: (md, om) :: rest3)
      (q3 : BoxD (1 + (k1 : Int) + (i : Int)) (top2 + (i : Int)) LS2 gn2 ob') (q4 : Lets rest3 lvs (usOf k1 zs i)) (q5 : ∀ q ∈ rest2, q ∈ rest3) (q6 : ∀ q ∈ rest3, q.1 ≠ LN) (q7 : ∀ q ∈ rest3, q.1 ≠ DB) (q8 : ∀ q ∈ rest3, q.1 ≠ LS2) (q9 : ∀ q ∈ rest3, q.1 ≠ ct) (q10 : ∀ q ∈ rest3, q.1 ≠ vd) (q11 : ∀ q ∈ rest3, q.1 ≠ ul) (q12 : ∀ q ∈ rest3, q.1 ≠ fd) (q13 : ∀ q ∈ rest3, q.1 ≠ md) : J2 m₁ LN DB LS2 gn2 ct vd ul fd md lo3 ot od of om uvs kul rest2 k1 zs top2 i m' nx
inductive J3 (w : World) (m₂ : Str → Option Value) (LN vd fd md D BX : Addr) (us : List Int) (rest9 : Led) (i : Nat) (m' : Str → Option Value) (nx : Led) : Prop
  | mk (eP eI eL : Option Value) (lo od of om : Obj) (ul : Addr) (uvs : List Value) (kul : Nat) (kf km : List (Int × Value)) (CO GO : Addr) (cvs gvs : List Value) (kc kg : Nat) (cs gs : List Int) (q1 : m' = (fun y => if y = Str.ofString "gone" then some (.ref GO) else if y = Str.ofString "counted" then some (.ref CO) else if y = Str.ofString "pairs" then eP else if y = Str.ofString "is_uid" then eI else if y = Str.ofString "lap" then eL else m₂ y))
      (q2 : nx = (LN, lo) :: (vd, od) :: (fd, of) :: (md, om) :: (ul, listOf (List.toArray uvs) kul) :: (CO, listOf (List.toArray cvs) kc) :: (GO, listOf (List.toArray gvs) kg) :: rest9)
      (q3 : LineO D lo) (q4 : ViewD BX ul fd md od) (q5 : IntsAre uvs cs) (q6 : IntsAre cvs cs) (q7 : IntsAre gvs gs) (q8 : of.IsDictOf (PySem.intKind PySem.Challenge.rw_or0056_01.row.prog w) kf) (q9 : FlagsD rest9 cs kf) (q10 : om.IsDictOf (PySem.intKind PySem.Challenge.rw_or0056_01.row.prog w) km) (q11 : KeysD cs km) (q12 : LapF i cs gs us kf.length km.length)
      (q13 : ∀ q ∈ rest9, q.1 ≠ ul) (q14 : @Ne Nat ul vd) (q15 : @Ne Nat ul fd) (q16 : @Ne Nat ul md) (q17 : @Ne Nat LN ul)
      (q18 : @Ne Nat CO LN ∧ @Ne Nat CO vd ∧ @Ne Nat CO ul ∧ @Ne Nat CO fd ∧ @Ne Nat CO md) (q19 : @Ne Nat GO LN ∧ @Ne Nat GO vd ∧ @Ne Nat GO ul ∧ @Ne Nat GO fd ∧ @Ne Nat GO md) : J3 w m₂ LN vd fd md D BX us rest9 i m' nx
local macro_rules | `(tactic| k_mem) => `(tactic| (refine mem_of ?_; ktr_member))
local macro_rules | `(tactic| is_list) => `(tactic| exact News.isList (by k_asm) (by k_mem))
local macro_rules | `(tactic| k_all) => `(tactic| first | assumption | (refine' allne_up ?hA ?hB; (case hA => tbn_find); (case hB => first | omega | (dsimp only; omega))) | (refine' all_cons ?hA ?hB; (case hA => k_ne); (case hB => k_all)))
local macro_rules | `(tactic| walk_at $k:str) => if ["pyIter ref", "CompSrc", "CompSrcT", "call type:enumerate", "exec While Compare cons nil", "exec While BoolOp cons nil", "KswEnd", "call builtin:list.sort", "call type:dict"].contains k.getString then `(tactic| (refine Stop.out ?_)) else if k.getString == "call ref" then `(tactic| (refine stop_ref (by decide) ?_)) else Lean.Macro.throwUnsupported
local macro_rules | `(tactic| k_lt $h:ident) => `(tactic| (replace $h := allLt_of $h; dsimp only [AllLt] at $h:ident))
local macro_rules | `(tactic| k_ne) => `(tactic| (refine neN ?_; (try dsimp only); first | with_reducible assumption | (refine Ne.symm ?_; with_reducible assumption) | ((repeat ((rename @Ne Nat _ _ ∧ _ => kneZ); first | ((repeat (first | (with_reducible exact And.left kneZ) | (with_reducible exact Ne.symm (And.left kneZ)) | (replace kneZ := And.right kneZ))); done) | clear kneZ)); done) | ((repeat ((rename @LT.lt Nat _ _ _ ∧ _ => kneZ); first | ((repeat (first | (with_reducible exact Nat.ne_of_lt (And.left kneZ)) | (with_reducible exact Nat.ne_of_gt (And.left kneZ)) | (replace kneZ := And.right kneZ))); done) | clear kneZ)); done) | ((repeat ((rename @Ne Nat _ _ => kneZ); clear kneZ)); omega)))
local macro_rules | `(tactic| ktr_room) => `(tactic| (with_reducible first | exact un_le0 (by assumption) | ((try simp only [Nat.add_assoc]); refine un_le (by assumption) (by decide))))
theorem law_one_does {ln lc : Addr} {many : Int} {tm : Tok} {nc : Nat} {o : Obj} {rest : Led} {cvs : List Value} {cis : List Int} (ho : LineO lc o) (hc : (lc, listOf cvs.toArray nc) ∈ rest) (hi : IntsAre cvs cis) (hlen : cis.length ≤ 40) (hne : ∀ q ∈ rest, q.1 ≠ ln) (hm : 0 < many) (hm2 : many < 100) :
    Does w p loose mean mg mb 1 376 [.ref ln, .int many tm] ((ln, o) :: rest) (law_one_post ln lc many rest) := by
  w_top off
  obtain ⟨pp, tp, q, tq, n, rfl, hp, hq, hq2⟩ := ho
  unfold Does
  k_fill
  intro dp un gd cn cs a ccd cl outer A₀ base h₀ L m s Q E B F X N T hk hdp hun hret
  refine wpAny_call ?_
  k_dflt ktr_enter
  k_steps
  · refine hret _ _ _ _ (by k_asm) (by k_asm) ?_
    exact ⟨_, _, _, rfl, fmod_lo _ hm, fmod_hi _ hm, ⟨_, _, _, _, _, rfl, by omega, hq, hq2⟩, rfl⟩
  · refine hret _ _ _ _ (by k_asm) (by k_asm) ?_
    exact ⟨_, _, _, rfl, fmod_lo _ hm, fmod_hi _ hm, ⟨_, _, _, _, _, rfl, by omega, fmod_lo _ (by omega), fmod_hi _ (by omega)⟩, rfl⟩
theorem raised_does {bx db ls gn : Addr} {nu top : Int} {o : Obj} {rest : Led} (ho : BoxD nu top ls gn o) (hb : (bx, instObj 163 db) ∈ rest) (hne : ∀ q ∈ rest, q.1 ≠ db) :
    Does w p loose mean mg mb 1 181 [.ref bx] ((db, o) :: rest) (fun v news' => ∃ t o', v = .int (top + 1) t ∧ BoxD nu (top + 1) ls gn o' ∧ news' = (db, o') :: rest) := by
  w_top off
  obtain ⟨bxE, rfl⟩ := ho
  unfold Does
  k_fill
  intro dp un gd cn cs a ccd cl outer A₀ base h₀ L m s Q E B F X N T hk hdp hun hret
  refine wpAny_call ?_
  k_dflt ktr_enter
  k_steps
  refine hret _ _ _ _ (by k_asm) (by k_asm) ?_
  exact ⟨_, _, rfl, BoxD.of, rfl⟩

local macro_rules | `(tactic| k_room) => `(tactic| ktr_room)
local macro_rules | `(tactic| k_units) => `(tactic| ktr_units)
local macro_rules | `(tactic| ktr_units) => `(tactic| (have hcL9 := cLine_is; ((try simp only [units_under_make, units_in1, units_deeper, Around.mark_units, units_caller] at *); (try dsimp only [ktrTop] at *); omega)))
local macro_rules | `(tactic| ktr_units) => `(tactic| ((try simp only [units_under_make, units_in1, units_deeper, Around.mark_units, units_caller, Nat.add_assoc]); (try dsimp only [ktrTop]); (try simp only [Nat.add_assoc]); with_reducible refine un_le (by assumption) (by decide)))
theorem uids_does {bx db ls gn : Addr} {nu top : Int} {o : Obj} {rest : Led} {vs : List Value} {us : List Int} {n : Nat} (ho : BoxD nu top ls gn o) (hb : (bx, instObj 163 db) ∈ rest) (hd : (db, o) ∈ rest) (hl : (ls, listOf vs.toArray n) ∈ rest) (hL : Lets rest vs us) (hlen : us.length ≤ 1000) :
    Does w p loose mean mg mb 1 155 [.ref bx] rest (fun v news' => ∃ a ys, v = .ref a ∧ IntsAre ys us ∧ (∀ q ∈ rest, q.1 ≠ a) ∧ news' = (a, listOf (List.toArray ys) ys.length) :: rest) := by
  w_top off
  obtain ⟨bxE, rfl⟩ := ho
  unfold Does
  k_fill
  intro dp un gd cn cs a ccd cl outer A₀ base h₀ L m s Q E B F X N T hk hdp hun hret
  have hvl := hL.len
  refine wpAny_call ?_
  k_dflt ktr_enter
  (repeat' (first | (k_unfold; (try dsimp only)) | (with_reducible ((with_reducible show wpAny _ _ (eval (Expr.ListComp _ [Comprehension.mk _ _ [] _] _ _) _) _ _ _); k_dflt (refine LCg.ListComp_U (F₀ := by k_asm) (by with_unfolding_all rfl) (by decide) (by rfl) (by decide) (by rfl) ?_))) | walk1 | (dsimp only; walk1) | fail "no step"))
  unfold Stop
  refine LCg.CompSrc.ledger (by rfl) (by k_asm) (by k_asm) (by k_mem) (by rw [List.size_toArray, sizeLine_eq]; omega) ?_
  intro g'
  refine rest_J (fun i ys nx => nx = rest ∧ IntsAre ys (us.take i)) ⟨rfl, .nil⟩ ?_ ?_ ?_
  · rintro i ys nx ⟨rfl, _⟩
    exact .inr ⟨_, hl, rfl, _, rfl⟩
  · rintro i v ys nx I oI C oC D m₂ h tk E' hi hv ⟨rfl, hys⟩ hC hx F1 N1 off ne
    obtain ⟨u, hu, hA⟩ := hL.get (i := i) (v := v) (by simpa using hv)
    obtain ⟨al, dl, odl, fl, nf, rfl, hl1, hl2, ⟨ltE, rfl⟩, hl4⟩ := hA
    (repeat' (first | (k_unfold; (try dsimp only)) | walk1 | (dsimp only; walk1) | fail "no step"))
    refine LCg.CompEnd.intro (by k_asm) (by k_asm) nx (fun q hq => hq) off trivial ⟨rfl, ints_snoc hys hu⟩
  · rintro ys nx ⟨rfl, hys⟩
    intro D h tk F1 N1 off
    dsimp only
    (repeat' (first | (k_unfold; (try dsimp only)) | walk1 | (dsimp only; walk1) | fail "no step"))
    exact hret _ _ _ _ (by k_asm) (by k_asm) ⟨_, _, rfl, ints_full hys (by simpa using hvl), off1_ne off, rfl⟩

theorem flag_tuple_does {fl : Addr} {nf : Nat} {rest : Led} (hf : (fl, listOf #[] nf) ∈ rest) :
    Does w p loose mean mg mb 2 94 [.ref fl] rest (fun v news' => ∃ r k, v = .ref r ∧ news' = (r, tupOf #[] k) :: rest ∧ ∀ q ∈ rest, q.1 ≠ r) := by
  w_top off
  unfold Does
  k_fill
  intro dp un gd cn cs a ccd cl outer A₀ base h₀ L m s Q E B F X N T hk hdp hun hret
  refine wpAny_call ?_
  k_dflt ktr_enter
  (repeat' (first | (k_unfold; (try dsimp only)) | (with_reducible ((with_reducible show wpAny _ _ (exec (Stmt.For _ (Expr.Name _ _) _ _ _) _) _ _ _); (rename Fr _ _ _ _ => lF'); (with_unfolding_all refine' For_turns lF' ?_; k_whole))) | walk1 | (dsimp only; walk1) | fail "no step"))
  unfold Stop
  refine turns_list (vs := []) (fun i m' nx => m' = _ ∧ nx = _) (by rfl) (by k_asm) (by k_asm) (by first | exact List.Mem.tail _ hf) ⟨rfl, rfl⟩ ?_ ?_ ?_
  · rintro i m' nx ⟨rfl, rfl⟩
    exact List.Mem.tail _ hf
  · intro i v m₁ nx h tk I io hv
    simp at hv
  · rintro m₁ nx h tk ⟨rfl, rfl⟩ F1 N1
    dsimp only
    (repeat' (first | (k_unfold; (try dsimp only)) | (with_reducible ((with_reducible show wpAny _ _ (call (Value.type "tuple") [Value.ref _]) _ _ _); refine Stop.out ?_)) | walk1 | (dsimp only; walk1) | fail "no step"))
    unfold Stop
    (rename IntsAre _ _ => hI9)
    (rename List.length _ = 0 => hL9)
    have hn9 := List.eq_nil_of_length_eq_zero (hI9.length.trans hL9)
    subst hn9
    refine kde_tupleOf (zs := []) (by k_asm) (by k_asm) (News.isList (by k_asm) (.head _)) (by decide) rfl ?_
    intro D9 h9 F9 N9 l9
    have hfr9 : ∀ q ∈ rest, q.1 ≠ D9 := fun q hq => Nat.ne_of_lt (l9 q (.tail _ (.tail _ hq)))
    (repeat' (first | (k_unfold; (try dsimp only)) | walk1 | (dsimp only; walk1) | fail "no step"))
    refine hret _ ((D9, tupOf #[] 0) :: rest) _ _ (by k_asm) (news_sub (by k_asm) (fun q hq => by
      rcases List.mem_cons.mp hq with rfl | hq
      · exact .head _
      · exact .tail _ (.tail _ (.tail _ hq)))) ⟨_, _, rfl, rfl, hfr9⟩

theorem add_letter_does {bx db ls gn fl : Addr} {nu top : Int} {o : Obj} {rest : Led} {vs : List Value} {n nf : Nat} {bts : Array UInt8} {tb ti : Tok} (ho : BoxD nu top ls gn o) (hb : (bx, instObj 163 db) ∈ rest) (hf : (fl, listOf #[] nf) ∈ rest) (hne : ∀ q ∈ rest, q.1 ≠ db) (hne2 : ∀ q ∈ rest, q.1 ≠ ls) (hlsdb : @Ne Nat ls db) (hvl : vs.length ≤ 1000) :
    Does w p loose mean mg mb 4 188 [.ref bx, .bytes bts tb, .ref fl, .int 0 ti] ((db, o) :: (ls, listOf vs.toArray n) :: rest) (add_letter_post db ls gn nu top rest vs) := by
  w_top off
  have ho' := ho
  obtain ⟨bxE, rfl⟩ := ho'
  unfold Does
  k_fill
  intro dp un gd cn cs a ccd cl outer A₀ base h₀ L m s Q E B F X N T hk hdp hun hret
  refine wpAny_call ?_
  k_dflt ktr_enter
  (repeat' (first | (k_unfold; (try dsimp only)) | walk1 | (dsimp only; walk1) | fail "no step"))
  unfold Stop
  (refine Does.use (flag_tuple_does (fl := fl) (nf := nf) (List.Mem.tail _ (List.Mem.tail _ hf))) (by k_asm) (by k_asm) (by k_asm) (by k_asm) (by k_asm) (by first | exact rfl | assumption) (by ktr_room) (by ktr_units) ?_)
  rintro v news1 h1 tk1 F1 N1 ⟨r, k, rfl, rfl, hrfr⟩
  dsimp only
  have hrr : ∀ q ∈ rest, q.1 ≠ r := fun q hq => hrfr q (.tail _ (.tail _ hq))
  have hr : @Ne Nat r db := (hrfr _ (.head _)).symm
  have hr2 : @Ne Nat r ls := (hrfr _ (.tail _ (.head _))).symm
  (repeat' (first | (k_unfold; (try dsimp only)) | walk1 | (dsimp only; walk1) | fail "no step"))
  unfold Stop
  (rename News _ _ _ _ => N2)
  have N3 := news_swap N2
  refine Does.use (raised_does ho (List.Mem.tail _ (List.Mem.tail _ hb)) (all_cons hr (all_cons hlsdb hne))) (by k_asm) (by k_asm) (by k_asm) (by k_asm) (by k_asm) (by first | exact rfl | assumption) (by ktr_room) (by ktr_units) ?_
  rintro v news2 h2 tk2 F2 N4 ⟨t, o', rfl, ho2, rfl⟩
  dsimp only
  obtain ⟨bxE, rfl⟩ := ho2
  (repeat' (first | (k_unfold; (try dsimp only)) | walk1 | (dsimp only; walk1) | fail "no step"))
  refine hret _ ((db, _) :: (ls, _) :: ([(_, _), (_, _), (r, _)] ++ rest)) _ _ (by k_asm) (news_35 (by k_asm)) ?_
  refine ⟨_, _, [(_, _), (_, _), (r, _)], rfl, all_cons ?_ (all_cons ?_ (all_cons hr (fun _ h => nomatch h))), all_cons ?_ (all_cons ?_ (all_cons hr2 (fun _ h => nomatch h))), app_off ?_ ?_ hrr, ?_, BoxD.of⟩
  · k_ne
  · k_ne
  · k_ne
  · k_ne
  · (rename _ < _ => l8)
    refine' allne_up ?hA (Nat.le_of_lt l8)
    tbn_find
  · k_all
  · exact ⟨_, _, _, _, _, rfl, .head _, .tail _ (.head _), LetD.of, .tail _ (.tail _ (.head _))⟩

theorem place_of_does {ls : Addr} {rest : Led} {vs : List Value} {us : List Int} {n : Nat} {u : Int} {tu : Tok} (hl : (ls, listOf vs.toArray n) ∈ rest) (hL : Lets rest vs us) (hlen : us.length ≤ 1000) (hs : us.Pairwise (· < ·)) :
    Does w p loose mean mg mb 1 174 [.ref ls, .int u tu] rest (fun v news' => ∃ r t, v = .int r t ∧ news' = rest ∧ ((0 ≤ r ∧ us[r.toNat]? = some u) ∨ (r = -1 ∧ u ∉ us))) := by
  w_top off
  unfold Does
  k_fill
  intro dp un gd cn cs a ccd cl outer A₀ base h₀ L m s Q E B F X N T hk hdp hun hret
  have hvl := hL.len
  refine wpAny_call ?_
  k_dflt ktr_enter
  (repeat' (first | (k_unfold; (try dsimp only)) | (with_reducible ((with_reducible show wpAny _ _ (call (Value.builtin "len") [Value.ref _]) _ _ _); (k_dflt (refine' len_any ?k1 ?k2 ?_; (case k1 => is_list); (case k2 => omega); k_whole)))) | walk1 | (dsimp only; walk1) | fail "no step"))
  unfold Stop
  (rename Fr _ _ _ _ => F9)
  (rename News _ _ _ _ => N9)
  refine ksw_while (σ := Int × Tok × Int × Tok) (fun _ => rest) (fun c => [("low", .int c.1 c.2.1), ("high", .int c.2.2.1 c.2.2.2)]) (fun _ => True) ["middle"]
    (fun c => 0 ≤ c.1 ∧ c.1 ≤ c.2.2.1 ∧ c.2.2.1 ≤ us.length ∧ (∀ (i : Nat) x, us[i]? = some x → (i : Int) < c.1 → x < u) ∧ (∀ (i : Nat) x, us[i]? = some x → c.2.2.1 ≤ (i : Int) → u ≤ x))
    (fun c => (c.2.2.1 - c.1).toNat) (0, _, (vs.length : Int), _) F9 (news_sub N9 (fun q hq => .tail _ hq)) trivial (by kst_all) ?hp ?turn
  case hp =>
    dsimp only
    refine ⟨Int.le_refl _, by omega, by omega, fun i x _ h => ?_, fun i x hx h => ?_⟩
    · exfalso; omega
    · exfalso
      have := (List.getElem?_eq_some_iff.mp hx).1
      omega
  case turn =>
    rintro ⟨l, tl, hi, th⟩ u' h tk _ ⟨p1, p2, p3, p4, p5⟩ F1 N1
    dsimp only at p1 p2 p3 p4 p5 ⊢
    dsimp only [kstB] at F1
    clear F9 N9
    k_fold
    by_cases hlt : l < hi
    · have hm1 : l ≤ Int.fdiv (l + hi) 2 := by rw [Int.fdiv_eq_ediv_of_nonneg _ (by omega)]; omega
      have hm2 : Int.fdiv (l + hi) 2 < hi := by rw [Int.fdiv_eq_ediv_of_nonneg _ (by omega)]; omega
      obtain ⟨v, hv, hA⟩ := hL.get' (i := (Int.fdiv (l + hi) 2).toNat) (by omega)
      obtain ⟨al, dl, odl, fl, nf, rfl, hl1, hl2, ⟨ltE, rfl⟩, hl4⟩ := hA
      (repeat' (first | (k_unfold; (try dsimp only)) | (with_reducible ((with_reducible show wpAny _ _ (subscriptTail _ _ (Value.ref _) (Value.int _ _)) _ _ _); (with_unfolding_all refine' item_litK ?k1 ?k2 ?k3 ?k4 ?_ ?k6; (case k1 => is_list); (case k4 => with_reducible assumption); (case k2 => omega); (case k3 => omega); (case k6 => with_unfolding_all rfl); k_whole))) | walk1 | (dsimp only; walk1) | fail "no step"))
      all_goals unfold Stop
      · refine ksw_end (_, _, hi, th) (by k_asm) (by k_asm) (fun q hq => hq) trivial (by kst_all) (by ksw_same) ?_ ?_
        · dsimp only
          refine ⟨by omega, by omega, p3, fun i x hx h => ?_, p5⟩
          (rename us[_] < u => hlt2)
          refine Int.lt_of_le_of_lt ?_ hlt2
          exact le_at hs (j := (Int.fdiv (l + hi) 2).toNat) hx (List.getElem?_eq_getElem _) (by omega)
        · dsimp only; omega
      · refine ksw_end (l, tl, _, _) (by k_asm) (by k_asm) (fun q hq => hq) trivial (by kst_all) (by ksw_same) ?_ ?_
        · dsimp only
          refine ⟨p1, hm1, by omega, p4, fun i x hx h => ?_⟩
          (rename ¬ us[_] < u => hlt2)
          refine Int.le_trans (Int.not_lt.mp hlt2) ?_
          exact le_at hs (i := (Int.fdiv (l + hi) 2).toNat) (List.getElem?_eq_getElem _) hx (by omega)
        · dsimp only; omega
    · by_cases hin : l < us.length
      · obtain ⟨v, hv, hA⟩ := hL.get' (i := l.toNat) (by omega)
        obtain ⟨al, dl, odl, fl, nf, rfl, hl1, hl2, ⟨ltE, rfl⟩, hl4⟩ := hA
        (repeat' (first | (k_unfold; (try dsimp only)) | (with_reducible ((with_reducible show wpAny _ _ (subscriptTail _ _ (Value.ref _) (Value.int _ _)) _ _ _); (with_unfolding_all refine' item_litK ?k1 ?k2 ?k3 ?k4 ?_ ?k6; (case k1 => is_list); (case k4 => with_reducible assumption); (case k2 => omega); (case k3 => omega); (case k6 => with_unfolding_all rfl); k_whole))) | (with_reducible ((with_reducible show wpAny _ _ (call (Value.builtin "len") [Value.ref _]) _ _ _); (k_dflt (refine' len_any ?k1 ?k2 ?_; (case k1 => is_list); (case k2 => omega); k_whole)))) | walk1 | (dsimp only; walk1) | fail "no step"))
        · (rename us[_] = u => he)
          refine hret _ _ _ _ (by k_asm) (by k_asm) ⟨_, _, rfl, rfl, .inl ⟨p1, ?_⟩⟩
          rw [← he]
          exact List.getElem?_eq_getElem _
        · (rename ¬ us[_] = u => he)
          refine hret _ _ _ _ (by k_asm) (by k_asm) ⟨_, _, rfl, rfl, .inr ⟨rfl, fun hm => ?_⟩⟩
          obtain ⟨i, hil, hi'⟩ := List.getElem_of_mem hm
          have hx : us[i]? = some u := by rw [← hi']; exact List.getElem?_eq_getElem _
          by_cases h1 : (i : Int) < l
          · exact Int.lt_irrefl _ (p4 i u hx h1)
          · have h2 := p5 l.toNat _ (List.getElem?_eq_getElem (by omega)) (by omega)
            have h3 := le_at hs (i := l.toNat) (List.getElem?_eq_getElem (by omega)) hx (by omega)
            exact he (Int.le_antisymm h3 h2)
      · (repeat' (first | (k_unfold; (try dsimp only)) | (with_reducible ((with_reducible show wpAny _ _ (call (Value.builtin "len") [Value.ref _]) _ _ _); (k_dflt (refine' len_any ?k1 ?k2 ?_; (case k1 => is_list); (case k2 => omega); k_whole)))) | walk1 | (dsimp only; walk1) | fail "no step"))
        refine hret _ _ _ _ (by k_asm) (by k_asm) ⟨_, _, rfl, rfl, .inr ⟨rfl, fun hm => ?_⟩⟩
        obtain ⟨i, hil, hi'⟩ := List.getElem_of_mem hm
        have hx : us[i]? = some u := by rw [← hi']; exact List.getElem?_eq_getElem _
        exact Int.lt_irrefl _ (p4 i u hx (by omega))

theorem letter_does {bx db ls gn : Addr} {nu top : Int} {o : Obj} {rest : Led} {vs : List Value} {us : List Int} {n : Nat} {u : Int} {tu : Tok} (ho : BoxD nu top ls gn o) (hb : (bx, instObj 163 db) ∈ rest) (hd : (db, o) ∈ rest) (hl : (ls, listOf vs.toArray n) ∈ rest) (hL : Lets rest vs us) (hlen : us.length ≤ 1000) (hs : us.Pairwise (· < ·)) :
    Does w p loose mean mg mb 2 150 [.ref bx, .int u tu] rest (fun v news' => news' = rest ∧ ((u ∈ us ∧ LetAt rest u v) ∨ (u ∉ us ∧ v = .none))) := by
  w_top off
  obtain ⟨bxE, rfl⟩ := ho
  unfold Does
  k_fill
  intro dp un gd cn cs a ccd cl outer A₀ base h₀ L m s Q E B F X N T hk hdp hun hret
  have hvl := hL.len
  refine wpAny_call ?_
  k_dflt ktr_enter
  (repeat' (first | (k_unfold; (try dsimp only)) | walk1 | (dsimp only; walk1) | fail "no step"))
  unfold Stop
  (refine Does.use (place_of_does hl hL hlen hs) (by k_asm) (by k_asm) (by k_asm) (by k_asm) (by k_asm) (by first | exact rfl | assumption) (by ktr_room) (by ktr_units) ?_)
  rintro v news1 h1 tk1 F1 N1 ⟨r, t, rfl, rfl, hr⟩
  dsimp only
  rcases hr with ⟨hr, hu⟩ | ⟨rfl, hu⟩
  · have hlt := (List.getElem?_eq_some_iff.mp hu).1
    obtain ⟨v, hv, hA⟩ := hL.get' (i := r.toNat) hlt
    have he : us[r.toNat] = u := (List.getElem?_eq_some_iff.mp hu).2
    rw [he] at hA
    (repeat' (first | (k_unfold; (try dsimp only)) | (with_reducible ((with_reducible show wpAny _ _ (subscriptTail _ _ (Value.ref _) (Value.int _ _)) _ _ _); (with_unfolding_all refine' item_litK ?k1 ?k2 ?k3 ?k4 ?_ ?k6; (case k1 => is_list); (case k4 => with_reducible assumption); (case k2 => omega); (case k3 => omega); (case k6 => with_unfolding_all rfl); k_whole))) | walk1 | (dsimp only; walk1) | fail "no step"))
    refine hret _ _ _ _ (by k_asm) (by k_asm) ⟨rfl, .inl ⟨List.mem_of_getElem? hu, hA⟩⟩
  · (repeat' (first | (k_unfold; (try dsimp only)) | walk1 | (dsimp only; walk1) | fail "no step"))
    refine hret _ _ _ _ (by k_asm) (by k_asm) ⟨rfl, .inr ⟨hu, rfl⟩⟩
theorem place_among_does {ls : Addr} {rest : Led} {vs : List Value} {us : List Int} {n : Nat} {u : Int} {tu : Tok} (hl : (ls, listOf vs.toArray n) ∈ rest) (hI : IntsAre vs us) (hlen : us.length ≤ 1000) :
    Does w p loose mean mg mb 1 307 [.ref ls, .int u tu] rest (fun v news' => ∃ r t, v = .int r t ∧ news' = rest) := by
  w_top off
  unfold Does
  k_fill
  intro dp un gd cn cs a ccd cl outer A₀ base h₀ L m s Q E B F X N T hk hdp hun hret
  have hvl := hI.length
  refine wpAny_call ?_
  k_dflt ktr_enter
  (repeat' (first | (k_unfold; (try dsimp only)) | (with_reducible ((with_reducible show wpAny _ _ (call (Value.builtin "len") [Value.ref _]) _ _ _); (with_unfolding_all refine' len_ints_fit ?k1 ?k2 ?k3 ?_; (case k1 => is_list); (case k2 => with_reducible assumption); (case k3 => l_fit); k_whole))) | walk1 | (dsimp only; walk1) | fail "no step"))
  unfold Stop
  (rename Fr _ _ _ _ => F9)
  (rename News _ _ _ _ => N9)
  refine ksw_while (σ := Int × Tok × Int × Tok) (fun _ => rest) (fun c => [("low", .int c.1 c.2.1), ("high", .int c.2.2.1 c.2.2.2)]) (fun _ => True) ["middle"]
    (fun c => 0 ≤ c.1 ∧ c.1 ≤ c.2.2.1 ∧ c.2.2.1 ≤ us.length)
    (fun c => (c.2.2.1 - c.1).toNat) (0, _, (us.length : Int), _) F9 (news_sub N9 (fun q hq => .tail _ hq)) trivial (by kst_all) ?hp ?turn
  case hp =>
    dsimp only
    exact ⟨Int.le_refl _, by omega, by omega⟩
  case turn =>
    rintro ⟨l, tl, hi, th⟩ u' h tk _ ⟨p1, p2, p3⟩ F1 N1
    dsimp only at p1 p2 p3 ⊢
    dsimp only [kstB] at F1
    clear F9 N9
    k_fold
    by_cases hlt : l < hi
    · have hm1 : l ≤ Int.fdiv (l + hi) 2 := by rw [Int.fdiv_eq_ediv_of_nonneg _ (by omega)]; omega
      have hm2 : Int.fdiv (l + hi) 2 < hi := by rw [Int.fdiv_eq_ediv_of_nonneg _ (by omega)]; omega
      (repeat' (first | (k_unfold; (try dsimp only)) | walk1 | (dsimp only; walk1) | fail "no step"))
      all_goals unfold Stop
      · refine ksw_end (_, _, hi, th) (by k_asm) (by k_asm) (fun q hq => hq) trivial (by kst_all) (by ksw_same) ?_ ?_
        · dsimp only
          exact ⟨by omega, by omega, p3⟩
        · dsimp only; omega
      · refine ksw_end (l, tl, _, _) (by k_asm) (by k_asm) (fun q hq => hq) trivial (by kst_all) (by ksw_same) ?_ ?_
        · dsimp only
          exact ⟨p1, hm1, by omega⟩
        · dsimp only; omega
    · by_cases hin : l < us.length
      · (repeat' (first | (k_unfold; (try dsimp only)) | (with_reducible ((with_reducible show wpAny _ _ (call (Value.builtin "len") [Value.ref _]) _ _ _); (with_unfolding_all refine' len_ints_fit ?k1 ?k2 ?k3 ?_; (case k1 => is_list); (case k2 => with_reducible assumption); (case k3 => l_fit); k_whole))) | walk1 | (dsimp only; walk1) | fail "no step"))
        all_goals exact hret _ _ _ _ (by k_asm) (by k_asm) ⟨_, _, rfl, rfl⟩
      · (repeat' (first | (k_unfold; (try dsimp only)) | (with_reducible ((with_reducible show wpAny _ _ (call (Value.builtin "len") [Value.ref _]) _ _ _); (with_unfolding_all refine' len_ints_fit ?k1 ?k2 ?k3 ?_; (case k1 => is_list); (case k2 => with_reducible assumption); (case k3 => l_fit); k_whole))) | walk1 | (dsimp only; walk1) | fail "no step"))
        exact hret _ _ _ _ (by k_asm) (by k_asm) ⟨_, _, rfl, rfl⟩

theorem raised_mid {bx db ls gn : Addr} {nu top : Int} {o : Obj} {news : Led} {g : Obj → Led} (ho : BoxD nu top ls gn o) (U : UpdF db o news g) (hb : (bx, instObj 163 db) ∈ news) :
    Does w p loose mean mg mb 1 181 [.ref bx] news (fun v news' => ∃ t o', v = .int (top + 1) t ∧ BoxD nu (top + 1) ls gn o' ∧ news' = g o') := by
  w_top off
  obtain ⟨pre, post, rfl, hg, x1, x2⟩ := U.split
  have hb' : (bx, instObj 163 db) ∈ pre ++ post := by
    rcases List.mem_append.mp hb with h | h
    · exact List.mem_append_left _ h
    · rcases List.mem_cons.mp h with e | h
      · exfalso
        obtain ⟨bxE, rfl⟩ := ho
        have e2 := congrArg (fun q => q.2.cls) e
        simp at e2
      · exact List.mem_append_right _ h
  refine Does.move (l1 := (db, o) :: (pre ++ post)) ?_ (raised_does ho hb' (fun q hq => (List.mem_append.mp hq).elim (x1 q) (x2 q))) ?_
  · intro q hq
    rcases List.mem_cons.mp hq with rfl | hq
    · exact List.mem_append_right _ (.head _)
    · rcases List.mem_append.mp hq with h | h
      · exact List.mem_append_left _ h
      · exact List.mem_append_right _ (.tail _ h)
  · rintro v n' ⟨t, o', rfl, ho', rfl⟩
    refine ⟨g o', ?_, ⟨t, o', rfl, ho', rfl⟩⟩
    intro q hq
    rw [hg] at hq
    rcases List.mem_append.mp hq with h | h
    · exact .tail _ (List.mem_append_left _ h)
    · rcases List.mem_cons.mp h with rfl | h
      · exact .head _
      · exact .tail _ (List.mem_append_right _ h)
theorem expunge_does {bx db ls gn gl : Addr} {nu top : Int} {o : Obj} {rest led : Led} {vs gvs : List Value} {us gs : List Int} {n ng k : Nat} (ho : BoxD nu top ls gn o) (hb : (bx, instObj 163 db) ∈ rest) (hg : (gl, listOf gvs.toArray k) ∈ rest) (hgn : (gn, listOf #[] ng) ∈ rest) (hne : ∀ q ∈ rest, q.1 ≠ db) (hne2 : ∀ q ∈ rest, q.1 ≠ ls) (hlsdb : @Ne Nat ls db) (hL : Lets rest vs us) (hLd : Lets led vs us) (hI : IntsAre gvs gs) (hlen : us.length ≤ 1000) (hlen2 : gs.length ≤ 1000) :
    Does w p loose mean mg mb 12 193 [.ref bx, .ref gl] ((db, o) :: (ls, listOf vs.toArray n) :: rest) (expunge_post db nu rest led us gs) := by
  w_top off
  have ho' := ho
  obtain ⟨bxE, rfl⟩ := ho'
  unfold Does
  k_fill
  intro dp un gd cn cs a ccd cl outer A₀ base h₀ L m s Q E B F X N T hk hdp hun hret
  have hvl := hL.len
  have hgl := hI.length
  refine wpAny_call ?_
  k_dflt (refine' code_defC ?k1 ?k2 ?k3 ?k4 ?k5 ?kA ?kF ?kK ?k6 ?k7 ?k8 ?k9 ?kB ?kD ?_ ?c2 ?c3 ?c4; (case kA => exact rfl); (case kF => exact rfl); (case kK => first | assumption | exact rfl); (case k1 => k_asm); (case k2 => k_asm); (case k3 => k_asm); (case k4 => k_asm); (case k5 => k_asm); (case k6 => k_is); (case k7 => k_is); (case k8 => ktr_room); (case k9 => exact BindsTo.of_eq rfl); (case kB => exact rfl); (case kD => decide +kernel); (case c2 => exact rfl); (case c3 => exact rfl); (case c4 => exact rfl); k_whole; intro g' L' h' tk' cells' FG' F' N' Y' B' X' T' l1; (try k_lt l1); k_cells Y'; (try simp only [List.cons_append, List.nil_append] at N'); (try dsimp only); (try k_fold))
  (repeat' (first | (k_unfold; (try dsimp only)) | (with_reducible ((with_reducible show wpAny _ _ (exec (Stmt.For _ (Expr.Name _ _) _ _ _) _) _ _ _); (rename Fr _ _ _ _ => lF'); (with_unfolding_all refine' For_turns lF' ?_; k_whole))) | walk1 | (dsimp only; walk1) | fail "no step"))
  unfold Stop
  (rename Obj.IsDictOf (PySem.strKind _ _) _ _ => hs9)
  (rename Obj.IsDictOf (PySem.intKind _ _) _ _ => hi9)
  clear hs9
  (rename Fr _ _ _ _ => F9)
  (rename News _ _ _ _ => N9)
  obtain ⟨m₀, hm₀, F8⟩ := nameF F9
  obtain ⟨tl, htl, N8⟩ := nameN1 N9
  clear F9 N9
  have hgl2 : (gl, listOf gvs.toArray k) ∈ tl := by
    subst htl
    exact .tail _ (.tail _ (.tail _ (.tail _ hg)))
  refine turns_list (JE1 w m₀ _ tl gs) (by rfl) F8 N8 (.tail _ hgl2) ⟨_, _, _, upd_self _, rfl, hi9, Nat.le_refl _, ?_⟩ ?_ ?_ ?_
  · intro u
    simp [valueAt]
  · rintro i m' nx ⟨mv, od, kvs, rfl, rfl, hod, hle, hkv⟩
    exact .tail _ hgl2
  · rintro i v m' nx h tk I io hv hlt hoff ⟨mv, od, kvs, rfl, rfl, hod, hle, hkv⟩ F1 N1
    obtain ⟨u, tu, rfl, hu⟩ := hI.at _ _ hv
    subst hm₀ htl
    have hil := (List.getElem?_eq_some_iff.mp hv).1
    k_lt hlt
    (repeat' (first | (k_unfold; (try dsimp only)) | (with_reducible ((with_reducible show wpAny _ _ (setItem (Value.ref _) (Value.int _ _) _) _ _ _); k_dflt (refine' kda_set (knd := PySem.intKind _ _) ?F ?N ?U ?d (intKind_is _ _ _ _) ?z ?_; (case F => k_asm); (case N => k_asm); (case U => k_updF); (case d => with_reducible assumption); (case z => (rw [sizeLine_eq]; omega))); intro h' o' F' N' hd'; (try dsimp only at N'))) | walk1 | (dsimp only; walk1) | fail "no step"))
    refine TPost.go (by (first | k_asm | assumption)) (by (first | k_asm | assumption)) (by k_all) ⟨some (.int u tu), _, _, upd_upd _, rfl, by with_reducible assumption, ?_, keys_snoc hkv hu⟩
    have := stored_length_le kvs u (.bool true)
    omega
  · rintro m' nx h tk ⟨mv, od, kvs, rfl, rfl, hod, hle, hkv⟩ F1 N1
    dsimp only
    have hkv := full_take hkv hgl
    subst hm₀ htl
    (repeat' (first | (k_unfold; (try dsimp only)) | (with_reducible ((with_reducible show wpAny _ _ (exec (Stmt.Assign [Expr.Name _ _] (Expr.ListComp _ [Comprehension.mk _ _ [_] _] _ _) _) _) _ _ _); k_dflt (refine LCt.Assign_ListComp_T (F₀ := by k_asm) (by rfl) (by with_unfolding_all rfl) (by with_unfolding_all rfl) (by decide) (by rfl) (by decide) (by rfl) (by rfl) (by rfl) ?_))) | walk1 | (dsimp only; walk1) | fail "no step"))
    unfold Stop
    (refine Does.call (by k_asm) (by k_asm) (by k_asm) (by k_asm) (by k_asm) (by first | exact rfl | assumption) (by ktr_room) (by ktr_units) (uids_does ho (by k_mem) (by k_mem) (by k_mem) (hL.mono (fun q hq => by (repeat (first | exact hq | apply List.Mem.tail)))) hlen) ?_)
    rintro v news1 h1 tk1 F2 N2 ⟨ua, uys, rfl, huI, hufr, rfl⟩
    dsimp only
    have hul := huI.length
    ((try replace hufr := off1_of hufr); dsimp only [LCg.Off1] at hufr)
    refine LCt.CompSrcT.ledger (by rfl) (by k_asm) (by k_asm) (by k_mem) (by rw [List.size_toArray, sizeLine_eq]; omega) ?_
    intro g'
    refine restT_J (fun i ys nx => nx = _ ∧ IntsAre ys ((us.take i).filter (fun u => decide (u ∈ gs)))) ⟨rfl, .nil⟩ ?_ ?_ ?_
    · rintro i ys nx ⟨rfl, _⟩
      exact .inr ⟨_, by k_mem, rfl, _, rfl⟩
    · rintro i v ys nx I oI C oC D m₂ h tk E' hi hv ⟨rfl, hys⟩ hC hx F1 N1 off ne
      obtain ⟨u, tu, rfl, hu⟩ := huI.at i v (by simpa using hv)
      have hb := hkv u
      by_cases hm : u ∈ gs
      · simp only [hm, decide_true] at hb
        (repeat' (first | (k_unfold; (try dsimp only)) | (with_reducible ((with_reducible show wpAny _ _ (compareOp CmpOp.In (Value.int _ _) (Value.ref _)) _ _ _); k_dflt (refine kda_in (knd := PySem.intKind _ _) (by k_asm) (by k_mem) (by with_reducible assumption) (by k_asm) (intKind_is _ _ _ _) true (by with_reducible assumption) ?_))) | walk1 | (dsimp only; walk1) | fail "no step"))
        refine LCg.CompEnd.intro (by k_asm) (by k_asm) _ (fun q hq => hq) off trivial ⟨rfl, ints_keep hys hu (by simpa using hm)⟩
      · simp only [hm, decide_false] at hb
        (repeat' (first | (k_unfold; (try dsimp only)) | (with_reducible ((with_reducible show wpAny _ _ (compareOp CmpOp.In (Value.int _ _) (Value.ref _)) _ _ _); k_dflt (refine kda_in (knd := PySem.intKind _ _) (by k_asm) (by k_mem) (by with_reducible assumption) (by k_asm) (intKind_is _ _ _ _) false (by with_reducible assumption) ?_))) | walk1 | (dsimp only; walk1) | fail "no step"))
        refine LCg.CompEnd.intro (by k_asm) (by k_asm) _ (fun q hq => hq) off trivial ⟨rfl, ints_skip hys hu (by simpa using hm)⟩
    · rintro ys nx ⟨rfl, hys⟩
      have hys := ints_all hys (by simpa using hul)
      intro D h tk F1 N1 off
      ((try replace off := off1_of off); dsimp only [LCg.Off1] at off)
      dsimp only
      (repeat' (first | (k_unfold; (try dsimp only)) | (with_reducible ((with_reducible show wpAny _ _ (compareOp CmpOp.Eq (Value.ref _) (Value.ref _)) _ _ _); (with_unfolding_all refine' eq_intsK ?k1 ?k2 ?k3 ?k4 ?k5 ?_; (case k1 => is_list); (case k2 => (first | with_reducible assumption | with_reducible exact IntsAre.nil)); (case k3 => is_list); (case k4 => (first | with_reducible assumption | with_reducible exact IntsAre.nil)); (case k5 => ktr_units); k_whole))) | walk1 | (dsimp only; walk1) | fail "no step"))
      · (rename decide _ = true => he)
        simp only [decide_eq_true_eq] at he
        refine hret _ ((db, _) :: (ls, _) :: rest) _ _ (by k_asm) (news_sub (by k_asm) (by ((repeat (refine sub_cons (by repeat (first | exact List.Mem.head _ | apply List.Mem.tail)) ?_)); repeat (first | exact fun q hq => hq | refine sub_tail ?_)))) ⟨_, ls, gn, top, vs, n, rfl, hne2, hlsdb, ?_, ho⟩
        have e : us.filter (fun u => decide (u ∉ gs)) = us := by
          rw [List.filter_eq_self]
          intro u hu
          have := List.filter_eq_nil_iff.mp he u hu
          simpa using this
        rw [e]
        exact hLd
      unfold Stop
      (refine Does.call (by k_asm) (by k_asm) (by k_asm) (by k_asm) (by k_asm) (by first | exact rfl | assumption) (by ktr_room) (by ktr_units) (raised_mid (db := db) ho (by k_updF) (by k_mem)) ?_)
      rintro v news2 h2 tk2 F3 N3 ⟨t3, o3, rfl, ho3, rfl⟩
      dsimp only
      obtain ⟨bxE, rfl⟩ := ho3
      (repeat' (first | (k_unfold; (try dsimp only)) | (with_reducible ((with_reducible show wpAny _ _ (eval (Expr.ListComp _ [Comprehension.mk _ _ [_] _] _ _) _) _ _ _); k_dflt (refine LCt.ListComp_T (F₀ := by k_asm) (by with_unfolding_all rfl) (by decide) (by rfl) (by decide) (by rfl) ?_))) | walk1 | (dsimp only; walk1) | fail "no step"))
      unfold Stop
      refine LCt.CompSrcT.ledger (by rfl) (by k_asm) (by k_asm) (by k_mem) (by rw [List.size_toArray, sizeLine_eq]; omega) ?_
      intro g2
      refine restT_J (fun i ys nx => nx = _ ∧ Lets led ys ((us.take i).filter (fun u => decide (u ∉ gs)))) ⟨rfl, .nil⟩ ?_ ?_ ?_
      · rintro i ys nx ⟨rfl, _⟩
        exact .inr ⟨_, by k_mem, rfl, _, rfl⟩
      · rintro i v ys2 nx I oI C oC D2 m₂ h tk E' hi hv ⟨rfl, hys2⟩ hC hx F1 N1 off2 ne
        obtain ⟨u, hu, hA⟩ := hL.get (i := i) (v := v) (by simpa using hv)
        obtain ⟨u2, hu2, hA2⟩ := hLd.get (i := i) (v := v) (by simpa using hv)
        have e2 := hu.symm.trans hu2
        injection e2 with e2
        subst e2
        have hA' := hA
        obtain ⟨al, dl, odl, fl, nf, rfl, hl1, hl2, ⟨ltE, rfl⟩, hl4⟩ := hA'
        have hb := hkv u
        by_cases hm : u ∈ gs
        · simp only [hm, decide_true] at hb
          (repeat' (first | (k_unfold; (try dsimp only)) | (with_reducible ((with_reducible show wpAny _ _ (compareOp CmpOp.NotIn (Value.int _ _) (Value.ref _)) _ _ _); k_dflt (refine kdg_notin (knd := PySem.intKind _ _) (by k_asm) (by k_mem) (by with_reducible assumption) (by k_asm) (intKind_is _ _ _ _) true (by with_reducible assumption) ?_); (try dsimp only [Bool.not_true, Bool.not_false]))) | walk1 | (dsimp only; walk1) | fail "no step"))
          refine LCg.CompEnd.intro (by k_asm) (by k_asm) _ (fun q hq => hq) off2 trivial ⟨rfl, lets_skip hys2 hu (by simpa using hm)⟩
        · simp only [hm, decide_false] at hb
          (repeat' (first | (k_unfold; (try dsimp only)) | (with_reducible ((with_reducible show wpAny _ _ (compareOp CmpOp.NotIn (Value.int _ _) (Value.ref _)) _ _ _); k_dflt (refine kdg_notin (knd := PySem.intKind _ _) (by k_asm) (by k_mem) (by with_reducible assumption) (by k_asm) (intKind_is _ _ _ _) false (by with_reducible assumption) ?_); (try dsimp only [Bool.not_true, Bool.not_false]))) | walk1 | (dsimp only; walk1) | fail "no step"))
          refine LCg.CompEnd.intro (by k_asm) (by k_asm) _ (fun q hq => hq) off2 trivial ⟨rfl, lets_keep hys2 hu hA2 (by simpa using hm)⟩
      · rintro ys2 nx ⟨rfl, hys2⟩
        have hys2 := lets_all hys2 (by simpa using hvl)
        intro D2 h tk F1 N1 off2
        ((try replace off2 := off1_of off2); dsimp only [LCg.Off1] at off2)
        dsimp only
        (repeat' (first | (k_unfold; (try dsimp only)) | (with_reducible ((with_reducible show wpAny _ _ (eval (Expr.ListComp _ [Comprehension.mk _ _ [] _] _ _) _) _ _ _); k_dflt (refine LCg.ListComp_U (F₀ := by k_asm) (by with_unfolding_all rfl) (by decide) (by rfl) (by decide) (by rfl) ?_))) | walk1 | (dsimp only; walk1) | fail "no step"))
        unfold Stop
        have hyl := hys.length
        have hyl2 : (us.filter (fun u => decide (u ∈ gs))).length ≤ us.length := List.length_filter_le _ _
        refine LCg.CompSrc.ledger (by rfl) (by k_asm) (by k_asm) (by k_mem) (by rw [List.size_toArray, sizeLine_eq]; omega) ?_
        intro g3
        refine rest_J (fun i ys nx => nx = _ ∧ ys.length = i) ⟨rfl, rfl⟩ ?_ ?_ ?_
        · rintro i ys nx ⟨rfl, _⟩
          exact .inr ⟨_, by k_mem, rfl, _, rfl⟩
        · rintro i v ys3 nx I oI C oC D3 m₂ h tk E' hi hv ⟨rfl, hys3⟩ hC hx F1 N1 off3 ne
          obtain ⟨u, tu, rfl, hu⟩ := hys.at i v (by simpa using hv)
          (repeat' (first | (k_unfold; (try dsimp only)) | walk1 | (dsimp only; walk1) | fail "no step"))
          refine LCg.CompEnd.intro (by k_asm) (by k_asm) _ (by ((repeat (refine sub_cons (by repeat (first | exact List.Mem.head _ | apply List.Mem.tail)) ?_)); repeat (first | exact fun q hq => hq | refine sub_tail ?_))) off3 trivial ⟨rfl, by simp [hys3]⟩
        · rintro ys3 nx ⟨rfl, hys3⟩
          intro D3 h tk F1 N1 off3
          have hz := news_lt N1
          k_lt hz
          ((try replace off3 := off1_of off3); dsimp only [LCg.Off1] at off3)
          dsimp only
          (repeat' (first | (k_unfold; (try dsimp only)) | walk1 | (dsimp only; walk1) | fail "no step"))
          refine hret _ ((db, _) :: (D2, _) :: rest) _ _ (by k_asm) (news_sub (by k_asm) (by ((repeat (refine sub_cons (by repeat (first | exact List.Mem.head _ | apply List.Mem.tail)) ?_)); repeat (first | exact fun q hq => hq | refine sub_tail ?_)))) ⟨_, D2, _, _, ys2, _, rfl, ?_, ?_, hys2, BoxD.of⟩
          · exact off1_ne off2.2.2.2.2.2.2.2.2
          · k_ne

theorem ends_of_does {pt : Addr} {rest : Led} {a b g : Int} {ta tb tg : Tok} {n : Nat} (hp : (pt, tupOf #[.int a ta, .int b tb] n) ∈ rest) (hg : 1 ≤ g) :
    Does w p loose mean mg mb 3 200 [.ref pt, .int g tg] rest (ends_of_post rest a b g) := by
  w_top off
  unfold Does
  k_fill
  intro dp un gd cn cs ad ccd cl outer A₀ base h₀ L m s Q E B F X N T hk hdp hun hret
  refine wpAny_call ?_
  k_dflt ktr_enter
  (repeat' (first | (k_unfold; (try dsimp only)) | walk1 | (dsimp only; walk1) | fail "no step"))
  all_goals first
    | (exfalso; omega)
    | (refine hret _ _ _ _ (by k_asm) (by k_asm) ⟨_, _, _, _, _, _, ?_, ?_, rfl, rfl, ?_⟩
       · simp only [pairOf, endOf]
         repeat' split
         all_goals omega
       · simp only [pairOf, endOf]
         repeat' split
         all_goals omega
       · intro q hq
         (rename ∀ p, p ∈ rest → _ => l9)
         exact Nat.ne_of_lt (l9 q hq))

theorem plain_set_does {pt : Addr} {rest : Led} {pvs : List Value} {qs : List (Int × Int)} {g : Int} {tg : Tok} {n : Nat} (hp : (pt, tupOf pvs.toArray n) ∈ rest) (hP : Pairs rest pvs qs) (hlen : qs.length ≤ 3) (hg : 1 ≤ g) :
    Does w p loose mean mg mb 5 207 [.ref pt, .int g tg] rest (plain_set_post rest qs g) := by
  w_top off
  unfold Does
  k_fill
  intro dp un gd cn cs ad ccd cl outer A₀ base h₀ L m s Q E B F X N T hk hdp hun hret
  have hpl := hP.len
  refine wpAny_call ?_
  k_dflt ktr_enter
  (repeat' (first | (k_unfold; (try dsimp only)) | (with_reducible ((with_reducible show wpAny _ _ (exec (Stmt.For _ (Expr.Name _ _) _ _ _) _) _ _ _); (rename Fr _ _ _ _ => lF'); (with_unfolding_all refine' For_turns lF' ?_; k_whole))) | walk1 | (dsimp only; walk1) | fail "no step"))
  unfold Stop
  (rename Fr _ _ _ _ => F9)
  (rename News _ _ _ _ => N9)
  (rename ∀ p, p ∈ rest → _ => l9)
  obtain ⟨D, hD9⟩ := nameHead N9
  subst hD9
  have hne9 : ∀ q ∈ rest, q.1 ≠ D := fun q hq => Nat.ne_of_lt (l9 q hq)
  obtain ⟨m₀, hm₀, F8⟩ := nameF F9
  clear F9
  refine turns_tup (JP1 m₀ D rest qs g) (by rfl) F8 N9 (.tail _ hp) ⟨_, _, rest, [], _, upd_self2 _, rfl, fun q hq => hq, hne9, .nil⟩ ?_ ?_ ?_
  · rintro i m' nx ⟨e1, e2, rest', vs', k', rfl, rfl, hs, hne, hps⟩
    exact .tail _ (hs _ hp)
  · rintro i v m' nx h tk I io hv hlt hoff ⟨e1, e2, rest', vs', k', rfl, rfl, hs, hne, hps⟩ F1 N1
    obtain ⟨⟨qa, qb⟩, hq, hA⟩ := hP.get hv
    obtain ⟨r, ta, tb, nn, rfl, hr⟩ := hA
    have hil := (List.getElem?_eq_some_iff.mp hv).1
    subst hm₀
    (repeat' (first | (k_unfold; (try dsimp only)) | walk1 | (dsimp only; walk1) | fail "no step"))
    unfold Stop
    (refine Does.call (by k_asm) (by k_asm) (by k_asm) (by k_asm) (by k_asm) (by first | exact rfl | assumption) (by ktr_room) (by ktr_units) (ends_of_does (a := qa) (b := qb) (ta := ta) (tb := tb) (n := nn) (.tail _ (.tail _ (hs _ hr))) hg) ?_)
    rintro v news1 h1 tk1 F2 N2 ⟨er, lo, hi, t1, t2, ek, hlo, hhi, rfl, rfl, hefr⟩
    dsimp only
    have hoffr : ∀ q ∈ rest', q.1 ≠ I := fun q hq => hoff q (.tail _ hq)
    have her : ∀ q ∈ rest', q.1 ≠ er := fun q hq => hefr q (.tail _ (.tail _ hq))
    k_lt hlt
    ((try replace hefr := off1_of hefr); dsimp only [LCg.Off1] at hefr)
    have hvl' : vs'.length ≤ 3 := by rw [hps.len, List.length_map, List.length_take]; omega
    (repeat' (first | (k_unfold; (try dsimp only)) | walk1 | (dsimp only; walk1) | fail "no step"))
    (rename News _ _ _ _ => N7)
    simp only [List.push_toArray] at N7
    refine TPost.go (nx := (D, listOf (List.toArray (vs' ++ [.ref er])) _) :: (er, _) :: rest') (by (first | k_asm | assumption)) (news_sub (by (first | k_asm | assumption)) (by ((repeat (refine sub_cons (by repeat (first | exact List.Mem.head _ | apply List.Mem.tail)) ?_)); repeat (first | exact fun q hq => hq | refine sub_tail ?_)))) (by k_all) ⟨some (.ref er), some (.ref r), _, vs' ++ [.ref er], _, ?_, rfl, fun q hq => .tail _ (hs q hq), by k_all, ?_⟩
    · exact upd_two _
    · refine Pairs.snoc (hps.mono fun q hq => .tail _ hq) hq ⟨er, t1, t2, ek, rfl, ?_⟩
      rw [hlo, hhi]
      exact .head _
  · rintro m' nx h tk ⟨e1, e2, rest', vs', k', rfl, rfl, hs, hne, hps⟩ F1 N1
    dsimp only
    have hpl2 : (qs.take pvs.length).map (pairOf g) = qs.map (pairOf g) := by rw [hpl, List.take_length]
    rw [hpl2] at hps
    have hvl' : vs'.length ≤ 3 := by rw [hps.len, List.length_map]; exact hlen
    subst hm₀
    (repeat' (first | (k_unfold; (try dsimp only)) | walk1 | (dsimp only; walk1) | fail "no step"))
    unfold Stop
    refine sort_pairs (by k_asm) (by k_asm) hne hps (by rw [List.length_map]; exact hlen) ?_
    intro h2 vs2 qs2 n2 F2 N2 hps2 hso hmem hl2
    dsimp only
    (repeat' (first | (k_unfold; (try dsimp only)) | (with_reducible ((with_reducible show wpAny _ _ (exec (Stmt.For _ (Expr.Name _ _) _ _ _) _) _ _ _); (rename Fr _ _ _ _ => lF'); (with_unfolding_all refine' For_turns lF' ?_; k_whole))) | walk1 | (dsimp only; walk1) | fail "no step"))
    unfold Stop
    (rename Fr _ _ _ _ => F9)
    (rename News _ _ _ _ => N9)
    obtain ⟨m₀, hm₀, F8⟩ := nameF F9
    clear F9
    have hq2 : qs2.length ≤ 3 := by rw [← hps2.len]; omega
    obtain ⟨O, hO9⟩ := nameHead N9
    subst hO9
    refine turns_list (vs := vs2) (JP2 m₀ O ((D, listOf (List.toArray vs2) n2) :: rest') qs2) (by rfl) F8 N9 (.tail _ (.head _)) ⟨_, _, _, [], [], _, upd_self2 _, rfl, fun q hq => hq, by k_all, .nil, .nil⟩ ?_ ?_ ?_
    · rintro i m' nx ⟨e1, e2, rest2, ovs, os, k2, rfl, rfl, hs2, hne2, hps3, hM⟩
      exact .tail _ (hs2 _ (.head _))
    · rintro i v m' nx h tk I io hv hlt hoff ⟨e3, e4, rest2, ovs, os, k2, rfl, rfl, hs2, hne2, hps3, hM⟩ F1 N1
      obtain ⟨⟨qa, qb⟩, hq, hA⟩ := hps2.get hv
      obtain ⟨r, ta, tb, nn, rfl, hr⟩ := hA
      have hr2 := hs2 _ (List.Mem.tail _ hr)
      have hil := (List.getElem?_eq_some_iff.mp hv).1
      have hoffr : ∀ q ∈ rest2, q.1 ≠ I := fun q hq => hoff q (.tail _ hq)
      have hol := hps3.len
      have hML := hM.2.2.2.2
      rw [List.length_take] at hML
      have htk : qs2.take (i + 1) = qs2.take i ++ [(qa, qb)] := by rw [List.take_add_one, hq]; rfl
      have hab : qa ≤ qb := by
        obtain ⟨q0, _, e0⟩ := List.mem_map.mp ((hmem _).mp (List.mem_of_getElem? hq))
        have := pairOf_le g q0
        rw [e0] at this
        exact this
      have hle : ∀ q ∈ qs2.take i, q.1 ≤ qa := by
        have h1 := hso.sublist (List.take_sublist (i + 1) qs2)
        rw [htk] at h1
        exact fun q hq => (List.pairwise_append.mp h1).2.2 q hq (qa, qb) (by simp)
      subst hm₀
      k_lt hlt
      rcases hps3.unsnoc with ⟨rfl, rfl⟩ | ⟨ys, yv, oo, a, b, rfl, rfl, hp4, x4, t5, t6, n4, rfl, hx4⟩
      · (repeat' (first | (k_unfold; (try dsimp only)) | (with_reducible ((with_reducible show wpAny _ _ (call (Value.builtin "len") [Value.ref _]) _ _ _); (k_dflt (refine' len_any ?k1 ?k2 ?_; (case k1 => is_list); (case k2 => omega); k_whole)))) | walk1 | (dsimp only; walk1) | fail "no step"))
        (rename News _ _ _ _ => N7)
        obtain ⟨T, hT⟩ := nameHead N7
        subst hT
        refine TPost.go (nx := (O, listOf (List.toArray [.ref T]) _) :: (T, tupOf #[.int qa ta, .int qb tb] 0) :: rest2) (by (first | k_asm | assumption)) (news_sub (by (first | k_asm | assumption)) (by ((repeat (refine sub_cons (by repeat (first | exact List.Mem.head _ | apply List.Mem.tail)) ?_)); repeat (first | exact fun q hq => hq | refine sub_tail ?_)))) (by k_all) ⟨some (.int qb tb), some (.int qa ta), _, [.ref T], [(qa, qb)], _, upd_two _, rfl, fun q hq => .tail _ (hs2 q hq), by k_all, .cons ⟨T, ta, tb, 0, rfl, .head _⟩ .nil, ?_⟩
        rw [htk]
        exact hM.first hab
      · have hpos : 0 < (ys ++ [Value.ref x4]).length := by rw [List.length_append]; exact Nat.succ_pos _
        by_cases hc : qa ≤ b + 1
        · (repeat' (first | (k_unfold; (try dsimp only)) | (with_reducible ((with_reducible show wpAny _ _ (subscriptTail _ _ (Value.ref _) (Value.int (-1) _)) _ _ _); (with_unfolding_all refine' sub_last ?k1 ?_ ?k6; (case k1 => is_list); (case k6 => with_unfolding_all rfl); k_whole))) | (with_reducible ((with_reducible show wpAny _ _ (call (Value.builtin "len") [Value.ref _]) _ _ _); (k_dflt (refine' len_any ?k1 ?k2 ?_; (case k1 => is_list); (case k2 => omega); k_whole)))) | (with_reducible ((with_reducible show wpAny _ _ (setItem (Value.ref _) (Value.int (-1) _) _) _ _ _); k_dflt (refine' set_last ?k1 ?k2 ?k3 ?_; (case k1 => k_asm); (case k2 => k_asm); (case k3 => k_upd)); intro h' F' N'; (try dsimp only at N'))) | walk1 | (dsimp only; walk1) | fail "no step"))
          (rename News _ _ _ _ => N7)
          obtain ⟨T, hT⟩ := nameHead N7
          subst hT
          refine TPost.go (nx := (O, listOf (List.toArray (ys ++ [.ref T])) _) :: (T, _) :: rest2) (by (first | k_asm | assumption)) (news_sub (by (first | k_asm | assumption)) (by ((repeat (refine sub_cons (by repeat (first | exact List.Mem.head _ | apply List.Mem.tail)) ?_)); repeat (first | exact fun q hq => hq | refine sub_tail ?_)))) (by k_all) ⟨some (.int qb tb), some (.int qa ta), _, ys ++ [.ref T], oo ++ [(a, if qb > b then qb else b)], _, upd_two _, rfl, fun q hq => .tail _ (hs2 q hq), by k_all, (hp4.mono fun q hq => .tail _ hq).append (.cons ⟨T, t5, _, 0, rfl, .head _⟩ .nil), ?_⟩
          rw [htk]
          refine hM.join hab ?_ hle hc
          split <;> omega
        · (repeat' (first | (k_unfold; (try dsimp only)) | (with_reducible ((with_reducible show wpAny _ _ (subscriptTail _ _ (Value.ref _) (Value.int (-1) _)) _ _ _); (with_unfolding_all refine' sub_last ?k1 ?_ ?k6; (case k1 => is_list); (case k6 => with_unfolding_all rfl); k_whole))) | (with_reducible ((with_reducible show wpAny _ _ (call (Value.builtin "len") [Value.ref _]) _ _ _); (k_dflt (refine' len_any ?k1 ?k2 ?_; (case k1 => is_list); (case k2 => omega); k_whole)))) | walk1 | (dsimp only; walk1) | fail "no step"))
          (rename News _ _ _ _ => N7)
          obtain ⟨T, hT⟩ := nameHead N7
          subst hT
          simp only [List.push_toArray] at N7
          refine TPost.go (nx := (O, listOf (List.toArray (ys ++ [Value.ref x4] ++ [.ref T])) _) :: (T, tupOf #[.int qa ta, .int qb tb] 0) :: rest2) (by (first | k_asm | assumption)) (news_sub (by (first | k_asm | assumption)) (by ((repeat (refine sub_cons (by repeat (first | exact List.Mem.head _ | apply List.Mem.tail)) ?_)); repeat (first | exact fun q hq => hq | refine sub_tail ?_)))) (by k_all) ⟨some (.int qb tb), some (.int qa ta), _, ys ++ [Value.ref x4] ++ [.ref T], oo ++ [(a, b)] ++ [(qa, qb)], _, upd_two _, rfl, fun q hq => .tail _ (hs2 q hq), by k_all, (hps3.mono fun q hq => .tail _ hq).append (.cons ⟨T, ta, tb, 0, rfl, .head _⟩ .nil), ?_⟩
          rw [htk]
          exact hM.push hab hc
    · rintro m' nx h tk ⟨e3, e4, rest2, ovs, os, k2, rfl, rfl, hs2, hne2, hps3, hM⟩ F1 N1
      dsimp only
      have hfull : qs2.take vs2.length = qs2 := by rw [hps2.len, List.take_length]
      rw [hfull] at hM
      have hol := hps3.len
      have hML := hM.2.2.2.2
      subst hm₀
      (repeat' (first | (k_unfold; (try dsimp only)) | (with_reducible ((with_reducible show wpAny _ _ (call (Value.type "tuple") [Value.ref _]) _ _ _); k_dflt (refine' kde_tupleOf ?k1 ?k2 ?k3 ?k4 ?k5 ?_; (case k1 => k_asm); (case k2 => k_asm); (case k3 => exact News.isList (by k_asm) (by k_mem)); (case k4 => (first | (rw [List.size_toArray]; omega) | omega)); (case k5 => rfl); k_whole); intro D' h' F' N' l1; (try k_lt l1))) | walk1 | (dsimp only; walk1) | fail "no step"))
      refine hret _ _ _ _ (by k_asm) (by k_asm) ⟨_, ovs, os, qs2, 0, rfl, .head _, fun q hq => .tail _ (.tail _ (hs2 _ (.tail _ (hs q hq)))), hps3.mono fun q hq => .tail _ (.tail _ hq), hM, hmem, by omega⟩

theorem members_does {st nl : Addr} {rest : Led} {svs nvs : List Value} {qs : List (Int × Int)} {ns : List Int} {n k : Nat} (hp : (st, tupOf svs.toArray n) ∈ rest) (hP : Pairs rest svs qs) (hlen : qs.length ≤ 3) (hn : (nl, listOf nvs.toArray k) ∈ rest) (hI : IntsAre nvs ns) (hs : ns.Pairwise (· < ·)) (h1 : ∀ u ∈ ns, 1 ≤ u) (hnl : ns.length ≤ 1000) :
    Does w p loose mean mg mb 8 221 [.ref st, .ref nl] rest (fun v news' => ∃ a ys k', v = .ref a ∧ (a, listOf (List.toArray ys) k') ∈ news' ∧ (∀ q ∈ rest, q ∈ news') ∧ IntsAre ys (ns.filter (named qs (lastOf ns)))) := by
  w_top off
  unfold Does
  k_fill
  intro dp un gd cn cs ad ccd cl outer A₀ base h₀ L m s Q E B F X N T hk hdp hun hret
  have hnv := hI.length
  refine wpAny_call ?_
  k_dflt ktr_enter
  by_cases h0 : ns = []
  · subst h0
    have hnv0 : nvs = [] := List.eq_nil_of_length_eq_zero hnv
    subst hnv0
    (repeat' (first | (k_unfold; (try dsimp only)) | (with_reducible ((with_reducible show wpAny _ _ (call (Value.builtin "len") [Value.ref _]) _ _ _); (with_unfolding_all refine' len_ints_fit ?k1 ?k2 ?k3 ?_; (case k1 => is_list); (case k2 => with_reducible assumption); (case k3 => l_fit); k_whole))) | walk1 | (dsimp only; walk1) | fail "no step"))
    refine hret _ _ _ _ (by k_asm) (by k_asm) ⟨_, [], _, rfl, .head _, fun q hq => .tail _ hq, .nil⟩
  · have hpos : 0 < nvs.length := by rw [hnv]; exact List.length_pos_iff.mpr h0
    obtain ⟨ns0, gl, rfl⟩ : ∃ ns0 gl, ns = ns0 ++ [gl] := ⟨ns.dropLast, ns.getLast h0, (List.dropLast_concat_getLast h0).symm⟩
    obtain ⟨nvs0, v0, rfl⟩ : ∃ nvs0 v0, nvs = nvs0 ++ [v0] := by
      have h2 : nvs ≠ [] := List.length_pos_iff.mp hpos
      exact ⟨nvs.dropLast, nvs.getLast h2, (List.dropLast_concat_getLast h2).symm⟩
    have hlast : lastOf (ns0 ++ [gl]) = gl := by simp [lastOf]
    have hnne : ¬ ((nvs0 ++ [v0]).length : Int) = 0 := by omega
    have hg1 : 1 ≤ gl := h1 gl (by simp)
    obtain ⟨g, tg, rfl, hg⟩ := hI.at nvs0.length v0 (by simp)
    (repeat' (first | (k_unfold; (try dsimp only)) | (with_reducible ((with_reducible show wpAny _ _ (call (Value.builtin "len") [Value.ref _]) _ _ _); (k_dflt (refine' len_any ?k1 ?k2 ?_; (case k1 => is_list); (case k2 => omega); k_whole)))) | walk1 | (dsimp only; walk1) | fail "no step"))
    · exfalso
      omega
    unfold Stop
    (refine Does.call (by k_asm) (by k_asm) (by k_asm) (by k_asm) (by k_asm) (by first | exact rfl | assumption) (by ktr_room) (by ktr_units) (plain_set_does hp hP hlen hg1) ?_)
    rintro v news1 h2 tk2 F2 N2 ⟨r, ovs, os, done, k2, rfl, hr, hs1, hps, hM, hdone, hol⟩
    dsimp only
    have hov := hps.len
    (repeat' (first | (k_unfold; (try dsimp only)) | (with_reducible ((with_reducible show wpAny _ _ (exec (Stmt.For _ (Expr.Name _ _) _ _ _) _) _ _ _); (rename Fr _ _ _ _ => lF'); (with_unfolding_all refine' For_turns lF' ?_; k_whole))) | walk1 | (dsimp only; walk1) | fail "no step"))
    unfold Stop
    (rename Fr _ _ _ _ => F9)
    (rename News _ _ _ _ => N9)
    obtain ⟨m₀, hm₀, F8⟩ := nameF F9
    clear F9
    obtain ⟨O, hO9⟩ := nameHead N9
    subst hO9
    have hO : ∀ q ∈ news1, q.1 ≠ O := by k_all
    obtain ⟨t0, hat⟩ : ∃ t, m₀ (Str.ofString "at") = some (.int 0 t) := ⟨_, by rw [hm₀]; rfl⟩
    refine turns_list (vs := nvs0 ++ [Value.int g tg]) (JP3 m₀ O news1 (ns0 ++ [gl]) os qs gl) (by rfl) F8 N9 (.tail _ (hs1 _ hn)) ⟨m₀ (Str.ofString "number"), 0, t0, [], _, ?_, rfl, .nil, Int.le_refl _, by omega, fun j o _ hj => by omega⟩ ?_ ?_ ?_
    · rw [← hat]
      exact upd_self2 _
    · rintro i m' nx ⟨e1, at', tat, ys, k', rfl, rfl, hys, ha0, ha1, ha2⟩
      exact .tail _ (hs1 _ hn)
    · rintro i v m' nx h tk I io hv hlt hoff ⟨e1, at', tat, ys, k', rfl, rfl, hys, ha0, ha1, ha2⟩ F1 N1
      obtain ⟨u, tu, rfl, hu⟩ := hI.at _ _ hv
      have hil := (List.getElem?_eq_some_iff.mp hv).1
      subst hm₀
      k_lt hlt
      (repeat' (first | (k_unfold; (try dsimp only)) | walk1 | (dsimp only; walk1) | fail "no step"))
      unfold Stop
      (rename Fr _ _ _ _ => F9)
      (rename News _ _ _ _ => N9)
      have hdrop : ∀ x ∈ (ns0 ++ [gl]).drop i, u ≤ x := by
        intro x hx
        obtain ⟨j, hj⟩ := List.mem_iff_getElem?.mp hx
        rw [List.getElem?_drop] at hj
        exact le_at hs hu hj (by omega)
      have hdrop1 : ∀ x ∈ (ns0 ++ [gl]).drop (i + 1), u < x := by
        intro x hx
        obtain ⟨j, hj⟩ := List.mem_iff_getElem?.mp hx
        rw [List.getElem?_drop] at hj
        obtain ⟨hj1, e1⟩ := List.getElem?_eq_some_iff.mp hj
        obtain ⟨hu1, e2⟩ := List.getElem?_eq_some_iff.mp hu
        have := List.pairwise_iff_getElem.mp hs i (i + 1 + j) hu1 hj1 (by omega)
        rw [e1, e2] at this
        exact this
      have humem : u ∈ (ns0 ++ [gl]).drop i := by
        refine List.mem_iff_getElem?.mpr ⟨0, ?_⟩
        rw [List.getElem?_drop, Nat.add_zero]
        exact hu
      have hnamed := hM.named hdone u
      refine ksw_while (σ := Int × Tok) (fun _ => (I, io) :: (O, listOf (List.toArray ys) k') :: news1) (fun c => [("at", .int c.1 c.2)]) (fun _ => True) []
        (fun c => 0 ≤ c.1 ∧ c.1 ≤ os.length ∧ (∀ (j : Nat) o, os[j]? = some o → (j : Int) < c.1 → o.2 < u))
        (fun c => (os.length - c.1).toNat) (at', tat) F9 N9 trivial (by kst_all) ?hp ?turn
      case hp =>
        exact ⟨ha0, ha1, fun j o ho hj => ha2 j o ho hj u humem⟩
      case turn =>
        rintro ⟨at2, tat2⟩ u' h3 tk3 _ ⟨p1, p2, p3⟩ F3 N3
        dsimp only at p1 p2 p3 ⊢
        dsimp only [kstB] at F3
        clear F9 N9
        k_fold
        by_cases hlt2 : at2 < os.length
        · obtain ⟨ov, hov2, x5, t5, t6, n5, rfl, hx5⟩ := hps.get' (i := at2.toNat) (by omega)
          obtain ⟨a, b, hab⟩ : ∃ a b, os[at2.toNat] = (a, b) := ⟨_, _, rfl⟩
          have hoa : os[at2.toNat]? = some (a, b) := by rw [← hab]; exact List.getElem?_eq_getElem _
          rw [hab] at hx5
          dsimp only at hx5
          by_cases hb : b < u
          · (repeat' (first | (k_unfold; (try dsimp only)) | (with_reducible ((with_reducible show wpAny _ _ (subscriptTail _ _ (Value.ref _) (Value.int _ _)) _ _ _); (with_unfolding_all refine' item_tupA ?k1 ?k2 ?k3 ?k4 ?_ ?k6; (case k1 => exact News.isTup (by k_asm) (by k_mem)); (case k4 => with_reducible assumption); (case k2 => omega); (case k3 => omega); (case k6 => with_unfolding_all rfl); k_whole))) | (with_reducible ((with_reducible show wpAny _ _ (subscriptTail _ _ (Value.ref _) (Value.int _ _)) _ _ _); k_dflt (refine' item_tupleT ?t ?a ?b ?c ?d ?_; (case t => exact News.isTup (by k_asm) (by k_mem)); (case a => decide); (case b => decide); (case c => rfl); (case d => rfl); k_whole))) | (with_reducible ((with_reducible show wpAny _ _ (call (Value.builtin "len") [Value.ref _]) _ _ _); (k_dflt (refine' len_tupA ?k1 ?k2 ?_; (case k1 => exact News.isTup (by k_asm) (by k_mem)); (case k2 => omega); k_whole)))) | walk1 | (dsimp only; walk1) | fail "no step"))
            unfold Stop
            refine ksw_end (_, _) (by k_asm) (by k_asm) (fun q hq => hq) trivial (by kst_all) (by ksw_same) ?_ ?_
            · refine ⟨by dsimp only; omega, by dsimp only; omega, fun j o ho hj => ?_⟩
              dsimp only at hj
              by_cases hj2 : (j : Int) < at2
              · exact p3 j o ho hj2
              · have e1 : j = at2.toNat := by omega
                rw [e1, hoa] at ho
                rw [← Option.some.inj ho]
                exact hb
            · dsimp only; omega
          · by_cases ha : a ≤ u
            · (repeat' (first | (k_unfold; (try dsimp only)) | (with_reducible ((with_reducible show wpAny _ _ (subscriptTail _ _ (Value.ref _) (Value.int _ _)) _ _ _); (with_unfolding_all refine' item_tupA ?k1 ?k2 ?k3 ?k4 ?_ ?k6; (case k1 => exact News.isTup (by k_asm) (by k_mem)); (case k4 => with_reducible assumption); (case k2 => omega); (case k3 => omega); (case k6 => with_unfolding_all rfl); k_whole))) | (with_reducible ((with_reducible show wpAny _ _ (subscriptTail _ _ (Value.ref _) (Value.int _ _)) _ _ _); k_dflt (refine' item_tupleT ?t ?a ?b ?c ?d ?_; (case t => exact News.isTup (by k_asm) (by k_mem)); (case a => decide); (case b => decide); (case c => rfl); (case d => rfl); k_whole))) | (with_reducible ((with_reducible show wpAny _ _ (call (Value.builtin "len") [Value.ref _]) _ _ _); (k_dflt (refine' len_tupA ?k1 ?k2 ?_; (case k1 => exact News.isTup (by k_asm) (by k_mem)); (case k2 => omega); k_whole)))) | walk1 | (dsimp only; walk1) | fail "no step"))
              (rename News _ _ _ _ => N7)
              simp only [List.push_toArray] at N7
              refine TPost.go (nx := (O, listOf (List.toArray (ys ++ [.int u tu])) _) :: news1) (by (first | k_asm | assumption)) (by (first | k_asm | assumption)) (by k_all) ⟨some (.int u tu), at2, tat2, ys ++ [.int u tu], _, upd_at (by decide) _, rfl, ints_keep hys hu (hnamed.mp ⟨(a, b), List.mem_of_getElem? hoa, ha, by simpa using hb⟩), p1, p2, fun j o ho hj x hx => Int.lt_trans (p3 j o ho hj) (hdrop1 x hx)⟩
            · (repeat' (first | (k_unfold; (try dsimp only)) | (with_reducible ((with_reducible show wpAny _ _ (subscriptTail _ _ (Value.ref _) (Value.int _ _)) _ _ _); (with_unfolding_all refine' item_tupA ?k1 ?k2 ?k3 ?k4 ?_ ?k6; (case k1 => exact News.isTup (by k_asm) (by k_mem)); (case k4 => with_reducible assumption); (case k2 => omega); (case k3 => omega); (case k6 => with_unfolding_all rfl); k_whole))) | (with_reducible ((with_reducible show wpAny _ _ (subscriptTail _ _ (Value.ref _) (Value.int _ _)) _ _ _); k_dflt (refine' item_tupleT ?t ?a ?b ?c ?d ?_; (case t => exact News.isTup (by k_asm) (by k_mem)); (case a => decide); (case b => decide); (case c => rfl); (case d => rfl); k_whole))) | (with_reducible ((with_reducible show wpAny _ _ (call (Value.builtin "len") [Value.ref _]) _ _ _); (k_dflt (refine' len_tupA ?k1 ?k2 ?_; (case k1 => exact News.isTup (by k_asm) (by k_mem)); (case k2 => omega); k_whole)))) | walk1 | (dsimp only; walk1) | fail "no step"))
              refine TPost.go (nx := (O, listOf (List.toArray ys) _) :: news1) (by (first | k_asm | assumption)) (by (first | k_asm | assumption)) (by k_all) ⟨some (.int u tu), at2, tat2, ys, _, upd_at (by decide) _, rfl, ints_skip hys hu ?_, p1, p2, fun j o ho hj x hx => Int.lt_trans (p3 j o ho hj) (hdrop1 x hx)⟩
              rw [Bool.eq_false_iff]
              intro hnm
              obtain ⟨o, ho, ho1, ho2⟩ := hnamed.mpr hnm
              obtain ⟨j, hjo⟩ := List.mem_iff_getElem?.mp ho
              by_cases hj1 : (j : Int) < at2
              · have := p3 j o hjo hj1
                omega
              · by_cases hj2 : j = at2.toNat
                · rw [hj2, hoa] at hjo
                  rw [← Option.some.inj hjo] at ho1
                  exact ha ho1
                · obtain ⟨hj3, e3⟩ := List.getElem?_eq_some_iff.mp hjo
                  obtain ⟨ha3, e4⟩ := List.getElem?_eq_some_iff.mp hoa
                  have h5 := List.pairwise_iff_getElem.mp hM.1 at2.toNat j ha3 hj3 (by omega)
                  have h6 := hM.2.1 (a, b) (List.mem_of_getElem? hoa)
                  rw [e3, e4] at h5
                  dsimp only at h5 h6
                  omega
        · (repeat' (first | (k_unfold; (try dsimp only)) | (with_reducible ((with_reducible show wpAny _ _ (call (Value.builtin "len") [Value.ref _]) _ _ _); (k_dflt (refine' len_tupA ?k1 ?k2 ?_; (case k1 => exact News.isTup (by k_asm) (by k_mem)); (case k2 => omega); k_whole)))) | walk1 | (dsimp only; walk1) | fail "no step"))
          refine TPost.go (nx := (O, listOf (List.toArray ys) _) :: news1) (by (first | k_asm | assumption)) (by (first | k_asm | assumption)) (by k_all) ⟨some (.int u tu), at2, tat2, ys, _, upd_at (by decide) _, rfl, ints_skip hys hu ?_, p1, p2, fun j o ho hj x hx => Int.lt_trans (p3 j o ho hj) (hdrop1 x hx)⟩
          rw [Bool.eq_false_iff]
          intro hnm
          obtain ⟨o, ho, ho1, ho2⟩ := hnamed.mpr hnm
          obtain ⟨j, hjo⟩ := List.mem_iff_getElem?.mp ho
          have hj3 := (List.getElem?_eq_some_iff.mp hjo).1
          have := p3 j o hjo (by omega)
          omega
    · rintro m' nx h tk ⟨e1, at', tat, ys, k', rfl, rfl, hys, ha0, ha1, ha2⟩ F1 N1
      dsimp only
      have hnv' : (nvs0 ++ [Value.int g tg]).length = (ns0 ++ [gl]).length := hnv
      rw [hnv', List.take_length] at hys
      subst hm₀
      (repeat' (first | (k_unfold; (try dsimp only)) | walk1 | (dsimp only; walk1) | fail "no step"))
      refine hret _ _ _ _ (by k_asm) (by k_asm) ⟨O, ys, k', rfl, .head _, fun q hq => .tail _ (hs1 _ hq), ?_⟩
      rw [hlast]
      exact hys

theorem uids_in_does {bx ul fd md va vd st : Addr} {od : Obj} {rest : Led} {svs uvs : List Value} {qs : List (Int × Int)} {cs : List Int} {n k : Nat} {b : Bool} (hv : ViewD bx ul fd md od) (h1 : (va, instObj 296 vd) ∈ rest) (h2 : (vd, od) ∈ rest) (h3 : (ul, listOf uvs.toArray k) ∈ rest) (hI : IntsAre uvs cs) (hp : (st, tupOf svs.toArray n) ∈ rest) (hP : Pairs rest svs qs) (hlen : qs.length ≤ 3) (hs : cs.Pairwise (· < ·)) (hc1 : ∀ u ∈ cs, 1 ≤ u) (hnl : cs.length ≤ 1000) :
    Does w p loose mean mg mb 12 281 [.ref va, .ref st, .bool b] rest (uids_in_post rest qs cs b) := by
  w_top off
  obtain ⟨vwE, rfl⟩ := hv
  unfold Does
  k_fill
  intro dp un gd cn cs' ad ccd cl outer A₀ base h₀ L m s Q E B F X N T hk hdp hun hret
  have hul := hI.length
  refine wpAny_call ?_
  k_dflt (refine' code_defC ?k1 ?k2 ?k3 ?k4 ?k5 ?kA ?kF ?kK ?k6 ?k7 ?k8 ?k9 ?kB ?kD ?_ ?c2 ?c3 ?c4; (case kA => exact rfl); (case kF => exact rfl); (case kK => first | assumption | exact rfl); (case k1 => k_asm); (case k2 => k_asm); (case k3 => k_asm); (case k4 => k_asm); (case k5 => k_asm); (case k6 => k_is); (case k7 => k_is); (case k8 => ktr_room); (case k9 => exact BindsTo.of_eq rfl); (case kB => exact rfl); (case kD => decide +kernel); (case c2 => exact rfl); (case c3 => exact rfl); (case c4 => exact rfl); k_whole; intro g' L' h' tk' cells' FG' F' N' Y' B' X' T' l1; (try k_lt l1); k_cells Y'; (try simp only [List.cons_append, List.nil_append] at N'); (try dsimp only); (try k_fold))
  cases b with
  | true =>
    (repeat' (first | (k_unfold; (try dsimp only)) | walk1 | (dsimp only; walk1) | fail "no step"))
    unfold Stop
    (refine Does.call (by k_asm) (by k_asm) (by k_asm) (by k_asm) (by k_asm) (by first | exact rfl | assumption) (by ktr_room) (by ktr_units) (members_does (by k_mem) (hP.mono (fun q hq => by (repeat (first | exact hq | apply List.Mem.tail)))) hlen (by k_mem) hI hs hc1 hnl) ?_)
    rintro v news1 h4 tk4 F4 N4 ⟨a, ys, k', rfl, ha, hs1, hys⟩
    dsimp only
    (repeat' (first | (k_unfold; (try dsimp only)) | walk1 | (dsimp only; walk1) | fail "no step"))
    refine hret _ _ _ _ (by k_asm) (by k_asm) ⟨_, ys, _, rfl, .head _, fun q hq => .tail _ (hs1 _ (by (repeat (first | exact hq | apply List.Mem.tail)))), hys⟩
  | false =>
    (repeat' (first | (k_unfold; (try dsimp only)) | (with_reducible ((with_reducible show wpAny _ _ (eval (Expr.ListComp _ [Comprehension.mk _ _ [] _] _ _) _) _ _ _); k_dflt (refine LCg.ListComp_U (F₀ := by k_asm) (by with_unfolding_all rfl) (by decide) (by rfl) (by decide) (by rfl) ?_))) | (with_reducible ((with_reducible show wpAny _ _ (call (Value.builtin "len") [Value.ref _]) _ _ _); (with_unfolding_all refine' len_ints_fit ?k1 ?k2 ?k3 ?_; (case k1 => is_list); (case k2 => with_reducible assumption); (case k3 => l_fit); k_whole))) | walk1 | (dsimp only; walk1) | fail "no step"))
    unfold Stop
    (rename IntsAre _ (rangeKs _ _) => hr9)
    have e9 : Int.toNat (↑(List.length cs) + 1 - 1) = cs.length := by omega
    rw [e9, rangeKs_nums] at hr9
    (refine Does.call (by k_asm) (by k_asm) (by k_asm) (by k_asm) (by k_asm) (by first | exact rfl | assumption) (by ktr_room) (by ktr_units) (members_does (by k_mem) (hP.mono (fun q hq => by (repeat (first | exact hq | apply List.Mem.tail)))) hlen (by k_mem) hr9 (nums_sorted _) (fun u hu => (nums_pos _ u hu).1) (by rw [nums_len]; exact hnl)) ?_)
    rintro v news1 h4 tk4 F4 N4 ⟨a, ys, k', rfl, ha, hs1, hys⟩
    have hlast : (nums cs.length).filter (named qs (lastOf (nums cs.length))) = (nums cs.length).filter (named qs cs.length) := by
      by_cases h0 : 0 < cs.length
      · rw [nums_last h0]
      · have : cs.length = 0 := by omega
        rw [this]; rfl
    rw [hlast] at hys
    dsimp only
    have hyl := hys.length
    have hfl : ((nums cs.length).filter (named qs cs.length)).length ≤ cs.length := by
      have := List.length_filter_le (named qs cs.length) (nums cs.length)
      rw [nums_len] at this
      exact this
    have h1' := hs1 _ (List.Mem.tail _ (List.Mem.tail _ h1))
    have h2' := hs1 _ (List.Mem.tail _ (List.Mem.tail _ h2))
    have h3' := hs1 _ (List.Mem.tail _ (List.Mem.tail _ h3))
    have hc' := hs1 _ (List.Mem.tail _ (List.Mem.head _))
    refine LCg.CompSrc.ledger (by rfl) (by k_asm) (by k_asm) ha (by rw [List.size_toArray, sizeLine_eq]; omega) ?_
    intro g2
    refine rest_J (fun i ys2 nx => nx = news1 ∧ IntsAre ys2 ((((nums cs.length).filter (named qs cs.length)).map fun n => cs.getD (n - 1).toNat 0).take i)) ⟨rfl, .nil⟩ ?_ ?_ ?_
    · rintro i ys2 nx ⟨rfl, _⟩
      exact .inr ⟨_, ha, rfl, _, rfl⟩
    · rintro i v ys2 nx I oI C oC D m₂ h tk E' hi hv ⟨rfl, hys2⟩ hC hx F1 N1 off ne
      obtain ⟨u, tu, rfl, hu⟩ := hys.at i v (by simpa using hv)
      have hub := nums_pos _ u (List.mem_filter.mp (List.mem_of_getElem? hu)).1
      obtain ⟨v2, hv2⟩ : ∃ v2, uvs[(u - 1).toNat]? = some v2 := ⟨_, List.getElem?_eq_getElem (by omega)⟩
      obtain ⟨c2, t2, rfl, hc2⟩ := hI.at _ _ hv2
      have hu2 : (((nums cs.length).filter (named qs cs.length)).map fun n => cs.getD (n - 1).toNat 0)[i]? = some c2 := by
        rw [List.getElem?_map, hu]
        show some (cs.getD (u - 1).toNat 0) = some c2
        rw [List.getD_eq_getElem?_getD, hc2]
        rfl
      (repeat' (first | (k_unfold; (try dsimp only)) | (with_reducible ((with_reducible show wpAny _ _ (subscriptTail _ _ (Value.ref _) (Value.int _ _)) _ _ _); (with_unfolding_all refine' item_litK ?k1 ?k2 ?k3 ?k4 ?_ ?k6; (case k1 => is_list); (case k4 => with_reducible assumption); (case k2 => omega); (case k3 => omega); (case k6 => with_unfolding_all rfl); k_whole))) | walk1 | (dsimp only; walk1) | fail "no step"))
      refine LCg.CompEnd.intro (by k_asm) (by k_asm) _ (fun q hq => hq) off trivial ⟨rfl, ints_snoc hys2 hu2⟩
    · rintro ys2 nx ⟨rfl, hys2⟩
      have hys2 := ints_full hys2 (by rw [List.length_map, List.size_toArray]; exact hyl)
      intro D h tk F1 N1 off
      dsimp only
      (repeat' (first | (k_unfold; (try dsimp only)) | walk1 | (dsimp only; walk1) | fail "no step"))
      refine hret _ _ _ _ (by k_asm) (by k_asm) ⟨_, ys2, _, rfl, .head _, fun q hq => .tail _ (hs1 _ (.tail _ (.tail _ hq))), hys2⟩

theorem there_in_does {bx ul fd md va vd st db ls gn : Addr} {nu top : Int} {od o : Obj} {rest : Led} {svs uvs vs : List Value} {qs : List (Int × Int)} {cs us : List Int} {n k k2 : Nat} {b : Bool} (hv : ViewD bx ul fd md od) (h1 : (va, instObj 296 vd) ∈ rest) (h2 : (vd, od) ∈ rest) (h3 : (ul, listOf uvs.toArray k) ∈ rest) (hI : IntsAre uvs cs) (hp : (st, tupOf svs.toArray n) ∈ rest) (hP : Pairs rest svs qs) (hlen : qs.length ≤ 3) (hs : cs.Pairwise (· < ·)) (hc1 : ∀ u ∈ cs, 1 ≤ u) (hnl : cs.length ≤ 1000)
    (ho : BoxD nu top ls gn o) (hb : (bx, instObj 163 db) ∈ rest) (hdb : (db, o) ∈ rest) (hl : (ls, listOf vs.toArray k2) ∈ rest) (hL : Lets rest vs us) (hul : us.length ≤ 1000) (hus : us.Pairwise (· < ·)) :
    Does w p loose mean mg mb 20 26 [.ref va, .ref st, .bool b] rest (there_in_post rest qs cs us b) := by
  w_top off
  have hv' := hv
  obtain ⟨vwE, rfl⟩ := hv'
  have ho' := ho
  obtain ⟨bxE, rfl⟩ := ho'
  unfold Does
  k_fill
  intro dp un gd cn cs' ad ccd cl outer A₀ base h₀ L m s Q E B F X N T hk hdp hun hret
  have hcl := hI.length
  refine wpAny_call ?_
  k_dflt (refine' code_defC ?k1 ?k2 ?k3 ?k4 ?k5 ?kA ?kF ?kK ?k6 ?k7 ?k8 ?k9 ?kB ?kD ?_ ?c2 ?c3 ?c4; (case kA => exact rfl); (case kF => exact rfl); (case kK => first | assumption | exact rfl); (case k1 => k_asm); (case k2 => k_asm); (case k3 => k_asm); (case k4 => k_asm); (case k5 => k_asm); (case k6 => k_is); (case k7 => k_is); (case k8 => ktr_room); (case k9 => exact BindsTo.of_eq rfl); (case kB => exact rfl); (case kD => decide +kernel); (case c2 => exact rfl); (case c3 => exact rfl); (case c4 => exact rfl); k_whole; intro g' L' h' tk' cells' FG' F' N' Y' B' X' T' l1; (try k_lt l1); k_cells Y'; (try simp only [List.cons_append, List.nil_append] at N'); (try dsimp only); (try k_fold))
  (repeat' (first | (k_unfold; (try dsimp only)) | (with_reducible ((with_reducible show wpAny _ _ (eval (Expr.ListComp _ [Comprehension.mk _ _ [_] _] _ _) _) _ _ _); k_dflt (refine LCt.ListComp_T (F₀ := by k_asm) (by with_unfolding_all rfl) (by decide) (by rfl) (by decide) (by rfl) ?_))) | walk1 | (dsimp only; walk1) | fail "no step"))
  unfold Stop
  (refine Does.call (by k_asm) (by k_asm) (by k_asm) (by k_asm) (by k_asm) (by first | exact rfl | assumption) (by ktr_room) (by ktr_units) (uids_in_does hv (by k_mem) (by k_mem) (by k_mem) hI (by k_mem) (hP.mono (fun q hq => by (repeat (first | exact hq | apply List.Mem.tail)))) hlen hs hc1 hnl) ?_)
  rintro v news1 h4 tk4 F4 N4 ⟨a, ys, k', rfl, ha, hs1, hys⟩
  dsimp only
  have hyl := hys.length
  have hsl : (sel b cs qs).length ≤ 1000 := by
    cases b with
    | true => exact Nat.le_trans (List.length_filter_le _ _) hnl
    | false =>
      show (((nums cs.length).filter _).map _).length ≤ 1000
      rw [List.length_map]
      refine Nat.le_trans (List.length_filter_le _ _) ?_
      rw [nums_len]; exact hnl
  have g1 : ∀ q ∈ rest, q ∈ news1 := fun q hq => hs1 _ (by (repeat (first | exact hq | apply List.Mem.tail)))
  have h1' := g1 _ h1
  have h2' := g1 _ h2
  have hb' := g1 _ hb
  have hdb' := g1 _ hdb
  have hc' := hs1 _ (List.Mem.head _)
  refine LCt.CompSrcT.ledger (by rfl) (by k_asm) (by k_asm) ha (by rw [List.size_toArray, sizeLine_eq]; omega) ?_
  intro g2
  refine restT_J (fun i ys2 nx => nx = news1 ∧ IntsAre ys2 (((sel b cs qs).take i).filter (fun u => decide (u ∈ us)))) ⟨rfl, .nil⟩ ?_ ?_ ?_
  · rintro i ys2 nx ⟨rfl, _⟩
    exact .inr ⟨_, ha, rfl, _, rfl⟩
  · rintro i v ys2 nx I oI C oC D m₂ h tk E' hi hv ⟨rfl, hys2⟩ hC hx F1 N1 off ne
    obtain ⟨u, tu, rfl, hu⟩ := hys.at i v (by simpa using hv)
    (repeat' (first | (k_unfold; (try dsimp only)) | walk1 | (dsimp only; walk1) | fail "no step"))
    unfold Stop
    (refine Does.call (by k_asm) (by k_asm) (by k_asm) (by k_asm) (by k_asm) (by first | exact rfl | assumption) (by ktr_room) (by ktr_units) (letter_does (bx := bx) (db := db) (ls := ls) (gn := gn) ho (by k_mem) (by k_mem) (.tail _ (.tail _ (.tail _ (g1 _ hl)))) (hL.mono (fun q hq => .tail _ (.tail _ (.tail _ (g1 _ hq))))) hul hus) ?_)
    rintro v news3 h5 tk5 F5 N5 ⟨rfl, hr⟩
    dsimp only
    rcases hr with ⟨hm, al, dl, odl, fl, nf, rfl, hl1, hl2, ⟨ltE, rfl⟩, hl4⟩ | ⟨hm, rfl⟩
    · (repeat' (first | (k_unfold; (try dsimp only)) | walk1 | (dsimp only; walk1) | fail "no step"))
      refine LCg.CompEnd.intro (by k_asm) (by k_asm) _ (fun q hq => hq) off trivial ⟨rfl, ints_keep hys2 hu (by simpa using hm)⟩
    · (repeat' (first | (k_unfold; (try dsimp only)) | walk1 | (dsimp only; walk1) | fail "no step"))
      refine LCg.CompEnd.intro (by k_asm) (by k_asm) _ (fun q hq => hq) off trivial ⟨rfl, ints_skip hys2 hu (by simpa using hm)⟩
  · rintro ys2 nx ⟨rfl, hys2⟩
    have hys2 := ints_all hys2 (by simpa using hyl)
    intro D h tk F1 N1 off
    dsimp only
    (repeat' (first | (k_unfold; (try dsimp only)) | walk1 | (dsimp only; walk1) | fail "no step"))
    refine hret _ _ _ _ (by k_asm) (by k_asm) ⟨_, ys2, _, rfl, .head _, fun q hq => .tail _ (g1 _ hq), hys2⟩

theorem view_does {bx db ls gn : Addr} {nu top : Int} {o : Obj} {rest : Led} {vs : List Value} {us : List Int} {n : Nat} (ho : BoxD nu top ls gn o) (hb : (bx, instObj 163 db) ∈ rest) (hdb : (db, o) ∈ rest) (hl : (ls, listOf vs.toArray n) ∈ rest) (hL : Lets rest vs us) (hlen : us.length ≤ 1000) :
    Does w p loose mean mg mb 20 296 [.ref bx] rest (view_post w bx rest us) := by
  w_top off
  have ho' := ho
  obtain ⟨bxE, rfl⟩ := ho'
  unfold Does
  k_fill
  intro dp un gd cn cs ad ccd cl outer A₀ base h₀ L m s Q E B F X N T hk hdp hun hret
  have hvl := hL.len
  k_dflt (refine' call_cls ?k1 ?k2 ?k3 ?k4 ?k5 ?k6 ?_; (case k1 => k_asm); (case k2 => k_asm); (case k3 => k_asm); (case k4 => k_is); (case k5 => k_is); (case k6 => k_is); k_whole; intro x' d' h' F' N' l1 l2; (try k_lt l1); (try k_lt2 l2); (try k_sweep); (refine' code_def ?k1 ?k2 ?k3 ?k4 ?k5 ?kA ?kF ?kK ?k6 ?k7 ?k8 ?k9 ?kB ?_ ?c2 ?c3 ?c4 ?c5; (case kA => exact rfl); (case kF => exact rfl); (case kK => assumption); (case k1 => k_asm); (case k2 => k_asm); (case k3 => k_asm); (case k4 => k_asm); (case k5 => k_asm); (case k6 => k_is); (case k7 => k_is); (case k8 => ktr_room); (case k9 => first | exact BindsTo.of_eq rfl | exact binds_K (by k_in) rfl (by k_is) rfl rfl rfl); (case c5 => decide); (case kB => exact locs rfl); (case c2 => exact rfl); (case c3 => exact rfl); (case c4 => exact rfl); k_whole; intro g' L' h' FG' F' N' B' X' T'; (try dsimp only); (try k_fold)))
  (rename ∀ p, p ∈ rest → _ => l9)
  (rename _ < _ => l8)
  have hxr : ∀ q ∈ rest, q.1 ≠ _ := fun q hq => Nat.ne_of_lt (Nat.lt_trans (l9 q hq) l8)
  have hdr : ∀ q ∈ rest, q.1 ≠ _ := fun q hq => Nat.ne_of_lt (l9 q hq)
  (repeat' (first | (k_unfold; (try dsimp only)) | walk1 | (dsimp only; walk1) | fail "no step"))
  unfold Stop
  (refine Does.call (by k_asm) (by k_asm) (by k_asm) (by k_asm) (by k_asm) (by first | exact rfl | assumption) (by ktr_room) (by ktr_units) (uids_does ho (by k_mem) (by k_mem) (by k_mem) (hL.mono (fun q hq => by (repeat (first | exact hq | apply List.Mem.tail)))) hlen) ?_)
  rintro v news1 h1 tk1 F2 N2 ⟨ua, uys, rfl, huI, hufr, rfl⟩
  dsimp only
  have hur : ∀ q ∈ rest, q.1 ≠ ua := fun q hq => hufr q (by (repeat (first | exact hq | apply List.Mem.tail)))
  ((try replace hufr := off1_of hufr); dsimp only [LCg.Off1] at hufr)
  (repeat' (first | (k_unfold; (try dsimp only)) | (with_reducible ((with_reducible show wpAny _ _ (eval (Expr.ListComp _ [Comprehension.mk _ _ [] _] _ _) _) _ _ _); k_dflt (refine LCg.ListComp_U (F₀ := by k_asm) (by with_unfolding_all rfl) (by decide) (by rfl) (by decide) (by rfl) ?_))) | walk1 | (dsimp only; walk1) | fail "no step"))
  unfold Stop
  refine LCg.CompSrc.ledger (by rfl) (by k_asm) (by k_asm) (by k_mem) (by rw [List.size_toArray, sizeLine_eq]; omega) ?_
  intro g'
  (rename News _ _ _ _ => N9)
  have hz0 := news_lt N9
  obtain ⟨base, hbase, N8⟩ := nameN N9
  have hsub : ∀ q ∈ rest, q ∈ base := by
    subst hbase
    intro q hq
    (repeat (first | exact hq | apply List.Mem.tail))
  refine rest_J (JV1 base us (fun v => ∃ fl nf, v = .ref fl ∧ (fl, tupOf #[] nf) ∈ rest)) ⟨[], fun q hq => by rw [hbase] at hq; exact hq, .nil⟩ ?_ ?_ ?_
  · rintro i ys nx ⟨kvs, hs, _⟩
    exact .inr ⟨_, hs _ (hsub _ hl), rfl, _, rfl⟩
  · rintro i v ys nx I oI C oC D m₂ h tk E' hi hv ⟨kvs, hs, hys⟩ hC hx F1 N1 off ne
    obtain ⟨u, hu, hA⟩ := hL.get (i := i) (v := v) (by simpa using hv)
    obtain ⟨al, dl, odl, fl, nf, rfl, hl1, hl2, ⟨ltE, rfl⟩, hl4⟩ := hA
    have hz := news_lt N1
    k_lt hz
    have hl1' := hs _ (hsub _ hl1)
    have hl2' := hs _ (hsub _ hl2)
    clear N9 N8
    (repeat' (first | (k_unfold; (try dsimp only)) | walk1 | (dsimp only; walk1) | fail "no step"))
    refine LCg.CompEnd.intro (by k_asm) (by k_asm) ((_, tupOf #[.int u ltE.tu, .ref fl] 0) :: nx) (by ((repeat (refine sub_cons (by repeat (first | exact List.Mem.head _ | apply List.Mem.tail)) ?_)); repeat (first | exact fun q hq => hq | refine sub_tail ?_))) ⟨⟨by k_ne, by k_ne, by k_ne⟩, off⟩ trivial ⟨_, fun q hq => .tail _ (hs q hq), (hys.mono fun q hq => .tail _ hq).snoc hu ⟨_, ltE.tu, 0, rfl, .head _⟩ ⟨fl, nf, rfl, hl4⟩⟩
  · rintro ys nx ⟨kvs, hs, hys⟩
    intro D h tk F1 N1 off
    have hfull : us.take (List.toArray vs).size = us := by rw [List.size_toArray, hvl, List.take_length]
    rw [hfull] at hys
    clear N8
    dsimp only
    (repeat' (first | (k_unfold; (try dsimp only)) | walk1 | (dsimp only; walk1) | fail "no step"))
    unfold Stop
    obtain ⟨hl1, hl2, hl3⟩ := hys.lens
    have hkl : kvs.length = us.length := by rw [hl2, List.length_map]
    refine call_dict_pairs (by k_asm) (by k_asm) (Top.nolimit (by k_asm)) (by rfl) (.head _) (fun i v hv => by
      obtain ⟨k, x, t, r, n, e1, e2, e3⟩ := hys.get i v hv
      exact ⟨k, x, t, r, n, e1, e2, .tail _ e3⟩) hl1 (by omega) ?_
    intro fd h2 of tk2 F3 N3 hlt2 hsys2 hof
    have hkf := merged_keys [] kvs
    have hvf := merged_vals (fun v => ∃ fl nf, v = Value.ref fl ∧ (fl, tupOf #[] nf) ∈ rest) [] kvs (fun u v h => by simp [valueAt] at h) hl3
    rw [← hl2] at hkf
    have hml := merged_length_le [] kvs
    have hlt2' : ∀ q ∈ base, q.1 < fd := fun q hq => hlt2 q (.tail _ (hs q hq))
    generalize merged [] kvs = kf at hof hkf hvf hml
    have hfr : ∀ q ∈ base, q.1 ≠ fd := fun q hq => Nat.ne_of_lt (hlt2 q (.tail _ (hs q hq)))
    have N4 := news_sub (l' := (fd, of) :: base) N3 (sub_cons (.head _) (fun q hq => .tail _ (.tail _ (hs q hq))))
    clear N3 N1
    subst hbase
    have hfr2 := hfr
    ((try replace hfr2 := off1_of hfr2); dsimp only [LCg.Off1] at hfr2)
    dsimp only
    (repeat' (first | (k_unfold; (try dsimp only)) | (with_reducible ((with_reducible show wpAny _ _ (eval (Expr.ListComp _ [Comprehension.mk _ _ [] _] _ _) _) _ _ _); k_dflt (refine LCg.ListComp_U (F₀ := by k_asm) (by with_unfolding_all rfl) (by decide) (by rfl) (by decide) (by rfl) ?_))) | walk1 | (dsimp only; walk1) | fail "no step"))
    unfold Stop
    (rename News _ _ _ _ => N9)
    obtain ⟨base, hbase, N8⟩ := nameN N9
    have hsub : ∀ q ∈ rest, q ∈ base := by
      subst hbase
      intro q hq
      (repeat (first | exact hq | apply List.Mem.tail))
    refine LCg.CompSrc.ledger (by rfl) (by k_asm) (by k_asm) (hsub _ hl) (by rw [List.size_toArray, sizeLine_eq]; omega) ?_
    intro g'
    refine rest_J (JV1 base us (fun v => True)) ⟨[], fun q hq => hq, .nil⟩ ?_ ?_ ?_
    · rintro i ys nx ⟨kvs, hs, _⟩
      exact .inr ⟨_, hs _ (hsub _ hl), rfl, _, rfl⟩
    · rintro i v ys nx I oI C oC D m₂ h tk E' hi hv ⟨kvs, hs, hys⟩ hC hx F1 N1 off ne
      obtain ⟨u, hu, hA⟩ := hL.get (i := i) (v := v) (by simpa using hv)
      obtain ⟨al, dl, odl, fl, nf, rfl, hl1, hl2, ⟨ltE, rfl⟩, hl4⟩ := hA
      have hz := news_lt N1
      k_lt hz
      have hl1' := hs _ (hsub _ hl1)
      have hl2' := hs _ (hsub _ hl2)
      clear N9 N8
      (repeat' (first | (k_unfold; (try dsimp only)) | walk1 | (dsimp only; walk1) | fail "no step"))
      refine LCg.CompEnd.intro (by k_asm) (by k_asm) ((_, tupOf #[.int u ltE.tu, .int ltE.ms ltE.tm] 0) :: nx) (by ((repeat (refine sub_cons (by repeat (first | exact List.Mem.head _ | apply List.Mem.tail)) ?_)); repeat (first | exact fun q hq => hq | refine sub_tail ?_))) ⟨⟨by k_ne, by k_ne, by k_ne⟩, off⟩ trivial ⟨_, fun q hq => .tail _ (hs q hq), (hys.mono fun q hq => .tail _ hq).snoc hu ⟨_, ltE.tu, 0, rfl, .head _⟩ trivial⟩
    · rintro ys nx ⟨kvs2, hs2, hys2⟩
      intro D2 h4 tk4 F4 N5 off2
      have hfull : us.take (List.toArray vs).size = us := by rw [List.size_toArray, hvl, List.take_length]
      rw [hfull] at hys2
      clear N8
      dsimp only
      (repeat' (first | (k_unfold; (try dsimp only)) | walk1 | (dsimp only; walk1) | fail "no step"))
      unfold Stop
      obtain ⟨hm1, hm2, hm3⟩ := hys2.lens
      have hkl2 : kvs2.length = us.length := by rw [hm2, List.length_map]
      refine call_dict_pairs (by k_asm) (by k_asm) (Top.nolimit (by k_asm)) (by rfl) (.head _) (fun i v hv => by
        obtain ⟨k, x, t, r, n, e1, e2, e3⟩ := hys2.get i v hv
        exact ⟨k, x, t, r, n, e1, e2, .tail _ e3⟩) hm1 (by omega) ?_
      intro md h5 om tk5 F5 N6 hlt5 hsys5 hom
      have hkm := merged_keys [] kvs2
      rw [← hm2] at hkm
      have hml2 := merged_length_le [] kvs2
      generalize merged [] kvs2 = km at hom hkm hml2
      have hfr5 : ∀ q ∈ base, q.1 ≠ md := fun q hq => Nat.ne_of_lt (hlt5 q (.tail _ (hs2 q hq)))
      have N7 := news_sub (l' := (md, om) :: base) N6 (sub_cons (.head _) (fun q hq => .tail _ (.tail _ (hs2 q hq))))
      have hmr : ∀ q ∈ rest, q.1 ≠ md := fun q hq => hfr5 q (hsub q hq)
      have hfr' : ∀ q ∈ rest, q.1 ≠ fd := fun q hq => hfr q (by (repeat (first | exact hq | apply List.Mem.tail)))
      clear N6 N5
      subst hbase
      ((try replace hfr5 := off1_of hfr5); dsimp only [LCg.Off1] at hfr5)
      dsimp only
      (repeat' (first | (k_unfold; (try dsimp only)) | walk1 | (dsimp only; walk1) | fail "no step"))
      refine hret _ _ _ _ (by k_asm) (news_sub (by k_asm) (by ((repeat (refine sub_cons (by repeat (first | exact List.Mem.head _ | apply List.Mem.tail)) ?_)); repeat (first | exact fun q hq => hq | refine sub_tail ?_)))) ⟨_, _, ua, fd, md, uys, kf, km, of, om, _, _, rfl, rfl, ViewD.of, huI, hof, ⟨?_, fun u => ?_, hvf⟩, hom, ⟨?_, fun u => ?_⟩, hdr, hur, hfr', hmr, hxr, by k_ne, by k_ne, by k_ne, hsys2, hsys5, by k_ne, by k_ne, by k_ne, by k_ne, by k_ne, by k_ne, by k_ne, ?_, ?_⟩
      · simp only [List.length_nil, Nat.zero_add] at hml; omega
      · rw [hkf u]; simp [valueAt]
      · simp only [List.length_nil, Nat.zero_add] at hml2; omega
      · rw [hkm u]; simp [valueAt]
      · simp only [List.length_nil, Nat.zero_add] at hml; omega
      · simp only [List.length_nil, Nat.zero_add] at hml2; omega

section
theorem is_stale_does {bx ul fd md va vd : Addr} {od of lo : Obj} {rest : Led} {kf : List (Int × Value)} {cs : List Int} {al dl fl : Addr} {u : Int} {nf : Nat} (hv : ViewD bx ul fd md od) (h1 : (va, instObj 296 vd) ∈ rest) (h2 : (vd, od) ∈ rest) (h3 : (fd, of) ∈ rest) (hf : of.IsDictOf (PySem.intKind PySem.Challenge.rw_or0056_01.row.prog w) kf) (hF : FlagsD rest cs kf) (hu : u ∈ cs)
    (hA : (al, instObj 125 dl) ∈ rest) (hd : (dl, lo) ∈ rest) (hL : LetD u fl lo) (hfl : (fl, tupOf #[] nf) ∈ rest) :
    Does w p loose mean mg mb 12 321 [.ref va, .ref al] rest (fun v news' => v = .bool false ∧ news' = rest) := by
  w_top off
  obtain ⟨vwE, rfl⟩ := hv
  obtain ⟨ltE, rfl⟩ := hL
  unfold Does
  k_fill
  intro dp un gd cn cs' ad ccd cl outer A₀ base h₀ L m s Q E B F X N T hk hdp hun hret
  obtain ⟨hf1, hf2, hf3⟩ := hF
  obtain ⟨v, hkv⟩ : ∃ v, valueAt kf u = some v := by
    have := hf2 u
    simp only [hu, decide_true] at this
    exact Option.isSome_iff_exists.mp this
  obtain ⟨fl2, nf2, rfl, hfl2⟩ := hf3 u v hkv
  refine wpAny_call ?_
  k_dflt ktr_enter
  (repeat' (first | (k_unfold; (try dsimp only)) | (with_reducible ((with_reducible show wpAny _ _ (subscriptTail _ _ _ _) _ _ _); walk_at "last subscriptTail")) | (with_reducible ((with_reducible show wpAny _ _ (subscriptTail _ _ (Value.ref _) (Value.int _ _)) _ _ _); k_dflt (refine kda_item (knd := PySem.intKind _ _) (by k_asm) (by k_mem) (by with_reducible assumption) (intKind_is _ _ _ _) (by with_reducible assumption) ?_))) | walk1 | (dsimp only; walk1) | fail "no step"))
  refine hret _ _ _ _ (by k_asm) (by k_asm) ⟨rfl, rfl⟩
end
theorem number_of_does {bx ul fd md va vd : Addr} {od : Obj} {rest : Led} {uvs : List Value} {cs : List Int} {k : Nat} {u : Int} {tu : Tok} (hv : ViewD bx ul fd md od) (h1 : (va, instObj 296 vd) ∈ rest) (h2 : (vd, od) ∈ rest) (h3 : (ul, listOf uvs.toArray k) ∈ rest) (hI : IntsAre uvs cs) (hnl : cs.length ≤ 1000) :
    Does w p loose mean mg mb 4 269 [.ref va, .int u tu] rest (fun v news' => ∃ r t, v = .int r t ∧ news' = rest) := by
  w_top off
  obtain ⟨vwE, rfl⟩ := hv
  unfold Does
  k_fill
  intro dp un gd cn cs' ad ccd cl outer A₀ base h₀ L m s Q E B F X N T hk hdp hun hret
  refine wpAny_call ?_
  k_dflt ktr_enter
  (repeat' (first | (k_unfold; (try dsimp only)) | walk1 | (dsimp only; walk1) | fail "no step"))
  unfold Stop
  (refine Does.call (by k_asm) (by k_asm) (by k_asm) (by k_asm) (by k_asm) (by first | exact rfl | assumption) (by ktr_room) (by ktr_units) (place_among_does (by k_mem) hI hnl) ?_)
  rintro v news1 h4 tk4 F4 N4 ⟨r, t, rfl, rfl⟩
  dsimp only
  (repeat' (first | (k_unfold; (try dsimp only)) | walk1 | (dsimp only; walk1) | fail "no step"))
  refine hret _ _ _ _ (by k_asm) (by k_asm) ⟨_, _, rfl, rfl⟩
theorem flag_news_does {bx ul fd md va vd db ls gn : Addr} {nu top : Int} {od of o : Obj} {rest : Led} {kf : List (Int × Value)} {uvs vs : List Value} {cs us : List Int} {k k2 : Nat} (hv : ViewD bx ul fd md od) (h1 : (va, instObj 296 vd) ∈ rest) (h2 : (vd, od) ∈ rest) (h3 : (fd, of) ∈ rest) (hf : of.IsDictOf (PySem.intKind PySem.Challenge.rw_or0056_01.row.prog w) kf) (hF : FlagsD rest cs kf) (h4 : (ul, listOf uvs.toArray k) ∈ rest) (hI : IntsAre uvs cs) (hnl : cs.length ≤ 1000)
    (ho : BoxD nu top ls gn o) (hb : (bx, instObj 163 db) ∈ rest) (hdb : (db, o) ∈ rest) (hl : (ls, listOf vs.toArray k2) ∈ rest) (hL : Lets rest vs us) (hul : us.length ≤ 1000) (hus : us.Pairwise (· < ·)) :
    Does w p loose mean mg mb 20 343 [.ref va] rest (fun v news' => ∃ a kk, v = .ref a ∧ news' = (a, listOf #[] kk) :: rest ∧ ∀ q ∈ rest, q.1 ≠ a) := by
  w_top off
  have hv' := hv
  obtain ⟨vwE, rfl⟩ := hv'
  have ho' := ho
  obtain ⟨bxE, rfl⟩ := ho'
  unfold Does
  k_fill
  intro dp un gd cn cs' ad ccd cl outer A₀ base h₀ L m s Q E B F X N T hk hdp hun hret
  have hcl := hI.length
  refine wpAny_call ?_
  k_dflt ktr_enter
  (repeat' (first | (k_unfold; (try dsimp only)) | (with_reducible ((with_reducible show wpAny _ _ (call (Value.builtin "len") [Value.ref _]) _ _ _); (with_unfolding_all refine' len_ints_fit ?k1 ?k2 ?k3 ?_; (case k1 => is_list); (case k2 => with_reducible assumption); (case k3 => l_fit); k_whole))) | (with_reducible ((with_reducible show wpAny _ _ (exec (Stmt.For (Expr.Name _ _) (Expr.Call _ _ _ _) _ _ _) _) _ _ _); (rename Fr _ _ _ _ => lF'); (with_unfolding_all refine' For_invVF lF' ?k1 ?k2 ?_; (case k1 => exact rfl); (case k2 => exact rfl); k_whole))) | walk1 | (dsimp only; walk1) | fail "no step"))
  unfold Stop
  (rename IsRange _ _ _ _ _ _ _ _ => R9)
  (rename Fr _ _ _ _ => F9)
  (rename News _ _ _ _ => N9)
  obtain ⟨m₀, hm₀, F8⟩ := nameF F9
  clear F9
  obtain ⟨O, hO9⟩ := nameHead N9
  subst hO9
  have hO : ∀ q ∈ rest, q.1 ≠ O := by k_all
  refine iter_rng (n := cs.length) (JW1 m₀ O rest) (by rfl) R9 (small_one (by decide) (by decide) (by omega) (by omega)) (by rw [rangeSize_nat]; congr 1) F8 N9 ⟨_, _, upd_self2 _, rfl⟩ ?_ ?_
  · rintro i t m₁ nx h tk I io hi hlt hoff ⟨e1, e2, rfl, rfl⟩ F1 N1
    obtain ⟨v2, hv2⟩ : ∃ v2, uvs[((0 : Int) + (i : Int)).toNat]? = some v2 := ⟨_, List.getElem?_eq_getElem (by omega)⟩
    obtain ⟨u, tu, rfl, hu⟩ := hI.at _ _ hv2
    have huc := List.mem_of_getElem? hu
    subst hm₀
    k_lt hlt
    (repeat' (first | (k_unfold; (try dsimp only)) | (with_reducible ((with_reducible show wpAny _ _ (subscriptTail _ _ (Value.ref _) (Value.int _ _)) _ _ _); (with_unfolding_all refine' item_litK ?k1 ?k2 ?k3 ?k4 ?_ ?k6; (case k1 => is_list); (case k4 => with_reducible assumption); (case k2 => omega); (case k3 => omega); (case k6 => with_unfolding_all rfl); k_whole))) | walk1 | (dsimp only; walk1) | fail "no step"))
    unfold Stop
    (refine Does.call (by k_asm) (by k_asm) (by k_asm) (by k_asm) (by k_asm) (by first | exact rfl | assumption) (by ktr_room) (by ktr_units) (letter_does (db := db) (ls := ls) (gn := gn) ho (by k_mem) (by k_mem) (.tail _ (.tail _ hl)) (hL.mono (fun q hq => .tail _ (.tail _ hq))) hul hus) ?_)
    rintro v news3 h5 tk5 F5 N5 ⟨rfl, hr⟩
    dsimp only
    rcases hr with ⟨hm, al, dl, odl, fl, nf, rfl, hl1, hl2, hLD, hl4⟩ | ⟨hm, rfl⟩
    · (repeat' (first | (k_unfold; (try dsimp only)) | walk1 | (dsimp only; walk1) | fail "no step"))
      unfold Stop
      (refine Does.call (by k_asm) (by k_asm) (by k_asm) (by k_asm) (by k_asm) (by first | exact rfl | assumption) (by ktr_room) (by ktr_units) (is_stale_does hv (by k_mem) (by k_mem) (by k_mem) hf (hF.mono (fun q hq => .tail _ (.tail _ hq))) huc hl1 hl2 hLD hl4) ?_)
      rintro v news4 h6 tk6 F6 N6 ⟨rfl, rfl⟩
      dsimp only
      (repeat' (first | (k_unfold; (try dsimp only)) | walk1 | (dsimp only; walk1) | fail "no step"))
      refine TPost.go (nx := (O, listOf #[] 0) :: rest) (by (first | k_asm | assumption)) (by (first | k_asm | assumption)) (by k_all) ⟨some (.ref al), some (.int (0 + (i : Int)) t), upd_two _, rfl⟩
    · (repeat' (first | (k_unfold; (try dsimp only)) | walk1 | (dsimp only; walk1) | fail "no step"))
      refine TPost.go (nx := (O, listOf #[] 0) :: rest) (by (first | k_asm | assumption)) (by (first | k_asm | assumption)) (by k_all) ⟨some .none, some (.int (0 + (i : Int)) t), upd_two _, rfl⟩
  · rintro m₁ nx h tk ⟨e1, e2, rfl, rfl⟩ F1 N1
    dsimp only
    subst hm₀
    (repeat' (first | (k_unfold; (try dsimp only)) | walk1 | (dsimp only; walk1) | fail "no step"))
    refine hret _ _ _ _ (by k_asm) (by k_asm) ⟨O, 0, rfl, rfl, hO⟩

theorem forget_does {bx ul fd md va vd : Addr} {od of om : Obj} {rest : Led} {kf km : List (Int × Value)} {uvs : List Value} {cs : List Int} {k : Nat} {u : Int} {tu : Tok} (hv : ViewD bx ul fd md od) (h1 : (va, instObj 296 vd) ∈ rest) (h3 : (ul, listOf uvs.toArray k) ∈ rest) (hI : IntsAre uvs cs) (hnl : cs.length ≤ 1000)
    (hf : of.IsDictOf (PySem.intKind PySem.Challenge.rw_or0056_01.row.prog w) kf) (hm : om.IsDictOf (PySem.intKind PySem.Challenge.rw_or0056_01.row.prog w) km) (hkf : (valueAt kf u).isSome = true) (hkm : (valueAt km u).isSome = true) (hlf : kf.length ≤ 1000) (hlm : km.length ≤ 1000)
    (n1 : ∀ q ∈ rest, q.1 ≠ vd) (n2 : ∀ q ∈ rest, q.1 ≠ fd) (n3 : ∀ q ∈ rest, q.1 ≠ md) (n4 : @Ne Nat vd fd) (n5 : @Ne Nat vd md) (n6 : @Ne Nat fd md) :
    Does w p loose mean mg mb 4 348 [.ref va, .int u tu] ((vd, od) :: (fd, of) :: (md, om) :: rest) (forget_post w bx fd md vd rest kf km cs u) := by
  w_top off
  obtain ⟨vwE, rfl⟩ := hv
  unfold Does
  k_fill
  intro dp un gd cn cs' ad ccd cl outer A₀ base h₀ L m s Q E B F X N T hk hdp hun hret
  have hcl := hI.length
  obtain ⟨vf, hvf⟩ := Option.isSome_iff_exists.mp hkf
  obtain ⟨vm, hvm⟩ := Option.isSome_iff_exists.mp hkm
  refine wpAny_call ?_
  k_dflt (refine' code_defC ?k1 ?k2 ?k3 ?k4 ?k5 ?kA ?kF ?kK ?k6 ?k7 ?k8 ?k9 ?kB ?kD ?_ ?c2 ?c3 ?c4; (case kA => exact rfl); (case kF => exact rfl); (case kK => first | assumption | exact rfl); (case k1 => k_asm); (case k2 => k_asm); (case k3 => k_asm); (case k4 => k_asm); (case k5 => k_asm); (case k6 => k_is); (case k7 => k_is); (case k8 => ktr_room); (case k9 => exact BindsTo.of_eq rfl); (case kB => exact rfl); (case kD => decide +kernel); (case c2 => exact rfl); (case c3 => exact rfl); (case c4 => exact rfl); k_whole; intro g' L' h' tk' cells' FG' F' N' Y' B' X' T' l1; (try k_lt l1); k_cells Y'; (try simp only [List.cons_append, List.nil_append] at N'); (try dsimp only); (try k_fold))
  (repeat' (first | (k_unfold; (try dsimp only)) | (with_reducible ((with_reducible show wpAny _ _ (eval (Expr.ListComp _ [Comprehension.mk _ _ [_] _] _ _) _) _ _ _); k_dflt (refine LCt.ListComp_T (F₀ := by k_asm) (by with_unfolding_all rfl) (by decide) (by rfl) (by decide) (by rfl) ?_))) | walk1 | (dsimp only; walk1) | fail "no step"))
  unfold Stop
  refine LCt.CompSrcT.ledger (by rfl) (by k_asm) (by k_asm) (by k_mem) (by rw [List.size_toArray, sizeLine_eq]; omega) ?_
  intro g2
  refine restT_J (fun i ys nx => nx = _ ∧ IntsAre ys ((cs.take i).filter (fun x => decide (x ≠ u)))) ⟨rfl, .nil⟩ ?_ ?_ ?_
  · rintro i ys nx ⟨rfl, _⟩
    exact .inr ⟨_, by k_mem, rfl, _, rfl⟩
  · rintro i v ys nx I oI C oC D m₂ h tk E' hi hv ⟨rfl, hys⟩ hC hx F1 N1 off ne
    obtain ⟨c, tc, rfl, hc⟩ := hI.at i v (by simpa using hv)
    (repeat' (first | (k_unfold; (try dsimp only)) | walk1 | (dsimp only; walk1) | fail "no step"))
    · refine LCg.CompEnd.intro (by k_asm) (by k_asm) _ (fun q hq => hq) off trivial ⟨rfl, ints_keep hys hc (by simp only [decide_eq_true_eq]; first | assumption | omega)⟩
    · refine LCg.CompEnd.intro (by k_asm) (by k_asm) _ (fun q hq => hq) off trivial ⟨rfl, ints_skip hys hc (by simp only [decide_eq_false_iff_not]; omega)⟩
  · rintro ys nx ⟨rfl, hys⟩
    have hys := ints_all hys (by simpa using hcl)
    intro D h tk F1 N1 off
    have hDr : ∀ q ∈ rest, q.1 ≠ D := fun q hq => off1_ne off q (by (repeat (first | exact hq | apply List.Mem.tail)))
    ((try replace off := off1_of off); dsimp only [LCg.Off1] at off)
    dsimp only
    (repeat' (first | (k_unfold; (try dsimp only)) | (with_reducible ((with_reducible show wpAny _ _ (getMethod (Value.ref _) (Str.ofString "pop") _) _ _ _); k_dflt (refine kob_method (knd := PySem.intKind _ _) PySem.F.slot_dict_pop PySem.F.type_dict_pop (by k_asm) (by k_mem) (by with_reducible assumption) ?_))) | (with_reducible ((with_reducible show wpAny _ _ (call (Value.builtin "dict.pop") [Value.ref _, Value.int _ _]) _ _ _); k_dflt (refine' kob_pop (knd := PySem.intKind _ _) (more := []) ?F ?N ?U ?d (intKind_is _ _ _ _) (.inl rfl) (by rfl) (PySem.F.args_dict_pop_2 _ _) ?l ?z ?_; (case F => k_asm); (case N => k_asm); (case U => k_updF); (case d => with_reducible assumption); (case l => with_reducible assumption); (case z => (rw [sizeLine_eq]; omega))); intro h' o' F' N' hd'; (try dsimp only at N'))) | walk1 | (dsimp only; walk1) | fail "no step"))
    refine hret _ ((vd, _) :: (fd, _) :: (md, _) :: (D, _) :: rest) _ _ (by k_asm) (news_sub (by k_asm) (by ((repeat (refine sub_cons (by repeat (first | exact List.Mem.head _ | apply List.Mem.tail)) ?_)); repeat (first | exact fun q hq => hq | refine sub_tail ?_)))) ⟨_, _, _, D, ys, _, rfl, ViewD.of, hys, by with_reducible assumption, by with_reducible assumption, by k_ne, by k_ne, by k_ne, hDr⟩

theorem gone_uids_does {bx ul fd md va vd db ls gn : Addr} {nu top : Int} {od o : Obj} {rest : Led} {uvs vs : List Value} {cs us : List Int} {k k2 : Nat} (hv : ViewD bx ul fd md od) (h1 : (va, instObj 296 vd) ∈ rest) (h2 : (vd, od) ∈ rest) (h4 : (ul, listOf uvs.toArray k) ∈ rest) (hI : IntsAre uvs cs) (hnl : cs.length ≤ 1000)
    (ho : BoxD nu top ls gn o) (hb : (bx, instObj 163 db) ∈ rest) (hdb : (db, o) ∈ rest) (hl : (ls, listOf vs.toArray k2) ∈ rest) (hL : Lets rest vs us) (hul : us.length ≤ 1000) :
    Does w p loose mean mg mb 4 326 [.ref va] rest (gone_uids_post rest cs us) := by
  w_top off
  obtain ⟨vwE, rfl⟩ := hv
  obtain ⟨bxE, rfl⟩ := ho
  unfold Does
  k_fill
  intro dp un gd cn cs' ad ccd cl outer A₀ base h₀ L m s Q E B F X N T hk hdp hun hret
  have hcl := hI.length
  have hvl := hL.len
  refine wpAny_call ?_
  k_dflt (refine' code_defC ?k1 ?k2 ?k3 ?k4 ?k5 ?kA ?kF ?kK ?k6 ?k7 ?k8 ?k9 ?kB ?kD ?_ ?c2 ?c3 ?c4; (case kA => exact rfl); (case kF => exact rfl); (case kK => first | assumption | exact rfl); (case k1 => k_asm); (case k2 => k_asm); (case k3 => k_asm); (case k4 => k_asm); (case k5 => k_asm); (case k6 => k_is); (case k7 => k_is); (case k8 => ktr_room); (case k9 => exact BindsTo.of_eq rfl); (case kB => exact rfl); (case kD => decide +kernel); (case c2 => exact rfl); (case c3 => exact rfl); (case c4 => exact rfl); k_whole; intro g' L' h' tk' cells' FG' F' N' Y' B' X' T' l1; (try k_lt l1); k_cells Y'; (try simp only [List.cons_append, List.nil_append] at N'); (try dsimp only); (try k_fold))
  (rename ∀ p, p ∈ rest → _ => l9)
  have hcell : ∀ q ∈ rest, q.1 ≠ _ + 1 := fun q hq => Nat.ne_of_lt (Nat.lt_succ_of_lt (l9 q hq))
  (repeat' (first | (k_unfold; (try dsimp only)) | (with_reducible ((with_reducible show wpAny _ _ (eval (Expr.ListComp _ [Comprehension.mk _ _ [] _] _ _) _) _ _ _); k_dflt (refine LCg.ListComp_U (F₀ := by k_asm) (by with_unfolding_all rfl) (by decide) (by rfl) (by decide) (by rfl) ?_))) | walk1 | (dsimp only; walk1) | fail "no step"))
  unfold Stop
  (rename News _ _ _ _ => N9)
  obtain ⟨base, hbase, N8⟩ := nameN N9
  have hsub : ∀ q ∈ rest, q ∈ base := by
    subst hbase
    intro q hq
    (repeat (first | exact hq | apply List.Mem.tail))
  refine LCg.CompSrc.ledger (by rfl) (by k_asm) N8 (hsub _ hl) (by rw [List.size_toArray, sizeLine_eq]; omega) ?_
  intro g'
  refine rest_J (JV1 base us (fun v => True)) ⟨[], fun q hq => hq, .nil⟩ ?_ ?_ ?_
  · rintro i ys nx ⟨kvs, hs, _⟩
    exact .inr ⟨_, hs _ (hsub _ hl), rfl, _, rfl⟩
  · rintro i v ys nx I oI C oC D m₂ h tk E' hi hv ⟨kvs, hs, hys⟩ hC hx F1 N1 off ne
    obtain ⟨u, hu, hA⟩ := hL.get (i := i) (v := v) (by simpa using hv)
    obtain ⟨al, dl, odl, fl, nf, rfl, hl1, hl2, ⟨ltE, rfl⟩, hl4⟩ := hA
    have hz := news_lt N1
    k_lt hz
    have hl1' := hs _ (hsub _ hl1)
    have hl2' := hs _ (hsub _ hl2)
    clear N9 N8
    (repeat' (first | (k_unfold; (try dsimp only)) | walk1 | (dsimp only; walk1) | fail "no step"))
    refine LCg.CompEnd.intro (by k_asm) (by k_asm) ((_, tupOf #[.int u ltE.tu, .bool true] 0) :: nx) (by ((repeat (refine sub_cons (by repeat (first | exact List.Mem.head _ | apply List.Mem.tail)) ?_)); repeat (first | exact fun q hq => hq | refine sub_tail ?_))) ⟨⟨by k_ne, by k_ne, by k_ne⟩, off⟩ trivial ⟨_, fun q hq => .tail _ (hs q hq), (hys.mono fun q hq => .tail _ hq).snoc hu ⟨_, ltE.tu, 0, rfl, .head _⟩ trivial⟩
  · rintro ys nx ⟨kvs, hs, hys⟩
    intro D h tk F1 N1 off
    have hfull : us.take (List.toArray vs).size = us := by rw [List.size_toArray, hvl, List.take_length]
    rw [hfull] at hys
    clear N8
    dsimp only
    (repeat' (first | (k_unfold; (try dsimp only)) | walk1 | (dsimp only; walk1) | fail "no step"))
    unfold Stop
    obtain ⟨hl1, hl2, hl3⟩ := hys.lens
    have hkl : kvs.length = us.length := by rw [hl2, List.length_map]
    refine call_dict_pairs (by k_asm) (by k_asm) (Top.nolimit (by k_asm)) (by rfl) (.head _) (fun i v hv => by
      obtain ⟨k, x, t, r, n, e1, e2, e3⟩ := hys.get i v hv
      exact ⟨k, x, t, r, n, e1, e2, .tail _ e3⟩) hl1 (by omega) ?_
    intro fd2 h2 of tk2 F3 N3 hlt2 hsys2 hof
    have hkf := merged_keys [] kvs
    rw [← hl2] at hkf
    generalize merged [] kvs = kf at hof hkf
    have hfr : ∀ q ∈ base, q.1 ≠ fd2 := fun q hq => Nat.ne_of_lt (hlt2 q (.tail _ (hs q hq)))
    have N4 := news_sub (l' := (fd2, of) :: base) N3 (sub_cons (.head _) (fun q hq => .tail _ (.tail _ (hs q hq))))
    clear N3 N1
    subst hbase
    ((try replace hfr := off1_of hfr); dsimp only [LCg.Off1] at hfr)
    dsimp only
    (repeat' (first | (k_unfold; (try dsimp only)) | (with_reducible ((with_reducible show wpAny _ _ (eval (Expr.ListComp _ [Comprehension.mk _ _ [_] _] _ _) _) _ _ _); k_dflt (refine LCt.ListComp_T (F₀ := by k_asm) (by with_unfolding_all rfl) (by decide) (by rfl) (by decide) (by rfl) ?_))) | walk1 | (dsimp only; walk1) | fail "no step"))
    unfold Stop
    refine LCt.CompSrcT.ledger (by rfl) (by k_asm) (by k_asm) (by k_mem) (by rw [List.size_toArray, sizeLine_eq]; omega) ?_
    intro g3
    refine restT_J (fun i ys nx => nx = _ ∧ IntsAre ys ((cs.take i).filter (fun x => decide (x ∉ us)))) ⟨rfl, .nil⟩ ?_ ?_ ?_
    · rintro i ys nx ⟨rfl, _⟩
      exact .inr ⟨_, by k_mem, rfl, _, rfl⟩
    · rintro i v ys2 nx I oI C oC D2 m₂ h tk E' hi hv ⟨rfl, hys2⟩ hC hx F1 N1 off2 ne
      obtain ⟨u, tu, rfl, hu⟩ := hI.at i v (by simpa using hv)
      have hb := hkf u
      by_cases hm : u ∈ us
      · have hb : (valueAt kf u).isSome = true := by rw [hb]; simp [hm]
        (repeat' (first | (k_unfold; (try dsimp only)) | (with_reducible ((with_reducible show wpAny _ _ (compareOp CmpOp.NotIn (Value.int _ _) (Value.ref _)) _ _ _); k_dflt (refine kdg_notin (knd := PySem.intKind _ _) (by k_asm) (by k_mem) (by with_reducible assumption) (by k_asm) (intKind_is _ _ _ _) true (by with_reducible assumption) ?_); (try dsimp only [Bool.not_true, Bool.not_false]))) | walk1 | (dsimp only; walk1) | fail "no step"))
        refine LCg.CompEnd.intro (by k_asm) (by k_asm) _ (fun q hq => hq) off2 trivial ⟨rfl, ints_skip hys2 hu (by simpa using hm)⟩
      · have hb : (valueAt kf u).isSome = false := by rw [hb]; simp [hm, valueAt]
        (repeat' (first | (k_unfold; (try dsimp only)) | (with_reducible ((with_reducible show wpAny _ _ (compareOp CmpOp.NotIn (Value.int _ _) (Value.ref _)) _ _ _); k_dflt (refine kdg_notin (knd := PySem.intKind _ _) (by k_asm) (by k_mem) (by with_reducible assumption) (by k_asm) (intKind_is _ _ _ _) false (by with_reducible assumption) ?_); (try dsimp only [Bool.not_true, Bool.not_false]))) | walk1 | (dsimp only; walk1) | fail "no step"))
        refine LCg.CompEnd.intro (by k_asm) (by k_asm) _ (fun q hq => hq) off2 trivial ⟨rfl, ints_keep hys2 hu (by simpa using hm)⟩
    · rintro ys2 nx ⟨rfl, hys2⟩
      have hys2 := ints_all hys2 (by simpa using hcl)
      intro D2 h tk F1 N1 off2
      have hD2 : ∀ q ∈ rest, q.1 ≠ D2 := fun q hq => off1_ne off2 q (by (repeat (first | exact hq | apply List.Mem.tail)))
      dsimp only
      (repeat' (first | (k_unfold; (try dsimp only)) | walk1 | (dsimp only; walk1) | fail "no step"))
      refine hret _ ((D2, _) :: rest) _ _ (by k_asm) (news_sub (by k_asm) (by ((repeat (refine sub_cons (by repeat (first | exact List.Mem.head _ | apply List.Mem.tail)) ?_)); repeat (first | exact fun q hq => hq | refine sub_tail ?_)))) ⟨_, ys2, _, rfl, rfl, hD2, hys2⟩

theorem new_letters_does {bx ul fd md va vd db ls gn : Addr} {nu top : Int} {od o of : Obj} {rest led0 : Led} {uvs vs : List Value} {kf : List (Int × Value)} {cs us : List Int} {k k2 : Nat} (hv : ViewD bx ul fd md od) (h1 : (va, instObj 296 vd) ∈ rest) (h2 : (vd, od) ∈ rest) (h4 : (ul, listOf uvs.toArray k) ∈ rest) (hI : IntsAre uvs cs) (hnl : cs.length ≤ 1000)
    (h3 : (fd, of) ∈ rest) (hf : of.IsDictOf (PySem.intKind PySem.Challenge.rw_or0056_01.row.prog w) kf) (hkf : ∀ u, (valueAt kf u).isSome = decide (u ∈ cs)) (lo : (fd == sysModules) = false)
    (ho : BoxD nu top ls gn o) (hb : (bx, instObj 163 db) ∈ rest) (hdb : (db, o) ∈ rest) (hl : (ls, listOf vs.toArray k2) ∈ rest) (hL0 : Lets led0 vs us) (hs0 : ∀ q ∈ led0, q ∈ rest) (hul : us.length ≤ 1000) :
    Does w p loose mean mg mb 12 331 [.ref va] rest (new_letters_post rest led0 cs us) := by
  w_top off
  obtain ⟨vwE, rfl⟩ := hv
  obtain ⟨bxE, rfl⟩ := ho
  unfold Does
  k_fill
  intro dp un gd cn cs' ad ccd cl outer A₀ base h₀ L m s Q E B F X N T hk hdp hun hret
  have hcl := hI.length
  have hvl := hL0.len
  refine wpAny_call ?_
  k_dflt (refine' code_defC ?k1 ?k2 ?k3 ?k4 ?k5 ?kA ?kF ?kK ?k6 ?k7 ?k8 ?k9 ?kB ?kD ?_ ?c2 ?c3 ?c4; (case kA => exact rfl); (case kF => exact rfl); (case kK => first | assumption | exact rfl); (case k1 => k_asm); (case k2 => k_asm); (case k3 => k_asm); (case k4 => k_asm); (case k5 => k_asm); (case k6 => k_is); (case k7 => k_is); (case k8 => ktr_room); (case k9 => exact BindsTo.of_eq rfl); (case kB => exact rfl); (case kD => decide +kernel); (case c2 => exact rfl); (case c3 => exact rfl); (case c4 => exact rfl); k_whole; intro g' L' h' tk' cells' FG' F' N' Y' B' X' T' l1; (try k_lt l1); k_cells Y'; (try simp only [List.cons_append, List.nil_append] at N'); (try dsimp only); (try k_fold))
  (rename ∀ p, p ∈ rest → _ => l9)
  have hcell : ∀ q ∈ rest, q.1 ≠ _ + 1 := fun q hq => Nat.ne_of_lt (Nat.lt_succ_of_lt (l9 q hq))
  have hcell2 : ∀ q ∈ rest, q.1 ≠ _ + 1 + 1 := fun q hq => Nat.ne_of_lt (Nat.lt_succ_of_lt (Nat.lt_succ_of_lt (l9 q hq)))
  by_cases h0 : cs = []
  · subst h0
    have hnv0 : uvs = [] := List.eq_nil_of_length_eq_zero hcl
    subst hnv0
    (repeat' (first | (k_unfold; (try dsimp only)) | (with_reducible ((with_reducible show wpAny _ _ (eval (Expr.ListComp _ [Comprehension.mk _ _ [_] _] _ _) _) _ _ _); k_dflt (refine LCt.ListComp_T (F₀ := by k_asm) (by with_unfolding_all rfl) (by decide) (by rfl) (by decide) (by rfl) ?_))) | (with_reducible ((with_reducible show wpAny _ _ (compareOp CmpOp.NotEq (Value.ref _) (Value.ref _)) _ _ _); (with_unfolding_all refine' ne_intsK ?k1 ?k2 ?k3 ?k4 ?k5 ?_; (case k1 => is_list); (case k2 => (first | with_reducible assumption | with_reducible exact IntsAre.nil)); (case k3 => is_list); (case k4 => (first | with_reducible assumption | with_reducible exact IntsAre.nil)); (case k5 => ktr_units); k_whole))) | walk1 | (dsimp only; walk1) | fail "no step"))
    unfold Stop
    refine LCt.CompSrcT.ledger (by rfl) (by k_asm) (by k_asm) (by k_mem) (by rw [List.size_toArray, sizeLine_eq]; omega) ?_
    intro g3
    refine restT_J (fun i ys nx => nx = _ ∧ Lets led0 ys ((us.take i).filter (fun x => decide ((0 : Int) < x) && decide (x ∉ ([] : List Int))))) ⟨rfl, .nil⟩ ?_ ?_ ?_
    · rintro i ys nx ⟨rfl, _⟩
      exact .inr ⟨_, by k_mem, rfl, _, rfl⟩
    · rintro i v ys2 nx I oI C oC D2 m₂ h tk E' hi hv ⟨rfl, hys2⟩ hC hx F1 N1 off2 ne
      obtain ⟨u, hu, hA⟩ := hL0.get (i := i) (v := v) (by simpa using hv)
      have hA' := hA.mono hs0
      obtain ⟨al, dl, odl, fl, nf, rfl, hl1, hl2, ⟨ltE, rfl⟩, hl4⟩ := hA'
      have hb := hkf u
      by_cases hm : u ∈ ([] : List Int)
      · have hb : (valueAt kf u).isSome = true := by rw [hb]; simp only [hm, decide_true]
        (repeat' (first | (k_unfold; (try dsimp only)) | (with_reducible ((with_reducible show wpAny _ _ (compareOp CmpOp.NotIn (Value.int _ _) (Value.ref _)) _ _ _); k_dflt (refine kdg_notin (knd := PySem.intKind _ _) (by k_asm) (by k_mem) (by with_reducible assumption) (by k_asm) (intKind_is _ _ _ _) true (by with_reducible assumption) ?_); (try dsimp only [Bool.not_true, Bool.not_false]))) | walk1 | (dsimp only; walk1) | fail "no step"))
        all_goals refine LCg.CompEnd.intro (by k_asm) (by k_asm) _ (fun q hq => hq) off2 trivial ⟨rfl, lets_skip hys2 hu (by simp only [hm, not_true_eq_false, decide_false, Bool.and_false])⟩
      · have hb : (valueAt kf u).isSome = false := by rw [hb]; simp only [hm, decide_false]
        by_cases hg : (0 : Int) < u
        · (repeat' (first | (k_unfold; (try dsimp only)) | (with_reducible ((with_reducible show wpAny _ _ (compareOp CmpOp.NotIn (Value.int _ _) (Value.ref _)) _ _ _); k_dflt (refine kdg_notin (knd := PySem.intKind _ _) (by k_asm) (by k_mem) (by with_reducible assumption) (by k_asm) (intKind_is _ _ _ _) false (by with_reducible assumption) ?_); (try dsimp only [Bool.not_true, Bool.not_false]))) | walk1 | (dsimp only; walk1) | fail "no step"))
          refine LCg.CompEnd.intro (by k_asm) (by k_asm) _ (fun q hq => hq) off2 trivial ⟨rfl, lets_keep hys2 hu hA (by simp only [hm, hg, not_false_eq_true, decide_true, Bool.and_true])⟩
        · (repeat' (first | (k_unfold; (try dsimp only)) | walk1 | (dsimp only; walk1) | fail "no step"))
          refine LCg.CompEnd.intro (by k_asm) (by k_asm) _ (fun q hq => hq) off2 trivial ⟨rfl, lets_skip hys2 hu (by simp only [hg, decide_false, Bool.false_and])⟩
    · rintro ys2 nx ⟨rfl, hys2⟩
      have hys2 := lets_all hys2 (by simpa using hvl)
      intro D2 h tk F1 N1 off2
      have hD2 : ∀ q ∈ rest, q.1 ≠ D2 := fun q hq => off1_ne off2 q (by (repeat (first | exact hq | apply List.Mem.tail)))
      dsimp only
      (repeat' (first | (k_unfold; (try dsimp only)) | walk1 | (dsimp only; walk1) | fail "no step"))
      refine hret _ ((D2, _) :: rest) _ _ (by k_asm) (news_sub (by k_asm) (by ((repeat (refine sub_cons (by repeat (first | exact List.Mem.head _ | apply List.Mem.tail)) ?_)); repeat (first | exact fun q hq => hq | refine sub_tail ?_)))) ⟨_, ys2, _, rfl, rfl, hD2, ?_⟩
      exact hys2
  · have hpos : 0 < cs.length := List.length_pos_iff.mpr h0
    obtain ⟨v9, hv9⟩ : ∃ v9, uvs[((cs.length : Int) - 1).toNat]? = some v9 := ⟨_, List.getElem?_eq_getElem (by omega)⟩
    have hv8 : uvs[((uvs.length : Int) - 1).toNat]? = some v9 := by rw [hcl]; exact hv9
    obtain ⟨gl, tg, rfl, hgl⟩ := hI.at _ _ hv9
    have hlast : lastOf cs = gl := by
      have e : ((cs.length : Int) - 1).toNat = cs.length - 1 := by omega
      rw [e] at hgl
      simp only [lastOf]
      rw [List.getLast?_eq_getElem?, hgl]
      rfl
    (repeat' (first | (k_unfold; (try dsimp only)) | (with_reducible ((with_reducible show wpAny _ _ (eval (Expr.ListComp _ [Comprehension.mk _ _ [_] _] _ _) _) _ _ _); k_dflt (refine LCt.ListComp_T (F₀ := by k_asm) (by with_unfolding_all rfl) (by decide) (by rfl) (by decide) (by rfl) ?_))) | (with_reducible ((with_reducible show wpAny _ _ (subscriptTail _ _ (Value.ref _) (Value.int _ _)) _ _ _); (with_unfolding_all refine' item_litK ?k1 ?k2 ?k3 ?k4 ?_ ?k6; (case k1 => is_list); (case k4 => with_reducible assumption); (case k2 => omega); (case k3 => omega); (case k6 => with_unfolding_all rfl); k_whole))) | (with_reducible ((with_reducible show wpAny _ _ (call (Value.builtin "len") [Value.ref _]) _ _ _); (with_unfolding_all refine' len_ints_fit ?k1 ?k2 ?k3 ?_; (case k1 => is_list); (case k2 => with_reducible assumption); (case k3 => l_fit); k_whole))) | (with_reducible ((with_reducible show wpAny _ _ (compareOp CmpOp.NotEq (Value.ref _) (Value.ref _)) _ _ _); (with_unfolding_all refine' ne_intsK ?k1 ?k2 ?k3 ?k4 ?k5 ?_; (case k1 => is_list); (case k2 => (first | with_reducible assumption | with_reducible exact IntsAre.nil)); (case k3 => is_list); (case k4 => (first | with_reducible assumption | with_reducible exact IntsAre.nil)); (case k5 => ktr_units); k_whole))) | walk1 | (dsimp only; walk1) | fail "no step"))
    unfold Stop
    refine LCt.CompSrcT.ledger (by rfl) (by k_asm) (by k_asm) (by k_mem) (by rw [List.size_toArray, sizeLine_eq]; omega) ?_
    intro g3
    refine restT_J (fun i ys nx => nx = _ ∧ Lets led0 ys ((us.take i).filter (fun x => decide (gl < x) && decide (x ∉ cs)))) ⟨rfl, .nil⟩ ?_ ?_ ?_
    · rintro i ys nx ⟨rfl, _⟩
      exact .inr ⟨_, by k_mem, rfl, _, rfl⟩
    · rintro i v ys2 nx I oI C oC D2 m₂ h tk E' hi hv ⟨rfl, hys2⟩ hC hx F1 N1 off2 ne
      obtain ⟨u, hu, hA⟩ := hL0.get (i := i) (v := v) (by simpa using hv)
      have hA' := hA.mono hs0
      obtain ⟨al, dl, odl, fl, nf, rfl, hl1, hl2, ⟨ltE, rfl⟩, hl4⟩ := hA'
      have hb := hkf u
      by_cases hm : u ∈ cs
      · have hb : (valueAt kf u).isSome = true := by rw [hb]; simp only [hm, decide_true]
        (repeat' (first | (k_unfold; (try dsimp only)) | (with_reducible ((with_reducible show wpAny _ _ (compareOp CmpOp.NotIn (Value.int _ _) (Value.ref _)) _ _ _); k_dflt (refine kdg_notin (knd := PySem.intKind _ _) (by k_asm) (by k_mem) (by with_reducible assumption) (by k_asm) (intKind_is _ _ _ _) true (by with_reducible assumption) ?_); (try dsimp only [Bool.not_true, Bool.not_false]))) | walk1 | (dsimp only; walk1) | fail "no step"))
        all_goals refine LCg.CompEnd.intro (by k_asm) (by k_asm) _ (fun q hq => hq) off2 trivial ⟨rfl, lets_skip hys2 hu (by simp only [hm, not_true_eq_false, decide_false, Bool.and_false])⟩
      · have hb : (valueAt kf u).isSome = false := by rw [hb]; simp only [hm, decide_false]
        by_cases hg : gl < u
        · (repeat' (first | (k_unfold; (try dsimp only)) | (with_reducible ((with_reducible show wpAny _ _ (compareOp CmpOp.NotIn (Value.int _ _) (Value.ref _)) _ _ _); k_dflt (refine kdg_notin (knd := PySem.intKind _ _) (by k_asm) (by k_mem) (by with_reducible assumption) (by k_asm) (intKind_is _ _ _ _) false (by with_reducible assumption) ?_); (try dsimp only [Bool.not_true, Bool.not_false]))) | walk1 | (dsimp only; walk1) | fail "no step"))
          refine LCg.CompEnd.intro (by k_asm) (by k_asm) _ (fun q hq => hq) off2 trivial ⟨rfl, lets_keep hys2 hu hA (by simp only [hm, hg, not_false_eq_true, decide_true, Bool.and_true])⟩
        · (repeat' (first | (k_unfold; (try dsimp only)) | walk1 | (dsimp only; walk1) | fail "no step"))
          refine LCg.CompEnd.intro (by k_asm) (by k_asm) _ (fun q hq => hq) off2 trivial ⟨rfl, lets_skip hys2 hu (by simp only [hg, decide_false, Bool.false_and])⟩
    · rintro ys2 nx ⟨rfl, hys2⟩
      have hys2 := lets_all hys2 (by simpa using hvl)
      intro D2 h tk F1 N1 off2
      have hD2 : ∀ q ∈ rest, q.1 ≠ D2 := fun q hq => off1_ne off2 q (by (repeat (first | exact hq | apply List.Mem.tail)))
      dsimp only
      (repeat' (first | (k_unfold; (try dsimp only)) | walk1 | (dsimp only; walk1) | fail "no step"))
      refine hret _ ((D2, _) :: rest) _ _ (by k_asm) (news_sub (by k_asm) (by ((repeat (refine sub_cons (by repeat (first | exact List.Mem.head _ | apply List.Mem.tail)) ?_)); repeat (first | exact fun q hq => hq | refine sub_tail ?_)))) ⟨_, ys2, _, rfl, rfl, hD2, ?_⟩
      rw [hlast]
      exact hys2

theorem note_does {bx ul fd md va vd al dl fl : Addr} {od of om lo : Obj} {rest : Led} {kf km : List (Int × Value)} {u : Int} (hv : ViewD bx ul fd md od) (h1 : (va, instObj 296 vd) ∈ rest) (h2 : (vd, od) ∈ rest)
    (hf : of.IsDictOf (PySem.intKind PySem.Challenge.rw_or0056_01.row.prog w) kf) (hm : om.IsDictOf (PySem.intKind PySem.Challenge.rw_or0056_01.row.prog w) km) (hlf : kf.length ≤ 1000) (hlm : km.length ≤ 1000)
    (hA : (al, instObj 125 dl) ∈ rest) (hd : (dl, lo) ∈ rest) (hL : LetD u fl lo) (n2 : ∀ q ∈ rest, q.1 ≠ fd) (n3 : ∀ q ∈ rest, q.1 ≠ md) (n6 : @Ne Nat fd md) :
    Does w p loose mean mg mb 4 314 [.ref va, .ref al] ((fd, of) :: (md, om) :: rest) (fun v news' => ∃ of' om' x, news' = (fd, of') :: (md, om') :: rest ∧
      of'.IsDictOf (PySem.intKind PySem.Challenge.rw_or0056_01.row.prog w) (stored kf u (.ref fl)) ∧ om'.IsDictOf (PySem.intKind PySem.Challenge.rw_or0056_01.row.prog w) (stored km u x)) := by
  w_top off
  obtain ⟨vwE, rfl⟩ := hv
  obtain ⟨ltE, rfl⟩ := hL
  unfold Does
  k_fill
  intro dp un gd cn cs' ad ccd cl outer A₀ base h₀ L m s Q E B F X N T hk hdp hun hret
  refine wpAny_call ?_
  k_dflt ktr_enter
  (repeat' (first | (k_unfold; (try dsimp only)) | (with_reducible ((with_reducible show wpAny _ _ (setItem (Value.ref _) (Value.int _ _) _) _ _ _); k_dflt (refine' kda_set (knd := PySem.intKind _ _) ?F ?N ?U ?d (intKind_is _ _ _ _) ?z ?_; (case F => k_asm); (case N => k_asm); (case U => k_updF); (case d => with_reducible assumption); (case z => (rw [sizeLine_eq]; omega))); intro h' o' F' N' hd'; (try dsimp only at N'))) | walk1 | (dsimp only; walk1) | fail "no step"))
  refine hret _ ((fd, _) :: (md, _) :: rest) _ _ (by k_asm) (by k_asm) ⟨_, _, _, rfl, by with_reducible assumption, by with_reducible assumption⟩

theorem expunge_news_does {bx ul fd md va vd db ls gn : Addr} {nu top : Int} {od of om o : Obj} {rest : Led} {kf km : List (Int × Value)} {uvs vs : List Value} {cs us : List Int} {k k2 : Nat} (hv : ViewD bx ul fd md od) (h1 : (va, instObj 296 vd) ∈ rest) (h4 : (ul, listOf uvs.toArray k) ∈ rest) (hI : IntsAre uvs cs) (hnl : cs.length ≤ 1000) (hnd : cs.Nodup)
    (hf : of.IsDictOf (PySem.intKind PySem.Challenge.rw_or0056_01.row.prog w) kf) (hm : om.IsDictOf (PySem.intKind PySem.Challenge.rw_or0056_01.row.prog w) km) (hF : FlagsD rest cs kf) (hM : KeysD cs km)
    (ho : BoxD nu top ls gn o) (hb : (bx, instObj 163 db) ∈ rest) (hdb : (db, o) ∈ rest) (hl : (ls, listOf vs.toArray k2) ∈ rest) (hL : Lets rest vs us) (hul : us.length ≤ 1000)
    (n1 : ∀ q ∈ rest, q.1 ≠ vd) (n2 : ∀ q ∈ rest, q.1 ≠ fd) (n3 : ∀ q ∈ rest, q.1 ≠ md) (n4 : @Ne Nat vd fd) (n5 : @Ne Nat vd md) (n6 : @Ne Nat fd md) :
    Does w p loose mean mg mb 20 355 [.ref va] ((vd, od) :: (fd, of) :: (md, om) :: rest) (expunge_news_post w bx ul fd md vd rest kf km cs us) := by
  w_top off
  have hv' := hv
  obtain ⟨vwE, rfl⟩ := hv'
  unfold Does
  k_fill
  intro dp un gd cn cs' ad ccd cl outer A₀ base h₀ L m s Q E B F X N T hk hdp hun hret
  have hcl := hI.length
  refine wpAny_call ?_
  k_dflt ktr_enter
  (repeat' (first | (k_unfold; (try dsimp only)) | walk1 | (dsimp only; walk1) | fail "no step"))
  unfold Stop
  (refine Does.call (by k_asm) (by k_asm) (by k_asm) (by k_asm) (by k_asm) (by first | exact rfl | assumption) (by ktr_room) (by ktr_units) (gone_uids_does (db := db) (ls := ls) (gn := gn) hv (by k_mem) (by k_mem) (by k_mem) hI hnl ho (by k_mem) (by k_mem) (.tail _ (.tail _ (.tail _ hl))) (hL.mono (fun q hq => by (repeat (first | exact hq | apply List.Mem.tail)))) hul) ?_)
  rintro v news1 hh1 tk1 F1 N1 ⟨ga, gys, gk, rfl, rfl, hgfr, hgI⟩
  dsimp only
  ((try replace hgfr := off1_of hgfr); dsimp only [LCg.Off1] at hgfr)
  (repeat' (first | (k_unfold; (try dsimp only)) | (with_reducible ((with_reducible show wpAny _ _ (exec (Stmt.For _ (Expr.Name _ _) _ _ _) _) _ _ _); (rename Fr _ _ _ _ => lF'); (with_unfolding_all refine' For_turns lF' ?_; k_whole))) | walk1 | (dsimp only; walk1) | fail "no step"))
  unfold Stop
  (rename Fr _ _ _ _ => F9)
  (rename News _ _ _ _ => N9)
  obtain ⟨m₀, hm₀, F8⟩ := nameF F9
  clear F9
  obtain ⟨A, hA9⟩ := nameHead N9
  subst hA9
  have hAr : ∀ q ∈ rest, q.1 ≠ A := by k_all
  have hgr : ∀ q ∈ rest, q.1 ≠ ga := fun q hq => off1_ne hgfr.2.2.2 q hq
  have a1 : @Ne Nat A vd := by k_ne
  have a2 : @Ne Nat A fd := by k_ne
  have a3 : @Ne Nat A md := by k_ne
  have a4 : @Ne Nat A ga := by k_ne
  have g1 : @Ne Nat ga vd := by k_ne
  have g2 : @Ne Nat ga fd := by k_ne
  have g3 : @Ne Nat ga md := by k_ne
  have u1 : @Ne Nat ul vd := n1 _ h4
  have u2 : @Ne Nat ul fd := n2 _ h4
  have u3 : @Ne Nat ul md := n3 _ h4
  have u4 : @Ne Nat ul A := hAr _ h4
  have N8 := news_sub (l' := (A, listOf #[] 0) :: (vd, _) :: (fd, of) :: (md, om) :: (ul, listOf uvs.toArray k) :: (ga, listOf (List.toArray gys) gk) :: rest) N9 (sub_cons (.head _) (sub_cons (.tail _ (.tail _ (.head _))) (sub_cons (.tail _ (.tail _ (.tail _ (.head _)))) (sub_cons (.tail _ (.tail _ (.tail _ (.tail _ (.head _))))) (sub_cons (.tail _ (.tail _ (.tail _ (.tail _ (.tail _ h4))))) (sub_cons (.tail _ (.head _)) (fun q hq => .tail _ (.tail _ (.tail _ (.tail _ (.tail _ hq)))))))))))
  clear N9
  have hgl := hgI.length
  have hgle : (cs.filter (fun x => decide (x ∉ us))).length ≤ cs.length := List.length_filter_le _ _
  refine turns_list (vs := gys) (JW6 w m₀ A vd fd md ga bx ul gys gk rest cs us kf km) (by rfl) F8 N8 (.tail _ (.tail _ (.tail _ (.tail _ (.tail _ (.head _))))))
    ⟨_, [], _, _, of, om, ul, uvs, k, kf, km, upd_self _, rfl, Nat.le_refl _, hv, ?_, hf, hm, Nat.le_refl _, Nat.le_refl _, ?_, ?_, u1, u2, u3, u4, .inl rfl⟩ ?_ ?_ ?_
  · have e : cs.filter (fun x => decide (x ∉ (cs.filter (fun x => decide (x ∉ us))).take 0)) = cs := by
      rw [List.filter_eq_self]; intro a _; simp
    rw [e]; exact hI
  · intro u; simp
  · intro u; simp
  · rintro i m' nx ⟨e1, ys, kk, od', of', om', ul', uvs', k', kf', km', rfl, rfl, _⟩
    exact .tail _ (.tail _ (.tail _ (.tail _ (.tail _ (.head _)))))
  · rintro i v m' nx h tk I io hv2 hlt hoff ⟨e1, ys, kk, od', of', om', ul', uvs', k', kf', km', rfl, rfl, hyl, hvd, hui, hdf, hdm, hlf, hlm, hkf, hkm, w1, w2, w3, w4, wd⟩ F2 N2
    obtain ⟨u, tu, rfl, hu⟩ := hgI.at _ _ hv2
    have hil := (List.getElem?_eq_some_iff.mp hv2).1
    have hvd' := hvd
    obtain ⟨vwE, rfl⟩ := hvd'
    subst hm₀
    have o1 : @Ne Nat A I := hoff _ (.head _)
    have o2 : @Ne Nat vd I := hoff _ (.tail _ (.head _))
    have o3 : @Ne Nat fd I := hoff _ (.tail _ (.tail _ (.head _)))
    have o4 : @Ne Nat md I := hoff _ (.tail _ (.tail _ (.tail _ (.head _))))
    have o5 : @Ne Nat ul' I := hoff _ (.tail _ (.tail _ (.tail _ (.tail _ (.head _)))))
    have o6 : @Ne Nat ga I := hoff _ (.tail _ (.tail _ (.tail _ (.tail _ (.tail _ (.head _))))))
    have hlu : (cs.filter (fun x => decide (x ∉ (cs.filter (fun x => decide (x ∉ us))).take i))).length ≤ 1000 := Nat.le_trans (List.length_filter_le _ _) hnl
    (repeat' (first | (k_unfold; (try dsimp only)) | walk1 | (dsimp only; walk1) | fail "no step"))
    unfold Stop
    (refine Does.call (by k_asm) (by k_asm) (by k_asm) (by k_asm) (by k_asm) (by first | exact rfl | assumption) (by ktr_room) (by ktr_units) (number_of_does hvd (by k_mem) (by k_mem) (by k_mem) hui hlu) ?_)
    rintro v3 news3 h5 tk5 F5 N5 ⟨r9, t9, rfl, rfl⟩
    dsimp only
    (repeat' (first | (k_unfold; (try dsimp only)) | walk1 | (dsimp only; walk1) | fail "no step"))
    unfold Stop
    (rename News _ _ _ _ => N7)
    obtain ⟨T, hT9⟩ := nameHead N7
    subst hT9
    have hgn : (cs.filter (fun x => decide (x ∉ us))).Nodup := hnd.filter _
    have hnt := not_in_take hgn hu
    have huc : u ∈ cs := (List.mem_filter.mp (List.mem_of_getElem? hu)).1
    have hkf1 : (valueAt kf' u).isSome = true := by rw [hkf u, if_neg hnt, hF.2.1 u]; simpa using huc
    have hkm1 : (valueAt km' u).isSome = true := by rw [hkm u, if_neg hnt, hM.2 u]; simpa using huc
    have N8 := news_sub (l' := (vd, _) :: (fd, of') :: (md, om') :: (A, listOf ((List.toArray ys).push (.ref T)) (kk + 1)) :: (I, io) :: (ul', listOf (List.toArray uvs') k') :: (ga, listOf (List.toArray gys) gk) :: rest) N7 (by ((repeat (refine sub_cons (by repeat (first | exact List.Mem.head _ | apply List.Mem.tail)) ?_)); repeat (first | exact fun q hq => hq | refine sub_tail ?_)))
    clear N7
    have hIr : ∀ q ∈ rest, q.1 ≠ I := fun q hq => hoff q (by (repeat (first | exact hq | apply List.Mem.tail)))
    (refine Does.call (by k_asm) (by k_asm) (by k_asm) (by k_asm) (by k_asm) (by first | exact rfl | assumption) (by ktr_room) (by ktr_units) (forget_does hvd (by k_mem) (by k_mem) hui hlu hdf hdm hkf1 hkm1 (Nat.le_trans hlf hF.1) (Nat.le_trans hlm hM.1) (by k_all) (by k_all) (by k_all) n4 n5 n6) ?_)
    rintro v5 news5 h7 tk7 F7 N9 ⟨od2, of2, om2, ul2, uvs2, k9, rfl, hvd2, hui2, hdf2, hdm2, w5, w6, w7, w8⟩
    dsimp only
    have w9 : @Ne Nat ul2 A := (w8 (A, _) (.head _)).symm
    have w10 : @Ne Nat ul2 I := (w8 (I, _) (.tail _ (.head _))).symm
    (repeat' (first | (k_unfold; (try dsimp only)) | walk1 | (dsimp only; walk1) | fail "no step"))
    refine TPost.go (nx := (A, listOf ((List.toArray ys).push (.ref T)) (kk + 1)) :: (vd, od2) :: (fd, of2) :: (md, om2) :: (ul2, listOf (List.toArray uvs2) k9) :: (ga, listOf (List.toArray gys) gk) :: rest) (by (first | k_asm | assumption)) (news_sub (by (first | k_asm | assumption)) (by ((repeat (refine sub_cons (by repeat (first | exact List.Mem.head _ | apply List.Mem.tail)) ?_)); repeat (first | exact fun q hq => hq | refine sub_tail ?_)))) (by k_all) ⟨some (.int u tu), ys ++ [.ref T], kk + 1, od2, of2, om2, ul2, uvs2, k9, _, _, upd_upd _, by rw [List.push_toArray], by rw [List.length_append]; simpa using hyl, hvd2, ?_, hdf2, hdm2, Nat.le_trans (without_length _ _) hlf, Nat.le_trans (without_length _ _) hlm, ?_, ?_, w5, w6, w7, w9, .inr fun q hq => w8 q (by (repeat (first | exact hq | apply List.Mem.tail)))⟩
    · rw [List.filter_filter] at hui2
      have e : cs.filter (fun x => decide (x ∉ (cs.filter (fun x => decide (x ∉ us))).take (i + 1))) = cs.filter (fun a => decide (a ≠ u) && decide (a ∉ (cs.filter (fun x => decide (x ∉ us))).take i)) := by
        apply List.filter_congr
        intro x _
        rw [Bool.eq_iff_iff]
        simp only [decide_eq_true_eq, Bool.and_eq_true, mem_take_succ hu, not_or, ne_eq]
        exact And.comm
      rw [e]
      exact hui2
    · intro x
      rw [valueAt_without, hkf x]
      by_cases e : x = u
      · rw [if_pos e, if_pos ((mem_take_succ hu).mpr (.inr e))]
      · rw [if_neg e]
        by_cases e2 : x ∈ (cs.filter (fun x => decide (x ∉ us))).take i
        · rw [if_pos e2, if_pos ((mem_take_succ hu).mpr (.inl e2))]
        · rw [if_neg e2, if_neg (fun h => ((mem_take_succ hu).mp h).elim e2 e)]
    · intro x
      rw [valueAt_without, hkm x]
      by_cases e : x = u
      · rw [if_pos e, if_pos ((mem_take_succ hu).mpr (.inr e))]
      · rw [if_neg e]
        by_cases e2 : x ∈ (cs.filter (fun x => decide (x ∉ us))).take i
        · rw [if_pos e2, if_pos ((mem_take_succ hu).mpr (.inl e2))]
        · rw [if_neg e2, if_neg (fun h => ((mem_take_succ hu).mp h).elim e2 e)]
  · rintro m' nx h tk ⟨e1, ys, kk, od', of', om', ul', uvs', k', kf', km', rfl, rfl, hyl, hvd, hui, hdf, hdm, hlf, hlm, hkf, hkm, w1, w2, w3, w4, wd⟩ F2 N2
    have hvd' := hvd
    obtain ⟨vwE, rfl⟩ := hvd'
    dsimp only
    rw [hgl, List.take_length] at hui hkf hkm
    subst hm₀
    (repeat' (first | (k_unfold; (try dsimp only)) | (with_reducible ((with_reducible show wpAny _ _ (compareOp CmpOp.NotEq (Value.ref _) (Value.ref _)) _ _ _); (with_unfolding_all refine' ne_intsK ?k1 ?k2 ?k3 ?k4 ?k5 ?_; (case k1 => is_list); (case k2 => (first | with_reducible assumption | with_reducible exact IntsAre.nil)); (case k3 => is_list); (case k4 => (first | with_reducible assumption | with_reducible exact IntsAre.nil)); (case k5 => ktr_units); k_whole))) | walk1 | (dsimp only; walk1) | fail "no step"))
    all_goals
      refine hret _ ((A, _) :: (vd, _) :: (fd, _) :: (md, _) :: (ul', _) :: rest) _ _ (by k_asm) (news_sub (by k_asm) (by ((repeat (refine sub_cons (by repeat (first | exact List.Mem.head _ | apply List.Mem.tail)) ?_)); repeat (first | exact fun q hq => hq | refine sub_tail ?_)))) ⟨A, ys, kk, _, of', om', ul', uvs', k', kf', km', rfl, rfl, by omega, hvd, ?_, hdf, hdm, ⟨Nat.le_trans hlf hF.1, fun u => ?_, fun u v hv => ?_⟩, ⟨Nat.le_trans hlm hM.1, fun u => ?_⟩, w1, w2, w3, a1, a2, a3, w4.symm, hAr, wd, hlf, hlm⟩
      · have e : cs.filter (fun x => decide (x ∈ us)) = cs.filter (fun x => decide (x ∉ cs.filter (fun x => decide (x ∉ us)))) := by
          apply List.filter_congr
          intro x hx
          rw [Bool.eq_iff_iff]
          simp only [decide_eq_true_eq, List.mem_filter, hx, true_and, Classical.not_not]
        rw [e]
        exact hui
      · rw [hkf u]
        by_cases h1 : u ∈ cs
        · by_cases h2 : u ∈ us
          · have h3 : u ∉ cs.filter (fun x => decide (x ∉ us)) := by simp [h2]
            rw [if_neg h3, hF.2.1 u]
            simp [h1, h2]
          · have h3 : u ∈ cs.filter (fun x => decide (x ∉ us)) := by simp [h1, h2]
            rw [if_pos h3]
            simp [h2]
        · have h3 : u ∉ cs.filter (fun x => decide (x ∉ us)) := by simp [h1]
          rw [if_neg h3, hF.2.1 u]
          simp [h1]
      · rw [hkf u] at hv
        by_cases h3 : u ∈ cs.filter (fun x => decide (x ∉ us))
        · rw [if_pos h3] at hv; cases hv
        · rw [if_neg h3] at hv
          exact hF.2.2 u v hv
      · rw [hkm u]
        by_cases h1 : u ∈ cs
        · by_cases h2 : u ∈ us
          · have h3 : u ∉ cs.filter (fun x => decide (x ∉ us)) := by simp [h2]
            rw [if_neg h3, hM.2 u]
            simp [h1, h2]
          · have h3 : u ∈ cs.filter (fun x => decide (x ∉ us)) := by simp [h1, h2]
            rw [if_pos h3]
            simp [h2]
        · have h3 : u ∉ cs.filter (fun x => decide (x ∉ us)) := by simp [h1]
          rw [if_neg h3, hM.2 u]
          simp [h1]

theorem arrival_news_does {bx ul fd md va vd db ls gn : Addr} {nu top : Int} {od of om o : Obj} {rest : Led} {kf km : List (Int × Value)} {uvs vs : List Value} {cs us : List Int} {k k2 : Nat} (hv : ViewD bx ul fd md od) (h1 : (va, instObj 296 vd) ∈ rest) (h2 : (vd, od) ∈ rest) (hI : IntsAre uvs cs) (hnl : cs.length ≤ 400)
    (hf : of.IsDictOf (PySem.intKind PySem.Challenge.rw_or0056_01.row.prog w) kf) (hm : om.IsDictOf (PySem.intKind PySem.Challenge.rw_or0056_01.row.prog w) km) (hF : FlagsD rest cs kf) (hM : KeysD cs km) (lo : (fd == sysModules) = false)
    (hlf : kf.length ≤ 400) (hlm : km.length ≤ 400)
    (ho : BoxD nu top ls gn o) (hb : (bx, instObj 163 db) ∈ rest) (hdb : (db, o) ∈ rest) (hl : (ls, listOf vs.toArray k2) ∈ rest) (hL : Lets rest vs us) (hul : us.length ≤ 400)
    (n1 : ∀ q ∈ rest, q.1 ≠ ul) (n2 : ∀ q ∈ rest, q.1 ≠ fd) (n3 : ∀ q ∈ rest, q.1 ≠ md) (n4 : @Ne Nat ul fd) (n5 : @Ne Nat ul md) (n6 : @Ne Nat fd md) :
    Does w p loose mean mg mb 20 362 [.ref va] ((ul, listOf uvs.toArray k) :: (fd, of) :: (md, om) :: rest) (arrival_news_post w ul fd md rest kf km cs us (us.filter (fun x => decide (lastOf cs < x) && decide (x ∉ cs)))) := by
  w_top off
  unfold Does
  k_fill
  intro dp un gd cn cs' ad ccd cl outer A₀ base h₀ L m s Q E B F X N T hk hdp hun hret
  have hcl := hI.length
  refine wpAny_call ?_
  k_dflt ktr_enter
  (repeat' (first | (k_unfold; (try dsimp only)) | walk1 | (dsimp only; walk1) | fail "no step"))
  unfold Stop
  (refine Does.call (by k_asm) (by k_asm) (by k_asm) (by k_asm) (by k_asm) (by first | exact rfl | assumption) (by ktr_room) (by ktr_units) (new_letters_does (db := db) (ls := ls) (gn := gn) (cs := cs) (kf := kf) (of := of) (fd := fd) (ul := ul) (md := md) hv (by k_mem) (.tail _ (.tail _ (.tail _ h2))) (by k_mem) hI (by omega) (by k_mem) hf hF.2.1 lo ho (by k_mem) (.tail _ (.tail _ (.tail _ hdb))) (.tail _ (.tail _ (.tail _ hl))) hL (fun q hq => by (repeat (first | exact hq | apply List.Mem.tail))) (by omega)) ?_)
  rintro v news1 hh1 tk1 F1 N1 ⟨la, lvs, lk, rfl, rfl, hlfr, hlL⟩
  dsimp only
  ((try replace hlfr := off1_of hlfr); dsimp only [LCg.Off1] at hlfr)
  (repeat' (first | (k_unfold; (try dsimp only)) | (with_reducible ((with_reducible show wpAny _ _ (exec (Stmt.For _ (Expr.Name _ _) _ _ _) _) _ _ _); (rename Fr _ _ _ _ => lF'); (with_unfolding_all refine' For_turns lF' ?_; k_whole))) | walk1 | (dsimp only; walk1) | fail "no step"))
  unfold Stop
  (rename Fr _ _ _ _ => F9)
  (rename News _ _ _ _ => N9)
  obtain ⟨m₀, hm₀, F8⟩ := nameF F9
  clear F9
  have hlr : ∀ q ∈ rest, q.1 ≠ la := fun q hq => off1_ne hlfr.2.2.2 q hq
  have hal : (us.filter (fun x => decide (lastOf cs < x) && decide (x ∉ cs))).length ≤ us.length := List.length_filter_le _ _
  have hll := hlL.len
  generalize hns : us.filter (fun x => decide (lastOf cs < x) && decide (x ∉ cs)) = ns at *
  refine turns_list (vs := lvs) (JW7 w m₀ la ul fd md lvs lk rest cs ns kf km) (by rfl) F8 N9 (.head _)
    ⟨_, of, om, uvs, k, kf, km, upd_self _, rfl, by simpa using hI, hf, hm, by omega, by omega, by simpa using hF, by simpa using hM⟩ ?_ ?_ ?_
  · rintro i m' nx ⟨e1, of', om', uvs', k', kf', km', rfl, rfl, _⟩
    exact .head _
  · rintro i v m' nx h tk I io hv2 hlt hoff ⟨e1, of', om', uvs', k', kf', km', rfl, rfl, hui, hdf, hdm, hf4, hm4, hFF, hKK⟩ F2 N2
    obtain ⟨u, hu, hA⟩ := hlL.get hv2
    obtain ⟨al, dl, odl, fl, nf, rfl, hl1, hl2, hLD, hl4⟩ := hA
    have hLD' := hLD
    obtain ⟨ltE, rfl⟩ := hLD'
    have hil := (List.getElem?_eq_some_iff.mp hv2).1
    have hul9 := hui.length
    rw [List.length_append, List.length_take] at hul9
    obtain ⟨vwE, rfl⟩ := id hv
    subst hm₀
    k_lt hlt
    (repeat' (first | (k_unfold; (try dsimp only)) | walk1 | (dsimp only; walk1) | fail "no step"))
    unfold Stop
    (rename News _ _ _ _ => N7)
    have hIr : ∀ q ∈ rest, q.1 ≠ I := fun q hq => hoff q (by (repeat (first | exact hq | apply List.Mem.tail)))
    have N8 := news_sub (l' := (fd, of') :: (md, om') :: (I, io) :: (la, listOf (List.toArray lvs) lk) :: (ul, listOf ((List.toArray uvs').push (.int u ltE.tu)) (k' + 1)) :: rest) N7 (by ((repeat (refine sub_cons (by repeat (first | exact List.Mem.head _ | apply List.Mem.tail)) ?_)); repeat (first | exact fun q hq => hq | refine sub_tail ?_)))
    clear N7
    (refine Does.call (by k_asm) (by k_asm) (by k_asm) (by k_asm) (by k_asm) (by first | exact rfl | assumption) (by ktr_room) (by ktr_units) (note_does hv (by k_mem) (.tail _ (.tail _ (.tail _ h2))) hdf hdm (by omega) (by omega) (.tail _ (.tail _ (.tail _ hl1))) (.tail _ (.tail _ (.tail _ hl2))) hLD (by k_all) (by k_all) n6) ?_)
    rintro v5 news5 h7 tk7 F7 N9 ⟨of2, om2, x9, rfl, hdf2, hdm2⟩
    dsimp only
    (repeat' (first | (k_unfold; (try dsimp only)) | walk1 | (dsimp only; walk1) | fail "no step"))
    have hs1 := stored_length_le kf' u (.ref fl)
    have hs2 := stored_length_le km' u x9
    have htk : cs ++ ns.take (i + 1) = (cs ++ ns.take i) ++ [u] := by rw [List.take_add_one, hu, List.append_assoc]; rfl
    refine TPost.go (nx := (la, listOf (List.toArray lvs) lk) :: (ul, listOf ((List.toArray uvs').push (.int u ltE.tu)) (k' + 1)) :: (fd, of2) :: (md, om2) :: rest) (by (first | k_asm | assumption)) (news_sub (by (first | k_asm | assumption)) (by ((repeat (refine sub_cons (by repeat (first | exact List.Mem.head _ | apply List.Mem.tail)) ?_)); repeat (first | exact fun q hq => hq | refine sub_tail ?_)))) (by k_all) ⟨some (.ref al), of2, om2, uvs' ++ [.int u ltE.tu], k' + 1, _, _, upd_upd _, by rw [List.push_toArray], ?_, hdf2, hdm2, by omega, by omega, ?_, ?_⟩
    · rw [htk]
      exact hui.append (.cons u ltE.tu .nil)
    · rw [htk]
      exact hFF.put (by omega) hl4
    · rw [htk]
      exact hKK.put (by omega)
  · rintro m' nx h tk ⟨e1, of', om', uvs', k', kf', km', rfl, rfl, hui, hdf, hdm, hf4, hm4, hFF, hKK⟩ F2 N2
    obtain ⟨vwE, rfl⟩ := id hv
    dsimp only
    rw [hll, List.take_length] at hui hFF hKK
    have hul9 := hui.length
    rw [List.length_append] at hul9
    subst hm₀
    cases hlL with
    | nil =>
      (repeat' (first | (k_unfold; (try dsimp only)) | (with_reducible ((with_reducible show wpAny _ _ (compareOp CmpOp.NotEq (Value.ref _) (Value.ref _)) _ _ _); (with_unfolding_all refine' ne_intsK ?k1 ?k2 ?k3 ?k4 ?k5 ?_; (case k1 => is_list); (case k2 => (first | with_reducible assumption | with_reducible exact IntsAre.nil)); (case k3 => is_list); (case k4 => (first | with_reducible assumption | with_reducible exact IntsAre.nil)); (case k5 => ktr_units); k_whole))) | walk1 | (dsimp only; walk1) | fail "no step"))
      refine hret _ ((_, listOf (List.toArray []) 0) :: (ul, _) :: (fd, _) :: (md, _) :: rest) _ _ (by k_asm) (news_sub (by k_asm) (by ((repeat (refine sub_cons (by repeat (first | exact List.Mem.head _ | apply List.Mem.tail)) ?_)); repeat (first | exact fun q hq => hq | refine sub_tail ?_)))) ⟨_, [], _, of', om', uvs', k', kf', km', rfl, rfl, by simp, hui, hdf, hdm, hFF, hKK, by simp only [List.length_nil, List.length_cons] at hll hf4 hm4 hal ⊢; omega, by simp only [List.length_nil, List.length_cons] at hll hf4 hm4 hal ⊢; omega, by k_all⟩
    | cons hd0 tl0 =>
      (repeat' (first | (k_unfold; (try dsimp only)) | walk1 | (dsimp only; walk1) | fail "no step"))
      refine PySem.SeqAt.RcNeAt.lists_lengths (News.isList (by k_asm) (by k_mem)) (News.isList (by k_asm) (by k_mem)) (by simp) (by ktr_units) _ _ _ _ ?_
      (repeat' (first | (k_unfold; (try dsimp only)) | (with_reducible ((with_reducible show wpAny _ _ (call (Value.builtin "len") [Value.ref _]) _ _ _); (k_dflt (refine' len_any ?k1 ?k2 ?_; (case k1 => is_list); (case k2 => omega); k_whole)))) | walk1 | (dsimp only; walk1) | fail "no step"))
      (rename News h₀ L _ _ => N7)
      obtain ⟨Z, hZ9⟩ := nameHead N7
      subst hZ9
      refine hret _ ((Z, listOf (List.toArray [_]) 0) :: (ul, _) :: (fd, _) :: (md, _) :: rest) _ _ (by k_asm) (news_sub N7 (by ((repeat (refine sub_cons (by repeat (first | exact List.Mem.head _ | apply List.Mem.tail)) ?_)); repeat (first | exact fun q hq => hq | refine sub_tail ?_)))) ⟨Z, [_], _, of', om', uvs', k', kf', km', rfl, rfl, by simp, hui, hdf, hdm, hFF, hKK, by simp only [List.length_nil, List.length_cons] at hll hf4 hm4 hal ⊢; omega, by simp only [List.length_nil, List.length_cons] at hll hf4 hm4 hal ⊢; omega, by k_all⟩



theorem news_does {bx ul fd md va vd db ls gn : Addr} {nu top : Int} {od of om o : Obj} {rest : Led} {kf km : List (Int × Value)} {uvs vs : List Value} {cs us : List Int} {k k2 : Nat} (hv : ViewD bx ul fd md od) (h1 : (va, instObj 296 vd) ∈ rest) (hI : IntsAre uvs cs) (hnl : cs.length ≤ 100) (hcs : cs.Pairwise (· < ·))
    (hf : of.IsDictOf (PySem.intKind PySem.Challenge.rw_or0056_01.row.prog w) kf) (hm : om.IsDictOf (PySem.intKind PySem.Challenge.rw_or0056_01.row.prog w) km) (hF : FlagsD rest cs kf) (hM : KeysD cs km) (hlf : kf.length ≤ 200) (hlm : km.length ≤ 200) (lo : (fd == sysModules) = false)
    (ho : BoxD nu top ls gn o) (hb : (bx, instObj 163 db) ∈ rest) (hdb : (db, o) ∈ rest) (hl : (ls, listOf vs.toArray k2) ∈ rest) (hL : Lets rest vs us) (hul : us.length ≤ 100) (hus : us.Pairwise (· < ·)) (hu1 : ∀ u ∈ us, 1 ≤ u) (hnew : ∀ u ∈ us, u ∉ cs → ∀ c ∈ cs, c < u)
    (n1 : ∀ q ∈ rest, q.1 ≠ vd) (n2 : ∀ q ∈ rest, q.1 ≠ fd) (n3 : ∀ q ∈ rest, q.1 ≠ md) (n7 : ∀ q ∈ rest, q.1 ≠ ul) (n4 : @Ne Nat vd fd) (n5 : @Ne Nat vd md) (n6 : @Ne Nat fd md) (m1 : @Ne Nat ul vd) (m2 : @Ne Nat ul fd) (m3 : @Ne Nat ul md) :
    Does w p loose mean mg mb 24 369 [.ref va, .bool true] ((vd, od) :: (fd, of) :: (md, om) :: (ul, listOf uvs.toArray k) :: rest) (news_post w bx fd md vd rest kf km us) := by
  w_top off
  have hv' := hv
  have hsub : ∀ q ∈ rest, q ∈ (vd, od) :: (fd, of) :: (md, om) :: (ul, listOf uvs.toArray k) :: rest := fun q hq => .tail _ (.tail _ (.tail _ (.tail _ hq)))
  obtain ⟨vwE, rfl⟩ := hv'
  unfold Does
  k_fill
  intro dp un gd cn cs' ad ccd cl outer A₀ base h₀ L m s Q E B F X N T hk hdp hun hret
  have hcl := hI.length
  refine wpAny_call ?_
  k_dflt ktr_enter
  (repeat' (first | (k_unfold; (try dsimp only)) | walk1 | (dsimp only; walk1) | fail "no step"))
  unfold Stop
  (refine Does.call (by k_asm) (by k_asm) (by k_asm) (by k_asm) (by k_asm) (by first | exact rfl | assumption) (by ktr_room) (by ktr_units) (flag_news_does (db := db) (ls := ls) (gn := gn) (k2 := k2) hv (hsub _ h1) (.head _) (.tail _ (.head _)) hf (hF.mono hsub) (by k_mem) hI (by omega) ho (hsub _ hb) (hsub _ hdb) (hsub _ hl) (hL.mono hsub) (by omega) hus) ?_)
  rintro v news1 hh1 tk1 F1 N1 ⟨a, kk, rfl, rfl, hafr⟩
  dsimp only
  have har : ∀ q ∈ rest, q.1 ≠ a := fun q hq => hafr q (hsub q hq)
  ((try replace hafr := off1_of hafr); dsimp only [LCg.Off1] at hafr)
  (repeat' (first | (k_unfold; (try dsimp only)) | walk1 | (dsimp only; walk1) | fail "no step"))
  unfold Stop
  (rename News _ _ _ _ => N9)
  have a1 : @Ne Nat a vd := fun e => hafr.1 e.symm
  have a2 : @Ne Nat a fd := fun e => hafr.2.1 e.symm
  have a3 : @Ne Nat a md := fun e => hafr.2.2.1 e.symm
  have a4 : @Ne Nat a ul := fun e => hafr.2.2.2.1 e.symm
  have hnd : cs.Nodup := hcs.imp fun h e => absurd (e ▸ h) (Int.lt_irrefl _)
  have N8 := news_sub (l' := (vd, _) :: (fd, of) :: (md, om) :: (a, listOf #[] kk) :: (ul, listOf uvs.toArray k) :: rest) N9 (by ((repeat (refine sub_cons (by repeat (first | exact List.Mem.head _ | apply List.Mem.tail)) ?_)); repeat (first | exact fun q hq => hq | refine sub_tail ?_)))
  clear N9
  have s2 : ∀ q ∈ rest, q ∈ (a, listOf #[] kk) :: (ul, listOf uvs.toArray k) :: rest := fun q hq => .tail _ (.tail _ hq)
  (refine Does.call (by k_asm) (by k_asm) (by k_asm) (by k_asm) (by k_asm) (by first | exact rfl | assumption) (by ktr_room) (by ktr_units) (expunge_news_does (db := db) (ls := ls) (gn := gn) hv (s2 _ h1) (.tail _ (.head _)) hI (by omega) hnd hf hm (hF.mono s2) hM ho (s2 _ hb) (s2 _ hdb) (s2 _ hl) (hL.mono s2) (by omega) (all_cons a1 (all_cons m1 n1)) (all_cons a2 (all_cons m2 n2)) (all_cons a3 (all_cons m3 n3)) n4 n5 n6) ?_)
  rintro v news2 hh2 tk2 F2 N2 ⟨b2, ys, kk2, od2, of2, om2, ul2, uvs2, k3, kf2, km2, rfl, rfl, hyl, hv2, hI2, hf2, hm2, hF2, hM2, w1, w2, w3, w4, w5, w6, w7, w8, w9, w10, w11⟩
  dsimp only
  have b1 : @Ne Nat a b2 := w8 _ (.head _)
  have b3 : @Ne Nat a ul2 := by
    rcases w9 with e | e
    · rw [e]; exact a4
    · exact e _ (.head _)
  have b4 : ∀ q ∈ rest, q.1 ≠ ul2 := by
    rcases w9 with e | e
    · rw [e]; exact n7
    · exact fun q hq => e _ (s2 _ hq)
  have hyr : ∀ q ∈ rest, q.1 ≠ b2 := fun q hq => w8 q (s2 q hq)
  have N3 := news_sub (l' := (a, listOf #[] kk) :: (b2, listOf (List.toArray ys) kk2) :: (vd, _) :: (fd, of2) :: (md, om2) :: (ul2, listOf (List.toArray uvs2) k3) :: rest) N2 (by ((repeat (refine sub_cons (by repeat (first | exact List.Mem.head _ | apply List.Mem.tail)) ?_)); repeat (first | exact fun q hq => hq | refine sub_tail ?_)))
  clear N2
  (repeat' (first | (k_unfold; (try dsimp only)) | (with_reducible ((with_reducible show wpAny _ _ (call (Value.builtin "list.extend") _ _) _ _ _); refine Stop.out ?_)) | walk1 | (dsimp only; walk1) | fail "no step"))
  unfold Stop
  refine extendD (by k_asm) N3 (.tail _ (.head _)) (by omega) (by k_updF) ?_
  clear N3
  intro h3 k4 F3 N3
  try dsimp only at N3
  (repeat' (first | (k_unfold; (try dsimp only)) | walk1 | (dsimp only; walk1) | fail "no step"))
  unfold Stop
  (rename News _ _ _ _ => N9)
  have s3 : ∀ q ∈ rest, q ∈ (vd, od2) :: (a, listOf (List.toArray ys) k4) :: rest := fun q hq => .tail _ (.tail _ hq)
  have N4 := news_sub (l' := (ul2, listOf (List.toArray uvs2) k3) :: (fd, of2) :: (md, om2) :: (vd, od2) :: (a, listOf (List.toArray ys) k4) :: rest) N9 (by ((repeat (refine sub_cons (by repeat (first | exact List.Mem.head _ | apply List.Mem.tail)) ?_)); repeat (first | exact fun q hq => hq | refine sub_tail ?_)))
  clear N9
  have hfl : (cs.filter (fun x => decide (x ∈ us))).length ≤ cs.length := List.length_filter_le _ _
  (refine Does.call (by k_asm) (by k_asm) (by k_asm) (by k_asm) (by k_asm) (by first | exact rfl | assumption) (by ktr_room) (by ktr_units) (arrival_news_does (db := db) (ls := ls) (gn := gn) hv2 (s3 _ h1) (.head _) hI2 (by omega) hf2 hm2 (((hF2.drop (by simp)).drop (by simp)).mono s3) hM2 lo (by omega) (by omega) ho (s3 _ hb) (s3 _ hdb) (s3 _ hl) (hL.mono s3) (by omega) (all_cons w1.symm (all_cons b3 b4)) (all_cons n4 (all_cons a2 n2)) (all_cons n5 (all_cons a3 n3)) w2 w3 n6) ?_)
  rintro v news5 hh5 tk5 F5 N5 ⟨c2, zs, kk5, of5, om5, uvs5, k5, kf5, km5, rfl, rfl, hzl, hI5, hf5, hm5, hF5, hM5, w12, w13, w14⟩
  dsimp only
  rw [news_list hcs hus hu1 hnew] at hI5 hF5 hM5
  (repeat' (first | (k_unfold; (try dsimp only)) | (with_reducible ((with_reducible show wpAny _ _ (binaryOp _ (Value.ref _) (Value.ref _)) _ _ _); refine Stop.out ?_)) | walk1 | (dsimp only; walk1) | fail "no step"))
  unfold Stop
  refine add_listsD (by k_asm) (by k_asm) (by k_mem) (by k_mem) (by omega) ?_
  intro D h6 F6 N6 l6
  (repeat' (first | (k_unfold; (try dsimp only)) | walk1 | (dsimp only; walk1) | fail "no step"))
  refine hret _ ((vd, od2) :: (fd, of5) :: (md, om5) :: (ul2, listOf (List.toArray uvs5) k5) :: rest) _ _ (by k_asm) (news_sub (by k_asm) (by ((repeat (refine sub_cons (by repeat (first | exact List.Mem.head _ | apply List.Mem.tail)) ?_)); repeat (first | exact fun q hq => hq | refine sub_tail ?_)))) ⟨od2, of5, om5, ul2, uvs5, k5, kf5, km5, rfl, hv2, hI5, hf5, hm5, ?_, hM5, by omega, by omega, b4, w1, w2, w3⟩
  refine (hF5.drop ?_).drop (by simp)
  obtain ⟨vwE, rfl⟩ := hv2
  simp

theorem law_lies_does {pt : Addr} {rest : Led} {pvs : List Value} {qs : List (Int × Int)} {u g : Int} {tu tg : Tok} {n : Nat} (hp : (pt, tupOf pvs.toArray n) ∈ rest) (hP : Pairs rest pvs qs) (hlen : qs.length ≤ 3) :
    Does w p loose mean mg mb 3 383 [.ref pt, .int u tu, .int g tg] rest (fun v news' => v = .bool (named qs g u) ∧ news' = rest) := by
  w_top off
  unfold Does
  k_fill
  intro dp un gd cn cs ad ccd cl outer A₀ base h₀ L m s Q E B F X N T hk hdp hun hret
  have hpl := hP.len
  refine wpAny_call ?_
  k_dflt ktr_enter
  (repeat' (first | (k_unfold; (try dsimp only)) | (with_reducible ((with_reducible show wpAny _ _ (exec (Stmt.For _ (Expr.Name _ _) _ _ _) _) _ _ _); (rename Fr _ _ _ _ => lF'); (with_unfolding_all refine' For_turns lF' ?_; k_whole))) | walk1 | (dsimp only; walk1) | fail "no step"))
  unfold Stop
  (rename Fr _ _ _ _ => F9)
  (rename News _ _ _ _ => N9)
  obtain ⟨m₀, hm₀, F8⟩ := nameF F9
  clear F9
  refine turns_tup (vs := pvs) (JY1 m₀ rest qs g u) (by rfl) F8 N9 hp ⟨_, _, _, _, upd_self4 _, rfl, rfl⟩ ?_ ?_ ?_
  · rintro i m' nx ⟨e1, e2, e3, e4, rfl, rfl, hn⟩
    exact hp
  · rintro i v m' nx h tk I io hv hlt hoff ⟨e1, e2, e3, e4, rfl, rfl, hn⟩ F1 N1
    obtain ⟨⟨qa, qb⟩, hq, hA⟩ := hP.get hv
    obtain ⟨r, ta, tb, nn, rfl, hr⟩ := hA
    subst hm₀
    dsimp only at hr
    (repeat' (first | (k_unfold; (try dsimp only)) | walk1 | (dsimp only; walk1) | fail "no step"))
    all_goals first
      | (refine TPost.go (by (first | k_asm | assumption)) (by (first | k_asm | assumption)) hoff ⟨_, _, _, _, upd_four _, rfl, named_snoc hn hq ?_⟩
         simp only [lies, pairOf, endOf, Bool.and_eq_false_iff, decide_eq_false_iff_not]
         repeat' split
         all_goals omega)
      | (dsimp only [TPost]
         (repeat' (first | (k_unfold; (try dsimp only)) | walk1 | (dsimp only; walk1) | fail "no step"))
         refine hret _ _ _ _ (by k_asm) (news_sub (by k_asm) (fun q hq => .tail _ hq)) ⟨?_, rfl⟩
         have hy : lies g u (qa, qb) = true := by
           simp only [lies, pairOf, endOf, Bool.and_eq_true, decide_eq_true_eq]
           repeat' split
           all_goals omega
         rw [named_mem hq hy])
  · rintro m' nx h tk ⟨e1, e2, e3, e4, rfl, rfl, hn⟩ F1 N1
    dsimp only
    rw [hpl, List.take_length] at hn
    subst hm₀
    (repeat' (first | (k_unfold; (try dsimp only)) | walk1 | (dsimp only; walk1) | fail "no step"))
    refine hret _ _ _ _ (by k_asm) (by k_asm) ⟨by rw [hn], rfl⟩

theorem law_due_does {cl tl pt : Addr} {rest : Led} {cvs tvs pvs : List Value} {cs us : List Int} {qs : List (Int × Int)} {k1 k2 n : Nat} {b : Bool} (hc : (cl, listOf cvs.toArray k1) ∈ rest) (hIc : IntsAre cvs cs) (ht : (tl, listOf tvs.toArray k2) ∈ rest) (hIt : IntsAre tvs us) (hp : (pt, tupOf pvs.toArray n) ∈ rest) (hP : Pairs rest pvs qs) (hlen : qs.length ≤ 3) (hnl : cs.length ≤ 1000) (hul : us.length ≤ 1000) :
    Does w p loose mean mg mb 12 390 [.ref cl, .ref tl, .ref pt, .bool b] rest (law_due_post rest cs us qs b) := by
  w_top off
  unfold Does
  k_fill
  intro dp un gd cn cs' ad ccd cl' outer A₀ base h₀ L m s Q E B F X N T hk hdp hun hret
  have hcl := hIc.length
  have htl := hIt.length
  refine wpAny_call ?_
  k_dflt ktr_enter
  by_cases h0 : cs = []
  · subst h0
    have hnv0 : cvs = [] := List.eq_nil_of_length_eq_zero hcl
    subst hnv0
    (repeat' (first | (k_unfold; (try dsimp only)) | (with_reducible ((with_reducible show wpAny _ _ (compareOp CmpOp.Eq (Value.ref _) (Value.ref _)) _ _ _); (with_unfolding_all refine' eq_intsK ?k1 ?k2 ?k3 ?k4 ?k5 ?_; (case k1 => is_list); (case k2 => (first | with_reducible assumption | with_reducible exact IntsAre.nil)); (case k3 => is_list); (case k4 => (first | with_reducible assumption | with_reducible exact IntsAre.nil)); (case k5 => ktr_units); k_whole))) | walk1 | (dsimp only; walk1) | fail "no step"))
    all_goals first
      | (refine hret _ _ _ _ (by k_asm) (by k_asm) ⟨_, [], _, rfl, .head _, fun q hq => .tail _ (by (repeat (first | exact hq | apply List.Mem.tail))), ?_⟩
         cases b <;> exact .nil)
  · have hpos : 0 < cs.length := List.length_pos_iff.mpr h0
    obtain ⟨cs0, gl, rfl⟩ : ∃ ns0 gl, cs = ns0 ++ [gl] := ⟨cs.dropLast, cs.getLast h0, (List.dropLast_concat_getLast h0).symm⟩
    obtain ⟨cvs0, v0, rfl⟩ : ∃ nvs0 v0, cvs = nvs0 ++ [v0] := by
      have h2 : cvs ≠ [] := List.length_pos_iff.mp (by omega)
      exact ⟨cvs.dropLast, cvs.getLast h2, (List.dropLast_concat_getLast h2).symm⟩
    have hlast : lastOf (cs0 ++ [gl]) = gl := by simp [lastOf]
    have hlc : cvs0.length = cs0.length := by simpa using hcl
    obtain ⟨g, tg, rfl, hg⟩ := hIc.at cvs0.length v0 (by simp)
    have hgg : g = gl := by
      rw [hlc] at hg
      simpa using hg.symm
    subst hgg
    (repeat' (first | (k_unfold; (try dsimp only)) | (with_reducible ((with_reducible show wpAny _ _ (compareOp CmpOp.Eq (Value.ref _) (Value.ref _)) _ _ _); (with_unfolding_all refine' eq_intsK ?k1 ?k2 ?k3 ?k4 ?k5 ?_; (case k1 => is_list); (case k2 => (first | with_reducible assumption | with_reducible exact IntsAre.nil)); (case k3 => is_list); (case k4 => (first | with_reducible assumption | with_reducible exact IntsAre.nil)); (case k5 => ktr_units); k_whole))) | (with_reducible ((with_reducible show wpAny _ _ (exec (Stmt.For (Expr.Tuple _ _ _) (Expr.Call _ _ _ _) _ _ _) _) _ _ _); (rename Fr _ _ _ _ => lF'); (with_unfolding_all refine' For_turns lF' ?_; k_whole))) | walk1 | (dsimp only; walk1) | fail "no step"))
    unfold Stop
    (rename Fr _ _ _ _ => F9)
    (rename News _ _ _ _ => N9)
    obtain ⟨m₀, hm₀, F8⟩ := nameF F9
    clear F9
    obtain ⟨O, hO9⟩ := nameHead N9
    subst hO9
    have N8 := news_sub (l' := (O, listOf #[] 0) :: rest) N9 (sub_cons' (.head _) (fun q hq => .tail _ (.tail _ hq)))
    have hO : ∀ q ∈ rest, q.1 ≠ O := by k_all
    clear N9
    refine turns_enum (vs := cvs0 ++ [Value.int g tg]) (JY2 m₀ O rest (cs0 ++ [g]) us qs g b) (by rfl) F8 N8 (.tail _ hc) ⟨_, _, _, _, [], _, upd_self4 _, rfl, ?_, Nat.le_refl _⟩ ?_ ?_ ?_
    · cases b <;> exact .nil
    · rintro i m' nx ⟨e1, e2, e3, e4, ys, k', rfl, rfl, hys, hyl⟩
      exact .tail _ hc
    · rintro i v T t m' nx h tk I io I' io' hv hT hlt hII hoff ⟨e1, e2, e3, e4, ys, k', rfl, rfl, hys, hyl⟩ F1 N1
      obtain ⟨u, tu, rfl, hu⟩ := hIc.at _ _ hv
      subst hm₀
      have hil := (List.getElem?_eq_some_iff.mp hv).1
      have hoO := hoff _ (.head _)
      have hoO1 : @Ne Nat O I := hoO.1
      have hoO2 : @Ne Nat O I' := hoO.2
      have hor : ∀ q ∈ rest, q.1 ≠ I ∧ q.1 ≠ I' := fun q hq => hoff q (.tail _ hq)
      k_lt hlt
      have hy3 : ys.length ≤ 1000 := by omega
      cases b with
      | true =>
        (repeat' (first | (k_unfold; (try dsimp only)) | (with_reducible ((with_reducible show wpAny _ _ (subscriptTail _ _ (Value.ref _) (Value.int (-1) _)) _ _ _); (with_unfolding_all refine' sub_last ?k1 ?_ ?k6; (case k1 => is_list); (case k6 => with_unfolding_all rfl); k_whole))) | walk1 | (dsimp only; walk1) | fail "no step"))
        (refine Does.call (by k_asm) (by k_asm) (by k_asm) (by k_asm) (by k_asm) (by first | exact rfl | assumption) (by ktr_room) (by ktr_units) (law_lies_does (qs := qs) (pvs := pvs) (by k_mem) (hP.mono (fun q hq => by (repeat (first | exact hq | apply List.Mem.tail)))) hlen) ?_)
        rintro v news1 h2 tk2 F2 N2 ⟨rfl, rfl⟩
        dsimp only
        cases hn : named qs g u with
        | false =>
          (repeat' (first | (k_unfold; (try dsimp only)) | walk1 | (dsimp only; walk1) | fail "no step"))
          refine UPost.go (nx := (O, listOf (List.toArray ys) _) :: rest) (by (first | k_asm | assumption)) (news_sub (by (first | k_asm | assumption)) (fun q hq => .tail _ hq)) (upost_off hoO hor) ⟨_, _, _, _, ys, _, upd_four _, rfl, ff_skip hys hu (.inl hn), by omega⟩
        | true =>
          by_cases hm : u ∈ us
          · have hmb := any_t hm
            (repeat' (first | (k_unfold; (try dsimp only)) | (with_reducible ((with_reducible show wpAny _ _ (compareOp CmpOp.In (Value.int _ _) (Value.ref _)) _ _ _); k_dflt (refine in_listB (News.isList (by k_asm) (by k_mem)) (by with_reducible assumption) (b := true) (by with_reducible assumption) ?_))) | walk1 | (dsimp only; walk1) | fail "no step"))
            refine UPost.go (nx := (O, listOf ((List.toArray ys).push (.int u tu)) (k' + 1)) :: rest) (by (first | k_asm | assumption)) (news_sub (by (first | k_asm | assumption)) (fun q hq => .tail _ hq)) (upost_off hoO hor) ⟨_, _, _, _, ys ++ [.int u tu], k' + 1, upd_four _, by rw [List.push_toArray], ff_keep hys hu hn (by simpa using hm), by rw [List.length_append]; simpa using hyl⟩
          · have hmb := any_f hm
            (repeat' (first | (k_unfold; (try dsimp only)) | (with_reducible ((with_reducible show wpAny _ _ (compareOp CmpOp.In (Value.int _ _) (Value.ref _)) _ _ _); k_dflt (refine in_listB (News.isList (by k_asm) (by k_mem)) (by with_reducible assumption) (b := false) (by with_reducible assumption) ?_))) | walk1 | (dsimp only; walk1) | fail "no step"))
            refine UPost.go (nx := (O, listOf (List.toArray ys) _) :: rest) (by (first | k_asm | assumption)) (news_sub (by (first | k_asm | assumption)) (fun q hq => .tail _ hq)) (upost_off hoO hor) ⟨_, _, _, _, ys, _, upd_four _, rfl, ff_skip hys hu (.inr (by simpa using hm)), by omega⟩
      | false =>
        (repeat' (first | (k_unfold; (try dsimp only)) | (with_reducible ((with_reducible show wpAny _ _ (call (Value.builtin "len") [Value.ref _]) _ _ _); (k_dflt (refine' len_any ?k1 ?k2 ?_; (case k1 => is_list); (case k2 => omega); k_whole)))) | walk1 | (dsimp only; walk1) | fail "no step"))
        have hx : (nums (cs0 ++ [g]).length)[i]? = some ((i : Int) + 1) := nums_get (by rw [← hcl]; exact hil)
        have hf : (fun n : Int => (cs0 ++ [g]).getD (n - 1).toNat 0) ((i : Int) + 1) = u := by
          show (cs0 ++ [g]).getD ((i : Int) + 1 - 1).toNat 0 = u
          have e : ((i : Int) + 1 - 1).toNat = i := by omega
          rw [e, List.getD_eq_getElem?_getD, hu]
          rfl
        rw [hcl]
        (refine Does.call (by k_asm) (by k_asm) (by k_asm) (by k_asm) (by k_asm) (by first | exact rfl | assumption) (by ktr_room) (by ktr_units) (law_lies_does (qs := qs) (pvs := pvs) (by k_mem) (hP.mono (fun q hq => by (repeat (first | exact hq | apply List.Mem.tail)))) hlen) ?_)
        rintro v news1 h2 tk2 F2 N2 ⟨rfl, rfl⟩
        dsimp only
        cases hn : named qs ((cs0 ++ [g]).length : Int) ((i : Int) + 1) with
        | false =>
          (repeat' (first | (k_unfold; (try dsimp only)) | walk1 | (dsimp only; walk1) | fail "no step"))
          refine UPost.go (nx := (O, listOf (List.toArray ys) _) :: rest) (by (first | k_asm | assumption)) (news_sub (by (first | k_asm | assumption)) (fun q hq => .tail _ hq)) (upost_off hoO hor) ⟨_, _, _, _, ys, _, upd_four _, rfl, mf_skip hys hx hf (.inl hn), by omega⟩
        | true =>
          by_cases hm : u ∈ us
          · have hmb := any_t hm
            (repeat' (first | (k_unfold; (try dsimp only)) | (with_reducible ((with_reducible show wpAny _ _ (compareOp CmpOp.In (Value.int _ _) (Value.ref _)) _ _ _); k_dflt (refine in_listB (News.isList (by k_asm) (by k_mem)) (by with_reducible assumption) (b := true) (by with_reducible assumption) ?_))) | walk1 | (dsimp only; walk1) | fail "no step"))
            refine UPost.go (nx := (O, listOf ((List.toArray ys).push (.int u tu)) (k' + 1)) :: rest) (by (first | k_asm | assumption)) (news_sub (by (first | k_asm | assumption)) (fun q hq => .tail _ hq)) (upost_off hoO hor) ⟨_, _, _, _, ys ++ [.int u tu], k' + 1, upd_four _, by rw [List.push_toArray], mf_keep hys hx hf hn (by simpa using hm), by rw [List.length_append]; simpa using hyl⟩
          · have hmb := any_f hm
            (repeat' (first | (k_unfold; (try dsimp only)) | (with_reducible ((with_reducible show wpAny _ _ (compareOp CmpOp.In (Value.int _ _) (Value.ref _)) _ _ _); k_dflt (refine in_listB (News.isList (by k_asm) (by k_mem)) (by with_reducible assumption) (b := false) (by with_reducible assumption) ?_))) | walk1 | (dsimp only; walk1) | fail "no step"))
            refine UPost.go (nx := (O, listOf (List.toArray ys) _) :: rest) (by (first | k_asm | assumption)) (news_sub (by (first | k_asm | assumption)) (fun q hq => .tail _ hq)) (upost_off hoO hor) ⟨_, _, _, _, ys, _, upd_four _, rfl, mf_skip hys hx hf (.inr (by simpa using hm)), by omega⟩
    · rintro m' nx h tk ⟨e1, e2, e3, e4, ys, k', rfl, rfl, hys, hyl⟩ F1 N1
      dsimp only
      subst hm₀
      (repeat' (first | (k_unfold; (try dsimp only)) | walk1 | (dsimp only; walk1) | fail "no step"))
      refine hret _ _ _ _ (by k_asm) (by k_asm) ⟨O, ys, k', rfl, .head _, fun q hq => .tail _ hq, ?_⟩
      have e1 : (cvs0 ++ [Value.int g tg]).length = (cs0 ++ [g]).length := hcl
      rw [e1] at hys
      have e2 : (nums (cs0 ++ [g]).length).take (cs0 ++ [g]).length = nums (cs0 ++ [g]).length := by
        have := List.take_length (l := nums (cs0 ++ [g]).length)
        rw [nums_len] at this
        exact this
      rw [List.take_length, e2] at hys
      cases b with
      | true => 
        show IntsAre ys ((selT _ _).filter _)
        unfold selT
        rw [hlast]
        exact hys
      | false => exact hys






theorem law_go : PySem.Challenge.rw_or0056_01.Holds := by
  w_top off
  refine top.hd ?_
  k_go0
  (all_goals try k_fold)
  (rename Shared => s1)
  (rename Obj.data _ = Data.cell _ => hc1)
  obtain ⟨ol, e⟩ := nameCell hc1
  subst e
  revert hc1
  (rename Obj.data _ = Data.cell _ => hc2)
  obtain ⟨ov, e⟩ := nameCell hc2
  subst e
  revert hc2
  (rename Obj.data _ = Data.cell _ => hc3)
  obtain ⟨ot, e⟩ := nameCell hc3
  subst e
  intro hc2 hc1
  (repeat' (first | (k_unfold; (try dsimp only)) | (with_reducible ((with_reducible show wpAny _ _ (eval (Expr.ListComp _ [Comprehension.mk _ _ [] _] _ _) _) _ _ _); k_dflt (refine LCg.ListComp_U (F₀ := by k_asm) (by with_unfolding_all rfl) (by decide) (by rfl) (by decide) (by rfl) ?_))) | walk1 | (dsimp only; walk1) | fail "no step"))
  unfold Stop
  (rename IntsAre _ (List.take 40 _) => hI1)
  (rename _ = min 40 _ => hC1)
  obtain ⟨cis, hcis, hI2⟩ := nameInts hI1
  have h40 : cis.length ≤ 40 := by rw [← hcis, hC1]; exact Nat.min_le_left _ _
  have hwl := hI2.length
  refine LCg.CompSrc.ledger (by rfl) (by k_asm) (by k_asm) (by k_mem) (by rw [List.size_toArray, sizeLine_eq]; omega) ?_
  intro g1
  refine rest_J (fun i ys nx => nx = _ ∧ IntsAre ys (cis.take i)) ⟨rfl, .nil⟩ ?_ ?_ ?_
  · rintro i ys nx ⟨rfl, _⟩
    exact .inr ⟨_, by k_mem, rfl, _, rfl⟩
  · rintro i v ys nx I oI C oC D m₂ h tk E' hi hv ⟨rfl, hys⟩ hC hx F1 N1 off ne
    obtain ⟨u, tu, rfl, hu⟩ := hI2.at i v (by simpa using hv)
    (repeat' (first | (k_unfold; (try dsimp only)) | walk1 | (dsimp only; walk1) | fail "no step"))
    refine LCg.CompEnd.intro (by k_asm) (by k_asm) _ (fun q hq => hq) off trivial ⟨rfl, ints_snoc hys hu⟩
  · rintro ys nx ⟨rfl, hys⟩
    have hys := ints_full hys (by simpa using hwl)
    have hline := hys
    intro D h tk F1 N1 off
    ((try replace off := off1_of off); dsimp only [LCg.Off1] at off)
    dsimp only
    (repeat' (first | (k_unfold; (try dsimp only)) | (with_reducible ((with_reducible show wpAny _ _ (eval (Expr.ListComp _ [Comprehension.mk _ _ [] _] _ _) _) _ _ _); k_dflt (refine LCg.ListComp_U (F₀ := by k_asm) (by with_unfolding_all rfl) (by decide) (by rfl) (by decide) (by rfl) ?_))) | walk1 | (dsimp only; walk1) | fail "no step"))
    unfold Stop
    (rename IntsAre _ (List.take 40 _) => hI3)
    rw [hcis] at hI3
    have hwl3 := hI3.length
    refine LCg.CompSrc.ledger (by rfl) (by k_asm) (by k_asm) (.head _) (by rw [List.size_toArray, sizeLine_eq]; omega) ?_
    intro g2
    refine rest_J (fun i ys nx => nx = _ ∧ ∃ zs, IntsAre ys zs ∧ zs.length = i) ⟨rfl, [], .nil, rfl⟩ ?_ ?_ ?_
    · rintro i ys nx ⟨rfl, _⟩
      exact .inr ⟨_, .head _, rfl, _, rfl⟩
    · rintro i v ys nx I oI C oC D m₂ h tk E' hi hv ⟨rfl, zs, hys, hzl⟩ hC hx F1 N1 off ne
      obtain ⟨u, tu, rfl, hu⟩ := hI3.at i v (by simpa using hv)
      (repeat' (first | (k_unfold; (try dsimp only)) | walk1 | (dsimp only; walk1) | fail "no step"))
      refine LCg.CompEnd.intro (by k_asm) (by k_asm) _ (fun q hq => hq) off trivial ⟨rfl, zs ++ [_], hys.append (.cons _ _ .nil), by simp [hzl]⟩
    · rintro ys3 nx ⟨rfl, zs, hys3, hzl⟩
      intro D2 h2 tk2 F2 N2 off2
      ((try replace off2 := off1_of off2); dsimp only [LCg.Off1] at off2)
      dsimp only
      (repeat' (first | (k_unfold; (try dsimp only)) | (with_reducible ((with_reducible show wpAny _ _ (exec (Stmt.For (Expr.Name _ _) (Expr.Call _ _ _ _) _ _ _) _) _ _ _); (rename Fr _ _ _ _ => lF'); (with_unfolding_all refine' For_invVF lF' ?k1 ?k2 ?_; (case k1 => exact rfl); (case k2 => exact rfl); k_whole))) | walk1 | (dsimp only; walk1) | fail "no step"))
      unfold Stop
      (rename News _ _ _ _ => N9)
      obtain ⟨GN, e⟩ := nameHead N9
      subst e
      obtain ⟨LS, e⟩ := nameHead (news_tl N9)
      subst e
      obtain ⟨BX, e⟩ := nameHead (news_tl (news_tl N9))
      subst e
      obtain ⟨DB, e⟩ := nameHead (news_tl (news_tl (news_tl N9)))
      subst e
      obtain ⟨LN, e⟩ := nameHead (news_tl (news_tl (news_tl (news_tl N9))))
      subst e
      generalize hBO : dictOf _ 7 = ob at N9
      have hob : BoxD 1 1 LS GN ob := (hBO ▸ BoxD.of)
      have hlo0 : ∀ t1 t2, LineO D (listOf #[.ref D, .int 0 t1, .int (1 + (zs.sum).fmod 2147483629) t2] 0) := fun t1 t2 => ⟨_, _, _, _, _, rfl, Int.le_refl _, by have := fmod_lo zs.sum (n := 2147483629) (by decide); omega, by have := fmod_hi zs.sum (n := 2147483629) (by decide); omega⟩
      have N8 := news_pick N9
      clear N9
      (rename Obj.data _ = Data.cell (some _) => dl)
      obtain ⟨oln, e⟩ := nameCell dl
      subst e
      clear hc1
      have hLN : ∀ q ∈ ([(BX, instObj 163 DB), (GN, listOf #[] 0), (D, LCg.lst ys), (s1.heap.objs.size + 1, oln)] : Led), q.1 ≠ LN := all_cons (by k_ne) (all_cons (by k_ne) (all_cons (by k_ne) (all_cons (by k_ne) all_nil)))
      (refine Does.call (by k_asm) (by k_asm) (by k_asm) (by k_asm) (by k_asm) (by exact rfl) (by decide) (by decide) (law_one_does (hlo0 _ _) (by k_mem) hys h40 (all_cons (by k_ne) (all_cons (by k_ne) (all_cons (by k_ne) (all_cons (by k_ne) hLN)))) (by decide) (by decide)) ?_)
      rintro v news1 h5 tk5 F5 N5 ⟨n1, t1, lo1, rfl, hn0, hn9, hlo, rfl⟩
      dsimp only
      (repeat' (first | (k_unfold; (try dsimp only)) | walk1 | (dsimp only; walk1) | fail "no step"))
      unfold Stop
      (rename IsRange _ _ _ _ _ _ _ _ => R9)
      (rename Fr _ _ _ _ => F9)
      (rename News _ _ _ _ => N9)
      obtain ⟨m₀, hm₀, F8⟩ := nameF F9
      clear F9 N8
      have u1 : @Ne Nat LN DB := by k_ne
      have u2 : @Ne Nat LN LS := by k_ne
      have u3 : @Ne Nat LN (s1.heap.objs.size + 1 + 1) := by k_ne
      have u4 : @Ne Nat LN (s1.heap.objs.size + 1 + 1 + 1) := by k_ne
      have u5 : @Ne Nat DB LS := by k_ne
      have u6 : @Ne Nat DB (s1.heap.objs.size + 1 + 1) := by k_ne
      have u7 : @Ne Nat DB (s1.heap.objs.size + 1 + 1 + 1) := by k_ne
      have u8 : @Ne Nat LS (s1.heap.objs.size + 1 + 1) := by k_ne
      have u9 : @Ne Nat LS (s1.heap.objs.size + 1 + 1 + 1) := by k_ne
      have hDB : ∀ q ∈ ([(BX, instObj 163 DB), (GN, listOf #[] 0), (D, LCg.lst ys), (s1.heap.objs.size + 1, oln)] : Led), q.1 ≠ DB := all_cons (by k_ne) (all_cons (by k_ne) (all_cons (by k_ne) (all_cons (by k_ne) all_nil)))
      have hLS : ∀ q ∈ ([(BX, instObj 163 DB), (GN, listOf #[] 0), (D, LCg.lst ys), (s1.heap.objs.size + 1, oln)] : Led), q.1 ≠ LS := all_cons (by k_ne) (all_cons (by k_ne) (all_cons (by k_ne) (all_cons (by k_ne) all_nil)))
      have hCV : ∀ q ∈ ([(BX, instObj 163 DB), (GN, listOf #[] 0), (D, LCg.lst ys), (s1.heap.objs.size + 1, oln)] : Led), q.1 ≠ s1.heap.objs.size + 1 + 1 := all_cons (by k_ne) (all_cons (by k_ne) (all_cons (by k_ne) (all_cons (by k_ne) all_nil)))
      have hCT : ∀ q ∈ ([(BX, instObj 163 DB), (GN, listOf #[] 0), (D, LCg.lst ys), (s1.heap.objs.size + 1, oln)] : Led), q.1 ≠ s1.heap.objs.size + 1 + 1 + 1 := all_cons (by k_ne) (all_cons (by k_ne) (all_cons (by k_ne) (all_cons (by k_ne) all_nil)))
      repeat ((rename _ < _ ∧ _ => lz); clear lz)
      repeat ((rename _ ≠ _ ∧ _ => lz); clear lz)
      generalize hbase : ([(BX, instObj 163 DB), (GN, listOf #[] 0), (D, LCg.lst ys), (s1.heap.objs.size + 1, oln)] : Led) = base at hLN hDB hLS hCV hCT
      rw [hbase] at N9
      obtain ⟨k1, hk1⟩ := nat_of_int hn0
      subst hk1
      have hk9 : k1 ≤ 9 := nat_lt hn9
      refine iter_rng (n := k1) (J1 m₀ LN DB LS GN (s1.heap.objs.size + 1 + 1) (s1.heap.objs.size + 1 + 1 + 1) lo1 ov ot base) (by rfl) R9 (rng_small hk9) (rng_size k1) F8 N9
          ⟨_, ob, [], 0, base, upd_self _, rfl, by simpa using hob, .nil, fun q hq => hq, hLN, hDB, hLS, hCV, hCT⟩ ?_ ?_
--T1{
      · rintro i t m' nx h tk I io hi hlt hoff ⟨e1, ob', lvs, kk, rest', rfl, rfl, hob', hLs, hsub, r1, r2, r3, r4, r5⟩ F1 N1
        subst hm₀
        k_lt hlt
        (repeat' (first | (k_unfold; (try dsimp only)) | walk1 | (dsimp only; walk1) | fail "no step"))
        unfold Stop
        (rename News _ _ _ _ => N7)
        obtain ⟨fl, e⟩ := nameHead N7
        subst e
        have f1 : @Ne Nat fl DB := by k_ne
        have f2 : @Ne Nat fl LS := by k_ne
        have i1 : @Ne Nat I DB := by k_ne
        have i2 : @Ne Nat I LS := by k_ne
        have i3 : ∀ q ∈ rest', q.1 ≠ I := fun q hq => hoff q (by (repeat (first | exact hq | apply List.Mem.tail)))
        have N8 := news_p1 N7
        clear N7
        have hlv := hLs.len
        rw [nums_len] at hlv
        (refine Does.call (by k_asm) (by k_asm) (by k_asm) (by k_asm) (by k_asm) (by exact rfl) (by decide) (by decide) (add_letter_does hob' (.tail _ (.tail _ (.tail _ (.tail _ (.tail _ (hsub _ (hbase ▸ .head _))))))) (.head _) (all_cons f1 (all_cons i1 (all_cons u1 (all_cons u6.symm (all_cons u7.symm r2))))) (all_cons f2 (all_cons i2 (all_cons u2 (all_cons u8.symm (all_cons u9.symm r3))))) u5.symm (hlv ▸ Nat.le_trans (Nat.le_of_lt hi) (Nat.le_trans hk9 (by decide)))) ?_)
        rintro v3 news3 h6 tk6 F6 N6 ⟨ob2, k2, app, rfl, a1, a2, a3, a4, hob2⟩
        dsimp only
        (repeat' (first | (k_unfold; (try dsimp only)) | walk1 | (dsimp only; walk1) | fail "no step"))
        refine TPost.go (nx := (LN, lo1) :: (DB, ob2) :: (LS, listOf ((List.toArray lvs).push v3) k2) :: (s1.heap.objs.size + 1 + 1, ov) :: (s1.heap.objs.size + 1 + 1 + 1, ot) :: (app ++ rest')) (by (first | k_asm | assumption)) (news_add (by (first | k_asm | assumption))) (all_cons (by k_ne) (all_cons (by k_ne) (all_cons (by k_ne) (all_cons (by k_ne) (all_cons (by k_ne) (app_ok a3 (.tail _ (.head _)) i3)))))) 
          ⟨some (.int (0 + (i : Int)) t), ob2, lvs ++ [v3], k2, app ++ rest', upd_upd _, by rw [List.push_toArray], ?_, ?_, fun q hq => List.mem_append_right _ (hsub q hq), app_ok a3 (.tail _ (.tail _ (.head _))) r1, app_ok' a1 r2, app_ok' a2 r3, app_ok a3 (.tail _ (.tail _ (.tail _ (.head _)))) r4, app_ok a3 (.tail _ (.tail _ (.tail _ (.tail _ (.head _))))) r5⟩
        · rw [plus_one]; exact hob2
        · rw [nums_succ]
          rw [Int.add_comm (i : Int) 1]
          exact (hLs.mono fun q hq => List.mem_append_right _ hq).append (.cons (a4.mono fun q hq => List.mem_append_left _ hq) .nil)
--T1}
      · rintro m' nx h tk ⟨e1, ob', lvs, kk, rest', rfl, rfl, hob', hLs, hsub, r1, r2, r3, r4, r5⟩ F1 N1
        subst hm₀
        dsimp only
        (repeat' (first | (k_unfold; (try dsimp only)) | walk1 | (dsimp only; walk1) | fail "no step"))
        unfold Stop
        have hbx : (BX, instObj 163 DB) ∈ rest' := hsub _ (hbase ▸ .head _)
        have hgn : (GN, listOf #[] 0) ∈ rest' := hsub _ (hbase ▸ .tail _ (.head _))
        have hdd : (D, LCg.lst ys) ∈ rest' := hsub _ (hbase ▸ .tail _ (.tail _ (.head _)))
        have hcl : (s1.heap.objs.size + 1, oln) ∈ rest' := hsub _ (hbase ▸ .tail _ (.tail _ (.tail _ (.head _))))
        have h5s : ∀ q ∈ rest', q ∈ (LN, lo1) :: (DB, ob') :: (LS, listOf (List.toArray lvs) kk) :: (s1.heap.objs.size + 1 + 1, ov) :: (s1.heap.objs.size + 1 + 1 + 1, ot) :: rest' := fun q hq => .tail _ (.tail _ (.tail _ (.tail _ (.tail _ hq))))
        (refine Does.call (by k_asm) (by k_asm) (by k_asm) (by k_asm) (by k_asm) (by exact rfl) (by decide) (by decide) (view_does hob' (h5s _ (hsub _ (hbase ▸ .head _))) (.tail _ (.head _)) (.tail _ (.tail _ (.head _))) (hLs.mono h5s) (by rw [nums_len]; exact Nat.le_trans hk9 (by decide))) ?_)
        rintro v news2 h2 tk2 F2 N2 ⟨va, vd, ul, fd, md, uvs, kf, km, of, om, kul, od, rfl, rfl, hv, hIu, hof, hF, hom, hM, q1, q2, q3, q4, q5, v1, v2, v3, lo9, lo8, v4, v5, v6, v7, v8, v9, v10, hkf, hkm⟩
        dsimp only
        ((have kspZ := off1_of q1); (dsimp only [LCg.Off1] at kspZ); first | replace q1 := off_t12 q1 | replace q1 := off_t11 q1 | replace q1 := off_t10 q1 | replace q1 := off_t9 q1 | replace q1 := off_t8 q1 | replace q1 := off_t7 q1 | replace q1 := off_t6 q1 | replace q1 := off_t5 q1 | replace q1 := off_t4 q1 | replace q1 := off_t3 q1 | replace q1 := off_t2 q1 | replace q1 := off_t1 q1)
        ((have kspZ := off1_of q2); (dsimp only [LCg.Off1] at kspZ); first | replace q2 := off_t12 q2 | replace q2 := off_t11 q2 | replace q2 := off_t10 q2 | replace q2 := off_t9 q2 | replace q2 := off_t8 q2 | replace q2 := off_t7 q2 | replace q2 := off_t6 q2 | replace q2 := off_t5 q2 | replace q2 := off_t4 q2 | replace q2 := off_t3 q2 | replace q2 := off_t2 q2 | replace q2 := off_t1 q2)
        ((have kspZ := off1_of q3); (dsimp only [LCg.Off1] at kspZ); first | replace q3 := off_t12 q3 | replace q3 := off_t11 q3 | replace q3 := off_t10 q3 | replace q3 := off_t9 q3 | replace q3 := off_t8 q3 | replace q3 := off_t7 q3 | replace q3 := off_t6 q3 | replace q3 := off_t5 q3 | replace q3 := off_t4 q3 | replace q3 := off_t3 q3 | replace q3 := off_t2 q3 | replace q3 := off_t1 q3)
        ((have kspZ := off1_of q4); (dsimp only [LCg.Off1] at kspZ); first | replace q4 := off_t12 q4 | replace q4 := off_t11 q4 | replace q4 := off_t10 q4 | replace q4 := off_t9 q4 | replace q4 := off_t8 q4 | replace q4 := off_t7 q4 | replace q4 := off_t6 q4 | replace q4 := off_t5 q4 | replace q4 := off_t4 q4 | replace q4 := off_t3 q4 | replace q4 := off_t2 q4 | replace q4 := off_t1 q4)
        ((have kspZ := off1_of q5); (dsimp only [LCg.Off1] at kspZ); first | replace q5 := off_t12 q5 | replace q5 := off_t11 q5 | replace q5 := off_t10 q5 | replace q5 := off_t9 q5 | replace q5 := off_t8 q5 | replace q5 := off_t7 q5 | replace q5 := off_t6 q5 | replace q5 := off_t5 q5 | replace q5 := off_t4 q5 | replace q5 := off_t3 q5 | replace q5 := off_t2 q5 | replace q5 := off_t1 q5)
        have hob2 := hob'
        obtain ⟨bxE, rfl⟩ := hob2
        (repeat' (first | (k_unfold; (try dsimp only)) | (with_reducible ((with_reducible show wpAny _ _ (exec (Stmt.Assign [Expr.Name _ _] (Expr.ListComp _ [Comprehension.mk _ _ [] _] _ _) _) _) _ _ _); k_dflt (refine LCg.Assign_ListComp_U (F₀ := by k_asm) (by rfl) (by with_unfolding_all rfl) (by with_unfolding_all rfl) (by decide) (by rfl) (by decide) (by rfl) (by rfl) (by rfl) ?_))) | walk1 | (dsimp only; walk1) | fail "no step"))
        unfold Stop
        (rename Obj.data _ = Data.cell (some (Value.ref va)) => hcv)
        obtain ⟨ov2, e⟩ := nameCell hcv
        subst e
        refine LCg.CompSrc.ledger (by rfl) (by k_asm) (by k_asm) (by k_mem) (by rw [List.size_toArray, sizeLine_eq, hLs.len, nums_len]; exact Nat.le_trans hk9 (by decide)) ?_
        intro g3
        refine rest_J (fun i ys nx => nx = _ ∧ IntsAre ys ((nums k1).take i)) ⟨rfl, .nil⟩ ?_ ?_ ?_
        · rintro i ys nx ⟨rfl, _⟩
          exact .inr ⟨_, by k_mem, rfl, _, rfl⟩
        · rintro i v ys nx I oI C oC D m₂ h tk E' hi hv ⟨rfl, hys⟩ hC hx F1 N1 off ne
          obtain ⟨u, hu, hA⟩ := hLs.get (i := i) (v := v) (by simpa using hv)
          obtain ⟨al, dl, odl, fl, nf, rfl, hl1, hl2, ⟨ltE, rfl⟩, hl4⟩ := hA
          (repeat' (first | (k_unfold; (try dsimp only)) | walk1 | (dsimp only; walk1) | fail "no step"))
          refine LCg.CompEnd.intro (by k_asm) (by k_asm) _ (fun q hq => hq) off trivial ⟨rfl, ints_snoc hys hu⟩
        · rintro ys nx ⟨rfl, hys⟩
          have hys := ints_full hys (by simpa [nums_len] using hLs.len)
          intro CO h tk F1 N1 off
          dsimp only
          have offc := off1_ne off
          have s2 : ∀ q ∈ rest', q.1 ≠ CO := fun q hq => offc q (by (repeat (first | exact hq | apply List.Mem.tail)))
          ((have kspZ := off1_of offc); (dsimp only [LCg.Off1] at kspZ); first | replace offc := off_t12 offc | replace offc := off_t11 offc | replace offc := off_t10 offc | replace offc := off_t9 offc | replace offc := off_t8 offc | replace offc := off_t7 offc | replace offc := off_t6 offc | replace offc := off_t5 offc | replace offc := off_t4 offc | replace offc := off_t3 offc | replace offc := off_t2 offc | replace offc := off_t1 offc)
          obtain ⟨base2, hb2, N8⟩ := nameN1 (news_ln N1)
          clear N1
          have hLNb : ∀ q ∈ base2, q.1 ≠ LN := by rw [hb2]; exact all_cons (by k_ne) (all_cons (by k_ne) (all_cons (by k_ne) (all_cons (by k_ne) (all_cons (by k_ne) (all_cons (by k_ne) (all_cons (by k_ne) (all_cons (by k_ne) (all_cons (by k_ne) (all_cons (by k_ne) r1)))))))))
          have hCO : (CO, LCg.lst ys) ∈ base2 := by rw [hb2]; exact .head _
          have hrb : ∀ q ∈ rest', q ∈ base2 := by rw [hb2]; exact fun q hq => .tail _ (.tail _ (.tail _ (.tail _ (.tail _ (.tail _ (.tail _ (.tail _ (.tail _ (.tail _ hq)))))))))
          (repeat' (first | (k_unfold; (try dsimp only)) | (with_reducible ((with_reducible show wpAny _ _ (exec (Stmt.Assign [Expr.Name _ _] (Expr.ListComp _ [Comprehension.mk _ _ [_] _] _ _) _) _) _ _ _); k_dflt (refine LCt.Assign_ListComp_T (F₀ := by k_asm) (by rfl) (by with_unfolding_all rfl) (by with_unfolding_all rfl) (by decide) (by rfl) (by decide) (by rfl) (by rfl) (by rfl) ?_))) | walk1 | (dsimp only; walk1) | fail "no step"))
          unfold Stop
          have hdd2 := hrb _ hdd
          have hcl2 := hrb _ hcl
          have hyl := hys.length
          refine LCt.CompSrcT.ledger (by rfl) (by k_asm) (by k_asm) (.tail _ hCO) (by rw [List.size_toArray, sizeLine_eq, hyl, nums_len]; exact Nat.le_trans hk9 (by decide)) ?_
          intro g4
          refine restT_J (J6 LN D base2 k1) ⟨lo1, [], rfl, hlo, .nil, fun z hz => absurd hz List.not_mem_nil, Nat.le_refl 0⟩ ?_ ?_ ?_
          · rintro i zs2 nx ⟨lo, zs, rfl, _⟩
            exact .inr ⟨_, .tail _ hCO, rfl, _, rfl⟩
          · rintro i v zs2 nx I oI C oC D9 m₂ h tk E' hi hv ⟨lo, zs, rfl, hlo2, hz, hzm, hzl⟩ hC hx F1 N1 off ne
            obtain ⟨u, tu, rfl, hu⟩ := hys.at i v (by simpa using hv)
            have hum : u ∈ nums k1 := List.mem_of_getElem? hu
            have N8 := news_4 N1
            clear N1
            have o1 : @Ne Nat I LN := Ne.symm off.1.1
            have o2 : @Ne Nat C LN := Ne.symm off.1.2.1
            have o3 : @Ne Nat D9 LN := Ne.symm off.1.2.2
            (repeat' (first | (k_unfold; (try dsimp only)) | walk1 | (dsimp only; walk1) | fail "no step"))
            unfold Stop
            (refine Does.call (by k_asm) (by k_asm) (by k_asm) (by k_asm) (by k_asm) (by exact rfl) (by decide) (by decide) (law_one_does hlo2 (.tail _ (.tail _ (.tail _ hdd2))) hline h40 (all_cons o1 (all_cons o2 (all_cons o3 hLNb))) (by decide) (by decide)) ?_)
            rintro v news3 h5 tk5 F5 N5 ⟨n1, t1, lo2, rfl, g0, g9, hlo3, rfl⟩
            dsimp only
            (repeat' (first | (k_unfold; (try dsimp only)) | walk1 | (dsimp only; walk1) | fail "no step"))
            all_goals first
              | (refine LCg.CompEnd.intro (by k_asm) (news_4b (by (first | k_asm | assumption))) ((LN, lo2) :: base2) (fun q hq => hq) off trivial ⟨lo2, zs ++ [_], rfl, hlo3, hz.append (.cons _ _ .nil), all_snoc hzm hum, snoc_le hzl⟩)
              | (refine LCg.CompEnd.intro (by k_asm) (news_4b (by (first | k_asm | assumption))) ((LN, lo2) :: base2) (fun q hq => hq) off trivial ⟨lo2, zs, rfl, hlo3, hz, hzm, Nat.le_succ_of_le hzl⟩)
          · rintro zs2 nx ⟨lo, zs, rfl, hlo2, hz, hzm, hzl⟩
            intro GO h tk F1 N1 off
            dsimp only
            (repeat' (first | (k_unfold; (try dsimp only)) | walk1 | (dsimp only; walk1) | fail "no step"))
            unfold Stop
            (rename News _ _ _ _ => N7)
            have offg := off1_ne off
            subst hb2
            ((have kspZ := off1_of offg); (dsimp only [LCg.Off1] at kspZ); first | replace offg := off_t12 offg | replace offg := off_t11 offg | replace offg := off_t10 offg | replace offg := off_t9 offg | replace offg := off_t8 offg | replace offg := off_t7 offg | replace offg := off_t6 offg | replace offg := off_t5 offg | replace offg := off_t4 offg | replace offg := off_t3 offg | replace offg := off_t2 offg | replace offg := off_t1 offg)
            obtain ⟨rest2, hr2, N8⟩ := nameN8 (news_ex N7)
            clear N7 N1
            have g1 : ∀ q ∈ rest2, q.1 ≠ LN := by rw [hr2]; exact all_cons (by k_ne) (all_cons (by k_ne) (all_cons (by k_ne) (all_cons (by k_ne) r1)))
            have g2 : ∀ q ∈ rest2, q.1 ≠ DB := by rw [hr2]; exact all_cons (by k_ne) (all_cons (by k_ne) (all_cons (by k_ne) (all_cons (by k_ne) r2)))
            have g3 : ∀ q ∈ rest2, q.1 ≠ LS := by rw [hr2]; exact all_cons (by k_ne) (all_cons (by k_ne) (all_cons (by k_ne) (all_cons (by k_ne) r3)))
            have g4 : ∀ q ∈ rest2, q.1 ≠ s1.heap.objs.size + 1 + 1 + 1 := by rw [hr2]; exact all_cons (by k_ne) (all_cons (by k_ne) (all_cons (by k_ne) (all_cons (by k_ne) r5)))
            have g5 : ∀ q ∈ rest2, q.1 ≠ vd := by rw [hr2]; exact all_cons (by k_ne) (all_cons (by k_ne) (all_cons (by k_ne) (all_cons (by k_ne) q1)))
            have g6 : ∀ q ∈ rest2, q.1 ≠ ul := by rw [hr2]; exact all_cons (by k_ne) (all_cons (by k_ne) (all_cons (by k_ne) (all_cons (by k_ne) q2)))
            have g7 : ∀ q ∈ rest2, q.1 ≠ fd := by rw [hr2]; exact all_cons (by k_ne) (all_cons (by k_ne) (all_cons (by k_ne) (all_cons (by k_ne) q3)))
            have g8 : ∀ q ∈ rest2, q.1 ≠ md := by rw [hr2]; exact all_cons (by k_ne) (all_cons (by k_ne) (all_cons (by k_ne) (all_cons (by k_ne) q4)))
            have s9 : ∀ q ∈ rest', q ∈ rest2 := by rw [hr2]; exact fun q hq => .tail _ (.tail _ (.tail _ (.tail _ hq)))
            have mGO : (GO, LCg.lst zs2) ∈ rest2 := by rw [hr2]; exact .head _
            have mCO : (CO, LCg.lst ys) ∈ rest2 := by rw [hr2]; exact .tail _ (.head _)
            have mva : (va, instObj 296 vd) ∈ rest2 := by rw [hr2]; exact .tail _ (.tail _ (.head _))
            have mcv : (s1.heap.objs.size + 1 + 1, ov2) ∈ rest2 := by rw [hr2]; exact .tail _ (.tail _ (.tail _ (.head _)))
            have mbx := s9 _ hbx
            have mgn := s9 _ hgn
            have mdd := s9 _ hdd
            have mcl := s9 _ hcl
            have hF2 : FlagsD rest2 (nums k1) kf := (((((hF.drop hlo.cls).drop (fun e => by injection e with e; exact absurd e (by decide))).drop (fun e => by injection e with e; exact absurd e (by decide))).dropC hc2).dropC hc3).mono s9
            have hLs1 := hLs.mono s9
            have hgl : zs.length ≤ 1000 := Nat.le_trans hzl (by rw [List.size_toArray, hyl, nums_len]; exact Nat.le_trans hk9 (by decide))
            clear hr2
            (refine Does.call (by k_asm) (by k_asm) (by k_asm) (by k_asm) (by k_asm) (by exact rfl) (by decide) (by decide) (expunge_does hob' (.tail _ (.tail _ (.tail _ (.tail _ (.tail _ (.tail _ mbx)))))) (.tail _ (.tail _ (.tail _ (.tail _ (.tail _ (.tail _ mGO)))))) (.tail _ (.tail _ (.tail _ (.tail _ (.tail _ (.tail _ mgn)))))) (all_cons (by k_ne) (all_cons (by k_ne) (all_cons (by k_ne) (all_cons (by k_ne) (all_cons (by k_ne) (all_cons (by k_ne) g2)))))) (all_cons (by k_ne) (all_cons (by k_ne) (all_cons (by k_ne) (all_cons (by k_ne) (all_cons (by k_ne) (all_cons (by k_ne) g3)))))) u5.symm (hLs1.mono fun q hq => .tail _ (.tail _ (.tail _ (.tail _ (.tail _ (.tail _ hq)))))) hLs1 hz (by rw [nums_len]; exact Nat.le_trans hk9 (by decide)) hgl) ?_)
            rintro v news2 h2 tk2 F2 N2 ⟨ob2, LS2, gn2, top2, vs2, kls2, rfl, x1, x2, hLs2, hob2⟩
            dsimp only
            ((have kspZ := off1_of x1); (dsimp only [LCg.Off1] at kspZ); first | replace x1 := off_t12 x1 | replace x1 := off_t11 x1 | replace x1 := off_t10 x1 | replace x1 := off_t9 x1 | replace x1 := off_t8 x1 | replace x1 := off_t7 x1 | replace x1 := off_t6 x1 | replace x1 := off_t5 x1 | replace x1 := off_t4 x1 | replace x1 := off_t3 x1 | replace x1 := off_t2 x1 | replace x1 := off_t1 x1)
            (repeat' (first | (k_unfold; (try dsimp only)) | (with_reducible ((with_reducible show wpAny _ _ (exec (Stmt.For (Expr.Name _ _) (Expr.Call _ _ _ _) _ _ _) _) _ _ _); (rename Fr _ _ _ _ => lF'); (with_unfolding_all refine' For_invVF lF' ?k1 ?k2 ?_; (case k1 => exact rfl); (case k2 => exact rfl); k_whole))) | walk1 | (dsimp only; walk1) | fail "no step"))
            unfold Stop
            (rename News _ _ _ _ => N7)
            have N8 := news_3 N7
            clear N7
            (refine Does.call (by k_asm) (by k_asm) (by k_asm) (by k_asm) (by k_asm) (by exact rfl) (by decide) (by decide) (law_one_does hlo2 (.tail _ (.tail _ (.tail _ (.tail _ (.tail _ (.tail _ (.tail _ mdd))))))) hline h40 (all_cons (by k_ne) (all_cons (by k_ne) (all_cons (by k_ne) (all_cons (by k_ne) (all_cons (by k_ne) (all_cons (by k_ne) (all_cons (by k_ne) g1))))))) (by decide) (by decide)) ?_)
            rintro v news3 h5 tk5 F5 N5 ⟨n2, t2, lo3, rfl, hm0, hm9, hlo3, rfl⟩
            dsimp only
            obtain ⟨k2, hk2⟩ := nat_of_int hm0
            subst hk2
            have hk3' : Stop (k2 ≤ 2) := nat_lt hm9
            clear hm9
            (repeat' (first | (k_unfold; (try dsimp only)) | walk1 | (dsimp only; walk1) | fail "no step"))
            unfold Stop
            (rename IsRange _ _ _ _ _ _ _ _ => R9)
            (rename Fr _ _ _ _ => F9)
            (rename News _ _ _ _ => N9)
            obtain ⟨m₁, hm₁, F8⟩ := nameF F9
            clear F9 N8
            have hk3 : k2 ≤ 2 := hk3'
            have hk10 : k2 ≤ 9 := Nat.le_trans hk3 (by decide)
            refine iter_rng (n := k2) (J2 m₁ LN DB LS2 gn2 (s1.heap.objs.size + 1 + 1 + 1) vd ul fd md lo3 ot od of om uvs kul rest2 k1 zs top2) (by rfl) R9 (rng_small hk10) (rng_size k2) F8 N9
                ⟨_, ob2, vs2, _, rest2, upd_self _, rfl, by simpa using hob2, ?_, fun q hq => hq, g1, g2, x1, g4, g5, g6, g7, g8⟩ ?_ ?_
            · rw [usOf_zero]; exact hLs2
--T2{
            · rintro i t m' nx h tk I io hi hlt hoff ⟨e1, ob', lvs, kk, rest3, rfl, rfl, hob', hLs, hsub, r1, r2, r3, r4, r5, r6, r7, r8⟩ F1 N1
              subst hm₁
              k_lt hlt
              have tbx := hsub _ mbx
              (repeat' (first | (k_unfold; (try dsimp only)) | walk1 | (dsimp only; walk1) | fail "no step"))
              unfold Stop
              (rename News _ _ _ _ => N7)
              obtain ⟨fl, e⟩ := nameHead N7
              subst e
              ((have kspZ := off1_of hoff); (dsimp only [LCg.Off1] at kspZ); first | replace hoff := off_t12 hoff | replace hoff := off_t11 hoff | replace hoff := off_t10 hoff | replace hoff := off_t9 hoff | replace hoff := off_t8 hoff | replace hoff := off_t7 hoff | replace hoff := off_t6 hoff | replace hoff := off_t5 hoff | replace hoff := off_t4 hoff | replace hoff := off_t3 hoff | replace hoff := off_t2 hoff | replace hoff := off_t1 hoff)
              have f1 : @Ne Nat fl DB := by k_ne
              have f2 : @Ne Nat fl LS2 := by k_ne
              have N8 := news_p1 N7
              clear N7
              have hlv := hLs.len
              have hll : lvs.length ≤ 1000 := hlv ▸ Nat.le_trans (usOf_len k1 zs i) (Nat.le_trans (Nat.add_le_add hk9 (Nat.le_trans (Nat.le_of_lt hi) hk10)) (by decide))
              (refine Does.call (by k_asm) (by k_asm) (by k_asm) (by k_asm) (by k_asm) (by exact rfl) (by decide) (by decide) (add_letter_does hob' (.tail _ (.tail _ (.tail _ (.tail _ (.tail _ (.tail _ (.tail _ (.tail _ tbx)))))))) (.head _) (all_cons f1 (all_cons (by k_ne) (all_cons (by k_ne) (all_cons (by k_ne) (all_cons (by k_ne) (all_cons (by k_ne) (all_cons (by k_ne) (all_cons (by k_ne) r2)))))))) (all_cons f2 (all_cons (by k_ne) (all_cons (by k_ne) (all_cons (by k_ne) (all_cons (by k_ne) (all_cons (by k_ne) (all_cons (by k_ne) (all_cons (by k_ne) r3)))))))) (by k_ne) hll) ?_)
              rintro v3 news3 h6 tk6 F6 N6 ⟨ob3, k3, app, rfl, a1, a2, a3, a4, hob3⟩
              dsimp only
              (repeat' (first | (k_unfold; (try dsimp only)) | walk1 | (dsimp only; walk1) | fail "no step"))
              refine TPost.go (nx := (LN, lo3) :: (DB, ob3) :: (LS2, listOf ((List.toArray lvs).push v3) k3) :: (s1.heap.objs.size + 1 + 1 + 1, ot) :: (vd, od) :: (ul, listOf (List.toArray uvs) kul) :: (fd, of) :: (md, om) :: (app ++ rest3)) (by (first | k_asm | assumption)) (news_add2 (by (first | k_asm | assumption))) (all_cons (by k_ne) (all_cons (by k_ne) (all_cons (by k_ne) (all_cons (by k_ne) (all_cons (by k_ne) (all_cons (by k_ne) (all_cons (by k_ne) (all_cons (by k_ne) (app_ok a3 (.tail _ (.head _)) hoff)))))))))
                ⟨some (.int (0 + (i : Int)) t), ob3, lvs ++ [v3], k3, app ++ rest3, upd_upd _, by rw [List.push_toArray], ?_, ?_, fun q hq => List.mem_append_right _ (hsub q hq), app_ok a3 (.tail _ (.tail _ (.head _))) r1, app_ok' a1 r2, app_ok' a2 r3, app_ok a3 (.tail _ (.tail _ (.tail _ (.head _)))) r4, app_ok a3 (.tail _ (.tail _ (.tail _ (.tail _ (.head _))))) r5, app_ok a3 (.tail _ (.tail _ (.tail _ (.tail _ (.tail _ (.head _)))))) r6, app_ok a3 (.tail _ (.tail _ (.tail _ (.tail _ (.tail _ (.tail _ (.head _))))))) r7, app_ok a3 (.tail _ (.tail _ (.tail _ (.tail _ (.tail _ (.tail _ (.tail _ (.head _)))))))) r8⟩
              · rw [plus_gen, plus_gen]; exact hob3
              · rw [usOf_succ, uid_next]
                exact (hLs.mono fun q hq => List.mem_append_right _ hq).append (.cons (a4.mono fun q hq => List.mem_append_left _ hq) .nil)
--T2}
            · rintro m' nx h tk ⟨e2, ob3, lvs3, kk3, rest3, rfl, rfl, hob3, hLs3, hsub3, r1, r2, r3, r4, r5, r6, r7, r8⟩ F1 N1
              subst hm₁
              dsimp only
              have tbx := hsub3 _ mbx
              have tdd := hsub3 _ mdd
              have tcl := hsub3 _ mcl
              have tva := hsub3 _ mva
              have tcv := hsub3 _ mcv
              have tCO := hsub3 _ mCO
              have tGO := hsub3 _ mGO
              have hF3 := hF2.mono hsub3
              have hLap : LapF 0 (nums k1) zs (usOf k1 zs k2) kf.length km.length := LapF.start hk9 hzm (Nat.le_trans hzl (by rw [List.size_toArray, hyl, nums_len]; exact Nat.le_refl _)) hkf hkm
              have hus1 := usOf_sorted k1 zs k2
              have hus2 := usOf_pos (k1 := k1) (gs := zs) (k2 := k2)
              have hus3 : (usOf k1 zs k2).length ≤ 11 := Nat.le_trans (usOf_len k1 zs k2) (Nat.add_le_add hk9 hk3)
              generalize usOf k1 zs k2 = us at hLap hus1 hus2 hus3 hLs3
              have hob4 := hob3
              obtain ⟨bxE, rfl⟩ := hob4
              (repeat' (first | (k_unfold; (try dsimp only)) | (with_reducible ((with_reducible show wpAny _ _ (eval (Expr.ListComp _ [Comprehension.mk _ _ [] _] _ _) _) _ _ _); k_dflt (refine LCg.ListComp_U (F₀ := by k_asm) (by with_unfolding_all rfl) (by decide) (by rfl) (by decide) (by rfl) ?_))) | walk1 | (dsimp only; walk1) | fail "no step"))
              unfold Stop
              refine LCg.CompSrc.ledger (by rfl) (by k_asm) (by k_asm) (by k_mem) (by rw [List.size_toArray, sizeLine_eq, hLs3.len]; exact Nat.le_trans hus3 (by decide)) ?_
              intro g3
              refine rest_J (fun i ys nx => nx = _ ∧ IntsAre ys (us.take i)) ⟨rfl, .nil⟩ ?_ ?_ ?_
              · rintro i ys nx ⟨rfl, _⟩
                exact .inr ⟨_, by k_mem, rfl, _, rfl⟩
--T3{
              · rintro i v ys nx I oI C oC D m₂ h tk E' hi hv ⟨rfl, hys⟩ hC hx F1 N1 off ne
                obtain ⟨u, hu, hA⟩ := hLs3.get (i := i) (v := v) (by simpa using hv)
                obtain ⟨al, dl, odl, fl, nf, rfl, hl1, hl2, ⟨ltE, rfl⟩, hl4⟩ := hA
                (repeat' (first | (k_unfold; (try dsimp only)) | walk1 | (dsimp only; walk1) | fail "no step"))
                refine LCg.CompEnd.intro (by k_asm) (by k_asm) _ (fun q hq => hq) off trivial ⟨rfl, ints_snoc hys hu⟩
--T3}
              · rintro tvs nx ⟨rfl, htv⟩
                have htv := ints_full htv (by simpa using hLs3.len)
                intro TH h tk F1 N1 off
                dsimp only
                have offt := off1_ne off
                ((have kspZ := off1_of offt); (dsimp only [LCg.Off1] at kspZ); first | replace offt := off_t12 offt | replace offt := off_t11 offt | replace offt := off_t10 offt | replace offt := off_t9 offt | replace offt := off_t8 offt | replace offt := off_t7 offt | replace offt := off_t6 offt | replace offt := off_t5 offt | replace offt := off_t4 offt | replace offt := off_t3 offt | replace offt := off_t2 offt | replace offt := off_t1 offt)
                (repeat' (first | (k_unfold; (try dsimp only)) | walk1 | (dsimp only; walk1) | fail "no step"))
                unfold Stop
                (rename Obj.data _ = Data.cell (some (Value.ref TH)) => hct)
                obtain ⟨ot2, e⟩ := nameCell hct
                subst e
                (rename IsRange _ _ _ _ _ _ _ _ => R9)
                (rename Fr _ _ _ _ => F9)
                (rename News _ _ _ _ => N7)
                obtain ⟨m₂, hm₂, F8⟩ := nameF F9
                have hmG : m₂ (Str.ofString "gone") = some (.ref GO) := by rw [hm₂]; rfl
                have hmC : m₂ (Str.ofString "counted") = some (.ref CO) := by rw [hm₂]; rfl
                clear F9
                generalize hBO3 : boxObj _ _ _ _ _ = ob5 at N7 hob3
                obtain ⟨rest9, hr9, N8⟩ := nameN7 (news_lap N7 tCO tGO)
                clear N7
                have w1 : ∀ q ∈ rest9, q.1 ≠ LN := by rw [hr9]; exact all_cons (by k_ne) (all_cons (by k_ne) (all_cons (by k_ne) (all_cons (by k_ne) r1)))
                have w2 : ∀ q ∈ rest9, q.1 ≠ vd := by rw [hr9]; exact all_cons (by k_ne) (all_cons (by k_ne) (all_cons (by k_ne) (all_cons (by k_ne) r5)))
                have w3 : ∀ q ∈ rest9, q.1 ≠ ul := by rw [hr9]; exact all_cons (by k_ne) (all_cons (by k_ne) (all_cons (by k_ne) (all_cons (by k_ne) r6)))
                have w4 : ∀ q ∈ rest9, q.1 ≠ fd := by rw [hr9]; exact all_cons (by k_ne) (all_cons (by k_ne) (all_cons (by k_ne) (all_cons (by k_ne) r7)))
                have w5 : ∀ q ∈ rest9, q.1 ≠ md := by rw [hr9]; exact all_cons (by k_ne) (all_cons (by k_ne) (all_cons (by k_ne) (all_cons (by k_ne) r8)))
                have s10 : ∀ q ∈ rest3, q ∈ rest9 := by rw [hr9]; exact fun q hq => .tail _ (.tail _ (.tail _ (.tail _ hq)))
                have mTH : (TH, LCg.lst tvs) ∈ rest9 := by rw [hr9]; exact .head _
                have mDB : (DB, ob5) ∈ rest9 := by rw [hr9]; exact .tail _ (.head _)
                have mLS : (LS2, listOf (List.toArray lvs3) kk3) ∈ rest9 := by rw [hr9]; exact .tail _ (.tail _ (.head _))
                have mct : (s1.heap.objs.size + 1 + 1 + 1, ot2) ∈ rest9 := by rw [hr9]; exact .tail _ (.tail _ (.tail _ (.head _)))
                clear hr9
                have ybx := s10 _ tbx
                have ydd := s10 _ tdd
                have ycl := s10 _ tcl
                have yva := s10 _ tva
                have ycv := s10 _ tcv
                have hF9 := hF3.mono s10
                have hLs9 := hLs3.mono s10
                have z1 : @Ne Nat LN vd := by k_ne
                have z2 : @Ne Nat LN ul := by k_ne
                have z3 : @Ne Nat LN fd := by k_ne
                have z4 : @Ne Nat LN md := by k_ne
                have c1 : @Ne Nat CO LN := by k_ne
                have c2 : @Ne Nat CO vd := by k_ne
                have c3 : @Ne Nat CO ul := by k_ne
                have c4 : @Ne Nat CO fd := by k_ne
                have c5 : @Ne Nat CO md := by k_ne
                have e1 : @Ne Nat GO LN := by k_ne
                have e2 : @Ne Nat GO vd := by k_ne
                have e3 : @Ne Nat GO ul := by k_ne
                have e4 : @Ne Nat GO fd := by k_ne
                have e5 : @Ne Nat GO md := by k_ne
                have zz : True → (@Ne Nat LN vd ∧ @Ne Nat LN fd ∧ @Ne Nat LN md ∧ @Ne Nat vd fd ∧ @Ne Nat vd md ∧ @Ne Nat fd md) := fun _ => ⟨z1, z3, z4, v1, v2, v3⟩
                clear hLN hDB hLS hCV hCT
                refine iter_rngC (n := 2) (J3 _ m₂ LN vd fd md D BX us rest9) (by rfl) R9 (rng_small (k := 2) (by decide)) (rng_size 2) F8 N8
                    ⟨_, _, _, lo3, od, of, om, ul, uvs, kul, kf, km, CO, GO, _, _, _, _, nums k1, zs, upd_self5' hmG hmC, rfl, hlo3, hv, hIu, hys, hz, hof, hF9, hom, hM, hLap, w3, v4, v5, v6, z2, ⟨c1, c2, c3, c4, c5⟩, ⟨e1, e2, e3, e4, e5⟩⟩ ?_ ?_
                · clear hF9 hLap hLs3 hF3 hLs hv hIu hof hF hom hM hmG hmC w3 hsub3 hLs2 x1
                  (repeat ((rename @Ne Nat _ _ => kz); clear kz))
                  (repeat ((rename @Ne Nat _ _ ∧ _ => kz); clear kz))
                  have zz := zz trivial
                  obtain ⟨z1, z3, z4, v1, v2, v3⟩ := zz
                  rintro i t m' nx h tk I io hi hlt hoff hio ⟨eP, eI, eL, lo, od, of, om, ul, uvs, kul, kf, km, CO, GO, cvs, gvs, kc, kg, cs, gs, rfl, rfl, hlo, hv, hIu, hIc, hIg, hof, hF, hom, hM, hLap, x1, x2, x3, x4, x5, ⟨c1, c2, c3, c4, c5⟩, ⟨e1, e2, e3, e4, e5⟩⟩ F1 N1
                  subst hm₂
                  k_lt hlt
                  (repeat' (first | (k_unfold; (try dsimp only)) | walk1 | (dsimp only; walk1) | fail "no step"))
                  unfold Stop
                  (rename Fr _ _ _ _ => F9)
                  (rename News _ _ _ _ => N9)
                  obtain ⟨m₃, hm₃, F8⟩ := nameF F9
                  clear F9
                  obtain ⟨TP, e⟩ := nameHead N9
                  subst e
                  ((have kspZ := off1_of hoff); (dsimp only [LCg.Off1] at kspZ); first | replace hoff := off_t12 hoff | replace hoff := off_t11 hoff | replace hoff := off_t10 hoff | replace hoff := off_t9 hoff | replace hoff := off_t8 hoff | replace hoff := off_t7 hoff | replace hoff := off_t6 hoff | replace hoff := off_t5 hoff | replace hoff := off_t4 hoff | replace hoff := off_t3 hoff | replace hoff := off_t2 hoff | replace hoff := off_t1 hoff)
                  obtain ⟨R, hR, N8⟩ := nameN1 (news_3 N9)
                  clear N9
                  have hRL : ∀ q ∈ R, q.1 ≠ LN := by rw [hR]; exact all_cons (by k_ne) (all_cons (by k_ne) (all_cons z1.symm (all_cons z3.symm (all_cons z4.symm (all_cons x5.symm (all_cons c1 (all_cons e1 w1)))))))
                  have MTP : (TP, tupOf #[.bool false, .bool true] 0) ∈ R := by rw [hR]; exact .head _
                  have Mvd : (vd, od) ∈ R := by rw [hR]; exact .tail _ (.tail _ (.head _))
                  have Mul : (ul, listOf (List.toArray uvs) kul) ∈ R := by rw [hR]; exact .tail _ (.tail _ (.tail _ (.tail _ (.tail _ (.head _)))))
                  have MCO : (CO, listOf (List.toArray cvs) kc) ∈ R := by rw [hR]; exact .tail _ (.tail _ (.tail _ (.tail _ (.tail _ (.tail _ (.head _))))))
                  have MGO : (GO, listOf (List.toArray gvs) kg) ∈ R := by rw [hR]; exact .tail _ (.tail _ (.tail _ (.tail _ (.tail _ (.tail _ (.tail _ (.head _)))))))
                  have hRs : ∀ q ∈ rest9, q ∈ R := by rw [hR]; exact fun q hq => .tail _ (.tail _ (.tail _ (.tail _ (.tail _ (.tail _ (.tail _ (.tail _ hq)))))))
                  have Mbx := hRs _ ybx
                  have Mdd := hRs _ ydd
                  have Mcl := hRs _ ycl
                  have Mva := hRs _ yva
                  have Mcv := hRs _ ycv
                  have MTH : (TH, listOf (List.toArray tvs) tvs.length) ∈ R := hRs _ mTH
                  have MDB := hRs _ mDB
                  have MLS := hRs _ mLS
                  have Mct := hRs _ mct
                  have hLR := hLs9.mono hRs
                  refine turns_tup (vs := [.bool false, .bool true]) (J4 m₃ LN D R) (by rfl) F8 N8 (.tail _ MTP) ⟨_, _, lo, upd_self2 _, rfl, hlo⟩ ?_ ?_ ?_
                  · rintro j m'' nx' ⟨eP, eI, lo, rfl, rfl, _⟩
                    exact .tail _ MTP
--T4{
                  · rintro j v m'' nx' h tk I2 io2 hvj hlt2 hoff2 ⟨eP2, eI2, lo2, rfl, rfl, hlo2⟩ F2 N2
                    clear hR
                    subst hm₃
                    k_lt hlt2
                    obtain ⟨b, rfl⟩ : ∃ b, v = .bool b := by
                      rcases j with _ | _ | j
                      · exact ⟨false, by simpa using hvj.symm⟩
                      · exact ⟨true, by simpa using hvj.symm⟩
                      · simp at hvj
                    ((have kspZ := off1_of hoff2); (dsimp only [LCg.Off1] at kspZ); first | replace hoff2 := off_t12 hoff2 | replace hoff2 := off_t11 hoff2 | replace hoff2 := off_t10 hoff2 | replace hoff2 := off_t9 hoff2 | replace hoff2 := off_t8 hoff2 | replace hoff2 := off_t7 hoff2 | replace hoff2 := off_t6 hoff2 | replace hoff2 := off_t5 hoff2 | replace hoff2 := off_t4 hoff2 | replace hoff2 := off_t3 hoff2 | replace hoff2 := off_t2 hoff2 | replace hoff2 := off_t1 hoff2)
                    have i2 : @Ne Nat I2 LN := by k_ne
                    (repeat' (first | (k_unfold; (try dsimp only)) | (with_reducible ((with_reducible show wpAny _ _ (eval (Expr.ListComp _ [Comprehension.mk _ _ [] _] _ _) _) _ _ _); k_dflt (refine LCg.ListComp_U (F₀ := by k_asm) (by with_unfolding_all rfl) (by decide) (by rfl) (by decide) (by rfl) ?_))) | walk1 | (dsimp only; walk1) | fail "no step"))
                    unfold Stop
                    (rename News _ _ _ _ => N7)
                    have N8 := news_swap N7
                    clear N7
                    (refine Does.call (by k_asm) (by k_asm) (by k_asm) (by k_asm) (by k_asm) (by exact rfl) (by decide) (by decide) (law_one_does hlo2 (.tail _ Mdd) hline h40 (all_cons i2 hRL) (by decide) (by decide)) ?_)
                    rintro v news3 h5 tk5 F5 N5 ⟨n3, t3, lo3, rfl, ha0, ha9, hlo3, rfl⟩
                    dsimp only
                    obtain ⟨k3, hk3n⟩ := nat_of_int ha0
                    subst hk3n
                    have hk4 : Stop (k3 ≤ 2) := nat_lt ha9
                    clear ha9 ha0
                    (repeat' (first | (k_unfold; (try dsimp only)) | walk1 | (dsimp only; walk1) | fail "no step"))
                    unfold Stop
                    have hk4 : k3 ≤ 2 := hk4
                    (rename IsRange _ _ _ _ _ _ _ _ => R9)
                    (rename News _ _ _ _ => N9)
                    obtain ⟨R2, hR2, N8⟩ := nameN1 N9
                    clear N9
                    have hR2L : ∀ q ∈ R2, q.1 ≠ LN := by rw [hR2]; exact all_cons i2 hRL
                    have hRR2 : ∀ q ∈ R, q ∈ R2 := by rw [hR2]; exact fun q hq => .tail _ hq
                    have hI2R : (I2, io2) ∈ R2 := by rw [hR2]; exact .head _
                    clear hR2
                    refine LCg.CompSrc.range (by rfl) (by k_asm) (by k_asm) R9 (rng_small' hk4) (rng_size' k3) (by rw [sizeLine_eq]; exact Nat.le_trans (Nat.succ_le_succ hk4) (by decide)) ?_
                    intro g3
                    refine rest_J (J5 LN D R2) ⟨lo3, [], R2, rfl, hlo3, fun q hq => hq, hR2L, .nil, rfl⟩ ?_ ?_ ?_
                    · intro i ys nx _
                      exact trivial
--T5{
                    · rintro i v ys nx I3 oI3 C oC D9 m₄ h tk E' hi hv ⟨lo, qs, nx', rfl, hlo, hs, ho, hps, hql⟩ hC hx F1 N1 off ne
                      obtain ⟨tv, rfl⟩ := hv
                      have o1 : @Ne Nat I3 LN := Ne.symm off.1.1
                      have o2 : @Ne Nat C LN := Ne.symm off.1.2.1
                      have o3 : @Ne Nat D9 LN := Ne.symm off.1.2.2
                      have qdd := hs _ (hRR2 _ Mdd)
                      have qcl := hs _ (hRR2 _ Mcl)
                      have N8 := news_4 N1
                      clear N1
                      (repeat' (first | (k_unfold; (try dsimp only)) | walk1 | (dsimp only; walk1) | fail "no step"))
                      unfold Stop
                      (refine Does.call (by k_asm) (by k_asm) (by k_asm) (by k_asm) (by k_asm) (by exact rfl) (by decide) (by decide) (law_one_does hlo (.tail _ (.tail _ (.tail _ qdd))) hline h40 (all_cons o1 (all_cons o2 (all_cons o3 ho))) (by decide) (by decide)) ?_)
                      rintro v news3 h5 tk5 F5 N5 ⟨n4, t4, lo4, rfl, ha0, ha9, hlo4, rfl⟩
                      dsimp only
                      (repeat' (first | (k_unfold; (try dsimp only)) | walk1 | (dsimp only; walk1) | fail "no step"))
                      unfold Stop
                      (refine Does.call (by k_asm) (by k_asm) (by k_asm) (by k_asm) (by k_asm) (by exact rfl) (by decide) (by decide) (law_one_does hlo4 (.tail _ (.tail _ (.tail _ qdd))) hline h40 (all_cons o1 (all_cons o2 (all_cons o3 ho))) (by decide) (by decide)) ?_)
                      rintro v news3 h6 tk6 F6 N6 ⟨n5, t5, lo5, rfl, hb0, hb9, hlo5, rfl⟩
                      dsimp only
                      (repeat' (first | (k_unfold; (try dsimp only)) | walk1 | (dsimp only; walk1) | fail "no step"))
                      (rename News _ _ _ _ => N9)
                      obtain ⟨T, e⟩ := nameHead N9
                      subst e
                      have p1 : @Ne Nat T LN := by k_ne
                      have p2 : @Ne Nat T I3 := by k_ne
                      have p3 : @Ne Nat T C := by k_ne
                      have p4 : @Ne Nat T D9 := by k_ne
                      refine LCg.CompEnd.intro (by k_asm) (news_5 N9) _ (fun q hq => hq) ⟨off.1, ⟨p2, p3, p4⟩, off.2⟩ trivial ⟨lo5, qs ++ [(n4, n5)], (T, tupOf #[.int n4 t4, .int n5 t5] _) :: nx', rfl, hlo5, fun q hq => .tail _ (hs q hq), all_cons p1 ho, (hps.mono fun q hq => .tail _ hq).append (.cons ⟨T, t4, t5, _, rfl, .head _⟩ .nil), by rw [List.length_append, hql]; rfl⟩
--T5}
                    · rintro pvs nx ⟨lo4, qs, R3, rfl, hlo4, hs3, hR3L, hps, hql⟩
                      intro D10 h tk F1 N1 off
                      have hpl := hps.len
                      have hpl3 : pvs.length ≤ 3 := by rw [hpl, hql]; exact Nat.succ_le_succ hk4
                      dsimp only
                      have offd := off1_ne off
                      ((have kspZ := off1_of offd); (dsimp only [LCg.Off1] at kspZ); first | replace offd := off_t12 offd | replace offd := off_t11 offd | replace offd := off_t10 offd | replace offd := off_t9 offd | replace offd := off_t8 offd | replace offd := off_t7 offd | replace offd := off_t6 offd | replace offd := off_t5 offd | replace offd := off_t4 offd | replace offd := off_t3 offd | replace offd := off_t2 offd | replace offd := off_t1 offd)
                      (repeat' (first | (k_unfold; (try dsimp only)) | (with_reducible ((with_reducible show wpAny _ _ (call (Value.type "tuple") [Value.ref _]) _ _ _); refine Stop.out ?_)) | walk1 | (dsimp only; walk1) | fail "no step"))
                      unfold Stop
                      refine kde_tupleOf (zs := pvs) (by k_asm) (by k_asm) (News.isList (by k_asm) (.head _)) (by rw [List.size_toArray]; exact Nat.le_trans hpl3 (by decide)) rfl ?_
                      intro PT h9 F9 N9 l9
                      (rename Fr _ _ _ _ => F9)
                      have N10 := news_sub (l' := (LN, lo4) :: (PT, tupOf (List.toArray pvs) 0) :: R3) N9 (sub_cons (.tail _ (.tail _ (.head _))) (sub_cons (.head _) (fun q hq => .tail _ (.tail _ (.tail _ hq)))))
                      have pL : @Ne Nat PT LN := fun e => Nat.lt_irrefl _ (e ▸ l9 _ (.tail _ (.head _)))
                      clear N9 l9
                      have R3s : ∀ q ∈ R, q ∈ R3 := fun q hq => hs3 q (hRR2 q hq)
                      have Tbx := R3s _ Mbx
                      have Tcl := R3s _ Mcl
                      have Tva := R3s _ Mva
                      have Tvd := R3s _ Mvd
                      have Tul := R3s _ Mul
                      have Tcv := R3s _ Mcv
                      have TCO := R3s _ MCO
                      have TTH := R3s _ MTH
                      have TDB := R3s _ MDB
                      have TLS := R3s _ MLS
                      have Tct := R3s _ Mct
                      (repeat' (first | (k_unfold; (try dsimp only)) | walk1 | (dsimp only; walk1) | fail "no step"))
                      unfold Stop
                      (refine Does.call (by k_asm) (by k_asm) (by k_asm) (by k_asm) (by k_asm) (by exact rfl) (by decide) (by decide) (there_in_does hv (.tail _ (.tail _ Tva)) (.tail _ (.tail _ Tvd)) (.tail _ (.tail _ Tul)) hIu (.tail _ (.head _)) (hps.mono fun q hq => .tail _ (.tail _ hq)) (by rw [hql]; exact Nat.succ_le_succ hk4) hLap.sorted hLap.pos (Nat.le_trans hLap.len (by decide)) hob3 (.tail _ (.tail _ Tbx)) (.tail _ (.tail _ TDB)) (.tail _ (.tail _ TLS)) (hLR.mono fun q hq => .tail _ (.tail _ (R3s q hq))) (Nat.le_trans hus3 (by decide)) hus1) ?_)
                      rintro v news5 h5 tk5 F5 N5 ⟨a5, ys5, kk5, rfl, ha5, hs5, hi5⟩
                      dsimp only
                      have S5 : ∀ q ∈ R3, q ∈ news5 := fun q hq => hs5 q (.tail _ (.tail _ hq))
                      have Vcl := S5 _ Tcl
                      have Vcv := S5 _ Tcv
                      have VCO := S5 _ TCO
                      have VTH := S5 _ TTH
                      have Vct := S5 _ Tct
                      (repeat' (first | (k_unfold; (try dsimp only)) | walk1 | (dsimp only; walk1) | fail "no step"))
                      unfold Stop
                      (refine Does.call (by k_asm) (by k_asm) (by k_asm) (by k_asm) (by k_asm) (by exact rfl) (by decide) (by decide) (law_due_does VCO hIc VTH htv (hs5 _ (.tail _ (.head _))) (hps.mono S5) (by rw [hql]; exact Nat.succ_le_succ hk4) (Nat.le_trans hLap.len (by decide)) (Nat.le_trans hus3 (by decide))) ?_)
                      rintro v news6 h6 tk6 F6 N6 ⟨a6, ys6, kk6, rfl, ha6, hs6, hi6⟩
                      dsimp only
                      (repeat' (first | (k_unfold; (try dsimp only)) | (with_reducible ((with_reducible show wpAny _ _ (compareOp CmpOp.NotEq (Value.ref _) (Value.ref _)) _ _ _); refine Stop.out ?_)) | walk1 | (dsimp only; walk1) | fail "no step"))
                      unfold Stop
                      (rename News _ _ _ _ => N9)
                      refine ne_same (News.isList N9 (hs6 _ ha5)) hi5 (News.isList N9 ha6) hi6 (by simp only [units_deeper, units_caller]; decide) ?_
                      have N10 := news_sub (l' := (LN, lo4) :: (I2, io2) :: R) N9 (sub_cons (hs6 _ (hs5 _ (.head _))) (sub_cons (hs6 _ (S5 _ (hs3 _ hI2R))) (fun q hq => hs6 _ (S5 _ (R3s q hq)))))
                      clear N9
                      (repeat' (first | (k_unfold; (try dsimp only)) | walk1 | (dsimp only; walk1) | fail "no step"))
                      unfold Stop
                      (rename News _ _ _ _ => N9)
                      obtain ⟨T2, e⟩ := nameHead N9
                      subst e
                      obtain ⟨T1, e⟩ := nameHead (news_tl N9)
                      subst e
                      (refine Does.call (by k_asm) (by k_asm) (by k_asm) (by k_asm) (by k_asm) (by exact rfl) (by decide) (by decide) (there_in_does (svs := [.ref T1]) (qs := [(1, 0)]) hv (.tail _ (.tail _ (.tail _ (.tail _ Mva)))) (.tail _ (.tail _ (.tail _ (.tail _ Mvd)))) (.tail _ (.tail _ (.tail _ (.tail _ Mul)))) hIu (.head _) (.cons ⟨T1, _, _, _, rfl, .tail _ (.head _)⟩ .nil) (by decide) hLap.sorted hLap.pos (Nat.le_trans hLap.len (by decide)) hob3 (.tail _ (.tail _ (.tail _ (.tail _ Mbx)))) (.tail _ (.tail _ (.tail _ (.tail _ MDB)))) (.tail _ (.tail _ (.tail _ (.tail _ MLS)))) (hLR.mono fun q hq => .tail _ (.tail _ (.tail _ (.tail _ hq)))) (Nat.le_trans hus3 (by decide)) hus1) ?_)
                      rintro v news7 h7 tk7 F7 N7 ⟨a7, ys7, kk7, rfl, ha7, hs7, hi7⟩
                      dsimp only
                      rw [sel_all hLap.sorted hLap.pos] at hi7
                      have N12 := news_sub (l' := (a7, listOf (List.toArray ys7) kk7) :: (LN, lo4) :: (I2, io2) :: R) N7 (sub_cons ha7 (fun q hq => hs7 _ (.tail _ (.tail _ hq))))
                      clear N7
                      (repeat' (first | (k_unfold; (try dsimp only)) | (with_reducible ((with_reducible show wpAny _ _ (eval (Expr.ListComp _ [Comprehension.mk _ _ [_] _] _ _) _) _ _ _); k_dflt (refine LCt.ListComp_T (F₀ := by k_asm) (by with_unfolding_all rfl) (by decide) (by rfl) (by decide) (by rfl) ?_))) | walk1 | (dsimp only; walk1) | fail "no step"))
                      unfold Stop
                      refine LCt.CompSrcT.ledger (by rfl) (by k_asm) (by k_asm) (.tail _ (.tail _ (.tail _ MCO))) (by rw [List.size_toArray, sizeLine_eq, hIc.length]; exact Nat.le_trans hLap.len (by decide)) ?_
                      intro g5
                      refine restT_J (fun i ys nx => nx = _ ∧ IntsAre ys ((cs.take i).filter (fun u => decide (u ∈ us)))) ⟨rfl, .nil⟩ ?_ ?_ ?_
                      · rintro i ys nx ⟨rfl, _⟩
                        exact .inr ⟨_, .tail _ (.tail _ (.tail _ MCO)), rfl, _, rfl⟩
                      · rintro i v ys nx I4 oI4 C oC D9 m₄ h tk E' hi hv ⟨rfl, hys⟩ hC hx F1 N1 off ne
                        obtain ⟨u, tu, rfl, hu⟩ := hIc.at i v (by simpa using hv)
                        by_cases hm : u ∈ us
                        · have hb := any_t hm
                          (repeat' (first | (k_unfold; (try dsimp only)) | (with_reducible ((with_reducible show wpAny _ _ (compareOp CmpOp.In (Value.int _ _) (Value.ref _)) _ _ _); k_dflt (refine in_listB (News.isList (by k_asm) (by k_mem)) (by with_reducible assumption) (b := true) (by with_reducible assumption) ?_))) | walk1 | (dsimp only; walk1) | fail "no step"))
                          refine LCg.CompEnd.intro (by k_asm) (by k_asm) _ (fun q hq => hq) off trivial ⟨rfl, ints_keep hys hu (by simpa using hm)⟩
                        · have hb := any_f hm
                          (repeat' (first | (k_unfold; (try dsimp only)) | (with_reducible ((with_reducible show wpAny _ _ (compareOp CmpOp.In (Value.int _ _) (Value.ref _)) _ _ _); k_dflt (refine in_listB (News.isList (by k_asm) (by k_mem)) (by with_reducible assumption) (b := false) (by with_reducible assumption) ?_))) | walk1 | (dsimp only; walk1) | fail "no step"))
                          refine LCg.CompEnd.intro (by k_asm) (by k_asm) _ (fun q hq => hq) off trivial ⟨rfl, ints_skip hys hu (by simpa using hm)⟩
                      · rintro ys8 nx ⟨rfl, hi8⟩
                        have hi8 := ints_all hi8 (by simpa using hIc.length)
                        intro D11 h tk F1 N1 off
                        dsimp only
                        (repeat' (first | (k_unfold; (try dsimp only)) | (with_reducible ((with_reducible show wpAny _ _ (compareOp CmpOp.NotEq (Value.ref _) (Value.ref _)) _ _ _); refine Stop.out ?_)) | walk1 | (dsimp only; walk1) | fail "no step"))
                        unfold Stop
                        (rename News _ _ _ _ => N9)
                        refine ne_same (News.isList N9 (.tail _ (.head _))) hi7 (News.isList N9 (.head _)) hi8 (by simp only [units_deeper, units_caller]; decide) ?_
                        have N13 := news_sub (l' := (I2, io2) :: (LN, lo4) :: R) N9 (sub_cons (.tail _ (.tail _ (.tail _ (.head _)))) (sub_cons (.tail _ (.tail _ (.head _))) (fun q hq => .tail _ (.tail _ (.tail _ (.tail _ hq))))))
                        clear N9
                        (repeat' (first | (k_unfold; (try dsimp only)) | walk1 | (dsimp only; walk1) | fail "no step"))
                        refine TPost.go (nx := (LN, lo4) :: R) (by (first | k_asm | assumption)) (by (first | k_asm | assumption)) (all_cons (by k_ne) hoff2) ⟨some (.ref PT), some (.bool b), lo4, upd_two _, rfl, hlo4⟩
--T4}
--T7{
                  · rintro m'' nx' h tk ⟨eP2, eI2, lo2, rfl, rfl, hlo2⟩ F2 N2
                    subst hm₃
                    dsimp only
                    (repeat' (first | (k_unfold; (try dsimp only)) | (with_reducible ((with_reducible show wpAny _ _ (eval (Expr.ListComp _ [Comprehension.mk _ _ [_] _] _ _) _) _ _ _); k_dflt (refine LCt.ListComp_T (F₀ := by k_asm) (by with_unfolding_all rfl) (by decide) (by rfl) (by decide) (by rfl) ?_))) | walk1 | (dsimp only; walk1) | fail "no step"))
                    unfold Stop
                    refine LCt.CompSrcT.ledger (by rfl) (by k_asm) (by k_asm) (.tail _ MGO) (by rw [List.size_toArray, sizeLine_eq, hIg.length]; exact Nat.le_trans hLap.glen (by decide)) ?_
                    intro g6
                    refine restT_J (fun i ys nx => nx = (LN, lo2) :: R ∧ ys = []) ⟨rfl, rfl⟩ ?_ ?_ ?_
                    · rintro i ys nx ⟨rfl, _⟩
                      exact .inr ⟨_, .tail _ MGO, rfl, _, rfl⟩
                    · rintro i v ys nx I4 oI4 C oC D9 m₄ h tk E' hi hvi ⟨rfl, rfl⟩ hC hx F1 N1 off ne
                      obtain ⟨u, tu, rfl, hu⟩ := hIg.at i v (by simpa using hvi)
                      have hug := hLap.gone u (List.mem_of_getElem? hu)
                      (repeat' (first | (k_unfold; (try dsimp only)) | walk1 | (dsimp only; walk1) | fail "no step"))
                      unfold Stop
                      (rename News _ _ _ _ => N9)
                      obtain ⟨T2, e⟩ := nameHead N9
                      subst e
                      obtain ⟨T1, e⟩ := nameHead (news_tl N9)
                      subst e
                      (refine Does.call (by k_asm) (by k_asm) (by k_asm) (by k_asm) (by k_asm) (by exact rfl) (by decide) (by decide) (there_in_does (svs := [.ref T1]) (qs := [(u, u)]) hv (.tail _ (.tail _ (.tail _ (.tail _ (.tail _ (.tail _ Mva)))))) (.tail _ (.tail _ (.tail _ (.tail _ (.tail _ (.tail _ Mvd)))))) (.tail _ (.tail _ (.tail _ (.tail _ (.tail _ (.tail _ Mul)))))) hIu (.head _) (.cons ⟨T1, _, _, _, rfl, .tail _ (.head _)⟩ .nil) (Nat.succ_le_succ (Nat.zero_le _)) hLap.sorted hLap.pos (Nat.le_trans hLap.len (by decide)) hob3 (.tail _ (.tail _ (.tail _ (.tail _ (.tail _ (.tail _ Mbx)))))) (.tail _ (.tail _ (.tail _ (.tail _ (.tail _ (.tail _ MDB)))))) (.tail _ (.tail _ (.tail _ (.tail _ (.tail _ (.tail _ MLS)))))) (hLR.mono fun q hq => .tail _ (.tail _ (.tail _ (.tail _ (.tail _ (.tail _ hq)))))) (Nat.le_trans hus3 (by decide)) hus1) ?_)
                      rintro v news7 h7 tk7 F7 N7 ⟨a7, ys7, kk7, rfl, ha7, hs7, hi7⟩
                      dsimp only
                      rw [sel_one hug.1 hug.2] at hi7
                      have N12 := news_sub (l' := (a7, listOf (List.toArray ys7) kk7) :: (I4, oI4) :: (C, oC) :: (D9, LCg.lst []) :: (LN, lo2) :: R) N7 (sub_cons ha7 (fun q hq => hs7 _ (.tail _ (.tail _ hq))))
                      clear N7
                      (repeat' (first | (k_unfold; (try dsimp only)) | (with_reducible ((with_reducible show wpAny _ _ (compareOp CmpOp.NotEq (Value.ref _) (Value.ref _)) _ _ _); refine Stop.out ?_)) | walk1 | (dsimp only; walk1) | fail "no step"))
                      unfold Stop
                      (rename News _ _ _ _ => N9)
                      refine ne_same (News.isList N9 (.tail _ (.head _))) hi7 (News.isList N9 (.head _)) .nil (by simp only [units_deeper, units_caller]; decide) ?_
                      have N13 := news_sub (l' := (I4, oI4) :: (C, oC) :: (D9, LCg.lst []) :: (LN, lo2) :: R) N9 (fun q hq => .tail _ (.tail _ hq))
                      clear N9
                      (repeat' (first | (k_unfold; (try dsimp only)) | walk1 | (dsimp only; walk1) | fail "no step"))
                      refine LCg.CompEnd.intro (by k_asm) (by k_asm) _ (fun q hq => hq) off trivial ⟨rfl, rfl⟩
                    · rintro ys nx ⟨rfl, rfl⟩
                      intro D12 h tk F1 N1 off
                      dsimp only
                      (repeat' (first | (k_unfold; (try dsimp only)) | (with_reducible ((with_reducible show wpAny _ _ (compareOp CmpOp.NotEq (Value.ref _) (Value.ref _)) _ _ _); refine Stop.out ?_)) | walk1 | (dsimp only; walk1) | fail "no step"))
                      unfold Stop
                      (rename News _ _ _ _ => N9)
                      refine ne_same (News.isList N9 (.tail _ (.head _))) .nil (News.isList N9 (.head _)) .nil (by simp only [units_deeper, units_caller]; decide) ?_
                      subst hR
                      have N13 := news_nw N9
                      clear N9
                      (repeat' (first | (k_unfold; (try dsimp only)) | walk1 | (dsimp only; walk1) | fail "no step"))
                      unfold Stop
                      have L9 := hLap.le (Nat.le_of_lt hi)
                      have S9 : ∀ q ∈ rest9, q ∈ (LN, lo2) :: (I, io) :: (CO, listOf (List.toArray cvs) kc) :: (GO, listOf (List.toArray gvs) kg) :: rest9 := fun q hq => .tail _ (.tail _ (.tail _ (.tail _ hq)))
                      (refine Does.call (by k_asm) (by k_asm) (by k_asm) (by k_asm) (by k_asm) (by exact rfl) (by decide) (by decide) (news_does hv (S9 _ yva) hIu (Nat.le_trans hLap.len (by decide)) hLap.sorted hof hom (hF.mono S9) hM L9.1 L9.2 lo9 hob3 (S9 _ ybx) (S9 _ mDB) (S9 _ mLS) (hLs9.mono S9) (Nat.le_trans hus3 (by decide)) hus1 hus2 hLap.fresh (all_cons z1 (all_cons (by k_ne) (all_cons c2 (all_cons e2 w2)))) (all_cons z3 (all_cons (by k_ne) (all_cons c4 (all_cons e4 w4)))) (all_cons z4 (all_cons (by k_ne) (all_cons c5 (all_cons e5 w5)))) (all_cons x5 (all_cons (by k_ne) (all_cons c3 (all_cons e3 x1)))) v1 v2 v3 x2 x3 x4) ?_)
                      rintro v news8 h8 tk8 F8 N8 ⟨od', of', om', ul', uvs', kul', kf', km', rfl, hv', hIu', hof', hom', hF', hM', hlf', hlm', y1, y2, y3, y4⟩
                      dsimp only
                      have hF9' := ((((hF'.drop hlo2.cls).drop (by rw [hio]; exact fun e => by injection e with e; exact absurd e (by decide))).drop (fun e => by injection e with e; exact absurd e (by decide))).drop (fun e => by injection e with e; exact absurd e (by decide)))
                      ((have kspZ := off1_of y1); (dsimp only [LCg.Off1] at kspZ); first | replace y1 := off_t12 y1 | replace y1 := off_t11 y1 | replace y1 := off_t10 y1 | replace y1 := off_t9 y1 | replace y1 := off_t8 y1 | replace y1 := off_t7 y1 | replace y1 := off_t6 y1 | replace y1 := off_t5 y1 | replace y1 := off_t4 y1 | replace y1 := off_t3 y1 | replace y1 := off_t2 y1 | replace y1 := off_t1 y1)
                      (repeat' (first | (k_unfold; (try dsimp only)) | walk1 | (dsimp only; walk1) | fail "no step"))
                      (rename News _ _ _ _ => N9)
                      obtain ⟨G2, e⟩ := nameHead N9
                      subst e
                      obtain ⟨C2, e⟩ := nameHead (news_tl N9)
                      subst e
                      have a1 : @Ne Nat G2 LN := by k_ne
                      have a2 : @Ne Nat G2 vd := by k_ne
                      have a3 : @Ne Nat G2 ul' := by k_ne
                      have a4 : @Ne Nat G2 fd := by k_ne
                      have a5 : @Ne Nat G2 md := by k_ne
                      have a6 : @Ne Nat G2 I := by k_ne
                      have b1 : @Ne Nat C2 LN := by k_ne
                      have b2 : @Ne Nat C2 vd := by k_ne
                      have b3 : @Ne Nat C2 ul' := by k_ne
                      have b4 : @Ne Nat C2 fd := by k_ne
                      have b5 : @Ne Nat C2 md := by k_ne
                      have b6 : @Ne Nat C2 I := by k_ne
                      have b7 : @Ne Nat LN ul' := by k_ne
                      have b8 : @Ne Nat ul' I := by k_ne
                      refine TPost.go (nx := (LN, lo2) :: (vd, od') :: (fd, of') :: (md, om') :: (ul', listOf (List.toArray uvs') kul') :: (C2, listOf (List.toArray tvs) _) :: (G2, listOf (List.toArray []) 0) :: rest9) (by (first | k_asm | assumption)) (news_fin N9) (all_cons (by k_ne) (all_cons (by k_ne) (all_cons (by k_ne) (all_cons (by k_ne) (all_cons b8 (all_cons b6 (all_cons a6 hoff)))))))
                        ⟨_, _, _, lo2, od', of', om', ul', uvs', kul', kf', km', C2, G2, tvs, [], _, _, us, [], upd_five _, rfl, hlo2, hv', hIu', htv, .nil, hof', hF9', hom', hM', hLap.next hus1 hus2 (Nat.le_trans hus3 (by decide)) hlf' hlm', y1, y2, y3, y4, b7, ⟨b1, b2, b3, b4, b5⟩, ⟨a1, a2, a3, a4, a5⟩⟩
--T7}
--T6{
                · rintro m' nx h tk ⟨eP, eI, eL, lo, od, of, om, ul, uvs, kul, kf, km, CO, GO, cvs, gvs, kc, kg, cs, gs, rfl, rfl, hlo, hv, hIu, hIc, hIg, hof, hF, hom, hM, hLap, x1, x2, x3, x4, x5, ⟨c1, c2, c3, c4, c5⟩, ⟨e1, e2, e3, e4, e5⟩⟩ F1 N1
                  subst hm₂
                  dsimp only
                  obtain rfl := hLap.done (by decide)
                  obtain ⟨vwE, rfl⟩ := hv
                  (repeat' (first | (k_unfold; (try dsimp only)) | walk1 | (dsimp only; walk1) | fail "no step"))
                  exact goodW_bool F1 (by assumption) (raisesW_false allW_false_nil) (law_post _)
--T6}

end Mine
theorem PySem.Challenge.cw_or0056_01_holds : PySem.Challenge.rw_or0056_01.Holds := by
  exact Mine.law_go
